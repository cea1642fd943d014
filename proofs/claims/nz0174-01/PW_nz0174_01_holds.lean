import PyProof.Rows.All
import Wide.All
import OpenK.AllK
import Wide.FinOn
import Open.Tops
import KE.KDictSum
import PyProof.ExcInit
import PyProof.ExcClass2
import PyProof.ExcBaseAll.Exception
import PyProof.InstStoreFacts
import Lean
import PySem.Challenge.RW_nz0174_01
set_option maxRecDepth 100000
set_option bootstrap.genMatcherCode false
set_option genSizeOf false
set_option Elab.async false
set_option linter.all false
set_option maxHeartbeats 8000000
set_option compiler.extract_closed false
local macro_rules | `(tactic| omega) => `(tactic| lia)
namespace Mine
noncomputable section
section
open PySem PySem.W PyProof.Rows PySem.Calls
inductive V where
 | unb
 | none
 | bool (b:Bool)
 | int (i:Int)
 | str (s:Str)
 | bytes (b:List UInt8)
 | ext (v:Value)
 | loc (k:Nat)
 | inst (C:Addr) (fs:List (Nat×V))
 | lst (xs:List V)
 | tup (xs:List V)
 | dct (es:List (V×V))
 | rv (v:Value) (x:V)
inductive MO where
 | inst (C:Addr) (fs:List (Nat×V))
 | lst (xs:List V)
 | dct (es:List (V×V))
structure S where
 env:List V
 st:List MO
inductive Rs (β:Type) where
 | ok (x:β) (σ:S)
 | exc (C:Addr)
 | no
theorem ay {α:Type}{a:α}{G:Prop}(h:(Option.none:Option α)=some a):G:=by cases h
theorem ZH {G:Prop}(h:true=false):G:=by cases h
theorem nq {G:Prop}(h:false=true):G:=by cases h
theorem Rs.noK {β:Type}{x:β}{σ:S}{G:Prop}(h:(Rs.no:Rs β)=.ok x σ):G:=by cases h
noncomputable def Rs.bind {β γ:Type}(r:Rs β) (f:β→S→Rs γ):Rs γ:=match r with
 | .ok x σ=>f x σ
 | .exc C=>.exc C
 | .no=>.no
abbrev Led:=List (Addr×Obj)
structure aV where
 nw:Led
 fz:Led
 rho:List (Addr×Addr)
 frs:List Addr
def FZ (b:Heap) (fz:Led) (a:Addr) (o:Obj):Prop:=b.get? a=some o∨(a,o)∈fz
noncomputable abbrev tupOf (vs:List Value) (n:Nat):Obj:={ cls:=.type "tuple",data:=.seq vs.toArray n }
noncomputable abbrev lstOf (vs:List Value) (n:Nat):Obj:={ cls:=.type "list",data:=.seq vs.toArray n }
noncomputable def OH:List String:=["what","at","name","kinds","opcode","escape","digit","size","must","is_wide","number","places","kind","register","worth","base","index","scale","segment","operands","prefix","is_data","repeat","is_lock","rex","instruction","length","form","prefixes","begin","code_at","w","r","x","b","modrm_at","mod","reg","rm","sib","disp","width","rest_at","octets","text","forms","by_name","by_code"]
noncomputable def attrName (i:Nat):Str:=Str.ofString (OH.getD i "")
noncomputable def b0:List V→Option (List Int)
 | []=>some []
 | .int n::xs=>match b0 xs with
  | some r=>some (n::r)
  | Option.none=>Option.none
 | _=>Option.none
def hashOf (P:Params):V→Option Int
 | .int i=>some (hashInt i)
 | .str s=>some (PyData.keyHash P s)
 | .tup xs=>match b0 xs with
  | some ns=>some (reduceHash (Builtin.Tuple.tupleHashOf (ns.map hashInt)))
  | Option.none=>Option.none
 | _=>Option.none
inductive VR (P:Params) (F:Addr→Obj→Prop) (rho:List (Addr×Addr)):Value→V→Prop
 | none:VR P F rho .none .none
 | bool (b):VR P F rho (.bool b) (.bool b)
 | int (i t):VR P F rho (.int i t) (.int i)
 | str (s t):VR P F rho (.str s t) (.str s)
 | bytes (b:Array UInt8) (t):VR P F rho (.bytes b t) (.bytes b.toList)
 | ext (v):VR P F rho v (.ext v)
 | loc {k x d}:rho[k]?=some (x,d)→VR P F rho (.ref x) (.loc k)
 | tup {a vs n xs}:F a (tupOf vs n)→vs.length=xs.length→(∀ (i:Nat) v x,vs[i]?=some v→xs[i]?=some x→VR P F rho v x)→VR P F rho (.ref a) (.tup xs)
 | lst {a vs n xs}:F a (lstOf vs n)→vs.length=xs.length→(∀ (i:Nat) v x,vs[i]?=some v→xs[i]?=some x→VR P F rho v x)→VR P F rho (.ref a) (.lst xs)
 | inst {x C dx es n fs}:F x (instObj C dx)→F dx (dictOf es n)→es.length=fs.length→
   (∀ (i:Nat) (e:DictEntry) (f:Nat×V),es[i]?=some e→fs[i]?=some f→∃ t,e.key=.str (attrName f.1) t)→
   (∀ (i:Nat) (e:DictEntry) (f:Nat×V),es[i]?=some e→fs[i]?=some f→VR P F rho e.val f.2)→VR P F rho (.ref x) (.inst C fs)
 | dct {a es n fs}:F a (dictOf es n)→(a==sysModules)=false→es.length=fs.length→
   (∀ (i:Nat) (e:DictEntry) (f:V×V),es[i]?=some e→fs[i]?=some f→hashOf P f.1=some e.hash)→(fs.map (·.1)).Nodup→
   (∀ (i:Nat) (e:DictEntry) (f:V×V),es[i]?=some e→fs[i]?=some f→VR P F rho e.key f.1)→
   (∀ (i:Nat) (e:DictEntry) (f:V×V),es[i]?=some e→fs[i]?=some f→VR P F rho e.val f.2)→VR P F rho (.ref a) (.dct fs)
 | rv {v x}:VR P F rho v x→VR P F rho v (.rv v x)
theorem VR.mono {P:Params}{F F':Addr→Obj→Prop}{rho rho':List (Addr×Addr)}(hF:∀ a o,F a o→F' a o) (hr:∀ (k:Nat) q,rho[k]?=some q→rho'[k]?=some q) {v:Value}{x:V}
  (h:VR P F rho v x):VR P F' rho' v x:=by
 induction h with
 | none=>exact .none
 | bool b=>exact .bool b
 | int i t=>exact .int i t
 | str s t=>exact .str s t
 | bytes b t=>exact .bytes b t
 | ext v=>exact .ext v
 | loc h=>exact .loc (hr _ _ h)
 | tup h1 h2 _ ih=>exact .tup (hF _ _ h1) h2 ih
 | lst h1 h2 _ ih=>exact .lst (hF _ _ h1) h2 ih
 | inst h1 h2 h3 h4 _ ih=>exact .inst (hF _ _ h1) (hF _ _ h2) h3 h4 ih
 | dct h1 h2 h3 h4 h5 _ _ ih1 ih2=>exact .dct (hF _ _ h1) h2 h3 h4 h5 ih1 ih2
 | rv _ ih=>exact .rv ih
def VRs (P:Params) (F:Addr→Obj→Prop) (rho:List (Addr×Addr)) (vs:List Value) (xs:List V):Prop:=
 vs.length=xs.length∧∀ (i:Nat) v x,vs[i]?=some v→xs[i]?=some x→VR P F rho v x
inductive OR (P:Params) (F:Addr→Obj→Prop) (rho:List (Addr×Addr)) (x d:Addr):Obj→MO→Prop
 | inst {C es n fs}:F x (instObj C d)→es.length=fs.length→es.length≤1000→
   (∀ (i:Nat) (e:DictEntry) (f:Nat×V),es[i]?=some e→fs[i]?=some f→(∃ t,e.key=.str (attrName f.1) t)∧VR P F rho e.val f.2)→OR P F rho x d (dictOf es n) (.inst C fs)
 | lst {vs n xs}:x=d→VRs P F rho vs xs→OR P F rho x d (lstOf vs n) (.lst xs)
 | dct {es n fs}:x=d→(x==sysModules)=false→es.length=fs.length→(fs.map (·.1)).Nodup→
   (∀ (i:Nat) (e:DictEntry) (f:V×V),es[i]?=some e→fs[i]?=some f→hashOf P f.1=some e.hash∧VR P F rho e.key f.1∧VR P F rho e.val f.2)→OR P F rho x d (dictOf es n) (.dct fs)
theorem VRs.mono {P:Params}{F F':Addr→Obj→Prop}{rho rho':List (Addr×Addr)}(hF:∀ a o,F a o→F' a o) (hr:∀ (k:Nat) q,rho[k]?=some q→rho'[k]?=some q) {vs:List Value}{xs:List V}
  (h:VRs P F rho vs xs):VRs P F' rho' vs xs:=⟨h.1,fun i v x a b=>(h.2 i v x a b).mono hF hr⟩
theorem OR.mono {P:Params}{F F':Addr→Obj→Prop}{rho rho':List (Addr×Addr)}(hF:∀ a o,F a o→F' a o) (hr:∀ (k:Nat) q,rho[k]?=some q→rho'[k]?=some q) {x d:Addr}{o:Obj}{m:MO}
  (h:OR P F rho x d o m):OR P F' rho' x d o m:=by
 cases h with
 | inst h1 h2 hz h3=>exact .inst (hF _ _ h1) h2 hz fun i e f a b=>⟨(h3 i e f a b).1,(h3 i e f a b).2.mono hF hr⟩
 | lst h1 h2=>exact .lst h1 (h2.mono hF hr)
 | dct h1 h2 h3 h5 h4=>exact .dct h1 h2 h3 h5 fun i e f a b=>⟨(h4 i e f a b).1,(h4 i e f a b).2.1.mono hF hr,(h4 i e f a b).2.2.mono hF hr⟩
structure Act where
 w:World
 b:Heap
 ns:List Str
 L:Addr
 env:Env
 stk:List Env
 cn:List Str
 cl:List (Str×Addr)
structure Rel (c:Act) (h:Heap) (m:Str→Option Value) (W:aV) (σ:S):Prop where
 F:Fr c.b c.L h m
 N:News c.b c.L h W.nw
 nd:(W.nw.map (·.1)).Nodup
 fz:∀ p∈W.fz,p∈W.nw
 off:∀ q∈W.rho,∀ p∈W.fz,p.1≠q.2
 rnd:(W.rho.map (·.2)).Nodup
 fro:∀ q∈W.rho,q.2∉W.frs
 ffr:∀ p∈W.fz,p.1∉W.frs
 fra:∀ a∈W.frs,a∈W.nw.map (·.1)
 frd:∀ p∈W.nw,p.1∈W.frs→∀ vs,p.2.data≠.fields vs
 len:W.rho.length=σ.st.length
 st:∀ (k:Nat) o,σ.st[k]?=some o→∃ x d ro,W.rho[k]?=some (x,d)∧(d,ro)∈W.nw∧OR c.w.params (FZ c.b W.fz) W.rho x d ro o
 elen:σ.env.length=c.ns.length+c.cn.length
 env:∀ (i:Nat) n v,c.ns[i]?=some n→σ.env[i]?=some v→v=.unb∨∃ u,m n=some u∧VR c.w.params (FZ c.b W.fz) W.rho u v
 cell:∀ (j:Nat) n v,c.cn[j]?=some n→σ.env[c.ns.length+j]?=some v→v=.unb∨∃ a o u,c.cl.lookup n=some a∧(a,o)∈W.fz∧o.data=.cell (some u)∧VR c.w.params (FZ c.b W.fz) W.rho u v
 stk:∀ e∈c.stk,e.scope.kind≠.module∧∃ a,e.frame=some a∧(a=c.L∨a∈W.frs)
structure aJ (W W':aV):Prop where
 fz:∀ p∈W.fz,p∈W'.fz
 rho:∀ (k:Nat) q,W.rho[k]?=some q→W'.rho[k]?=some q
 ad:∀ a∈W.nw.map (·.1),a∈W'.nw.map (·.1)
 new:∀ q∈W'.rho,q∈W.rho∨q.2∉W.nw.map (·.1)
 nw:∀ p∈W.nw,(∀ q∈W.rho,p.1≠q.2)→p.1∉W.frs→p∈W'.nw
 frs:W'.frs=W.frs
 fr:∀ p∈W.nw,p.1∈W.frs→(∀ q∈W.rho,p.1≠q.2)→∃ sl,(p.1,{ p.2 with slots:=sl })∈W'.nw
 fzn:∀ p∈W'.fz,p∈W.fz∨p.1∉W.nw.map (·.1)
theorem aJ.refl (W:aV):aJ W W:=⟨fun _ h=>h,fun _ _ h=>h,fun _ h=>h,fun _ h=>.inl h,fun _ h _ _=>h,rfl,fun p h _ _=>⟨p.2.slots,h⟩,fun _ h=>.inl h⟩
theorem aJ.apart {W W':aV}(a:aJ W W') {p:Addr×Obj}(hp:p∈W.nw) (h:∀ q∈W.rho,p.1≠q.2):∀ q∈W'.rho,p.1≠q.2:=fun q hq=>by
 rcases a.new q hq with hm | hm
 ·exact h q hm
 ·exact fun e=>hm (e▸List.mem_map_of_mem hp)
theorem aJ.trans {W W' W'':aV}(a:aJ W W') (b:aJ W' W''):aJ W W'':=by
 refine⟨fun p h=>b.fz p (a.fz p h),fun k q h=>b.rho k q (a.rho k q h),fun x h=>b.ad x (a.ad x h),fun q hq=>?_,fun p h h1 h2=>?_,b.frs.trans a.frs,fun p h h1 h2=>?_,fun p h=>?_⟩
 ·rcases b.new q hq with h | h
  ·exact a.new q h
  ·exact .inr fun e=>h (a.ad _ e)
 ·exact b.nw p (a.nw p h h1 h2) (a.apart h h1) (a.frs▸h2)
 ·obtain⟨sl,hsl⟩:=a.fr p h h1 h2
  obtain⟨sl',hsl'⟩:=b.fr _ hsl (a.frs▸h1) (aJ.apart a (p:=p) h h2)
  exact⟨sl',hsl'⟩
 ·rcases b.fzn p h with h | h
  ·exact a.fzn p h
  ·exact .inr fun e=>h (a.ad _ e)
theorem FZ.mono {b:Heap}{fz fz':Led}(h:∀ p∈fz,p∈fz') (a:Addr) (o:Obj) (x:FZ b fz a o):FZ b fz' a o:=x.imp id (h _)
theorem aJ.vr {b:Heap}{P:Params}{W W':aV}(e:aJ W W') {v:Value}{x:V}(h:VR P (FZ b W.fz) W.rho v x):VR P (FZ b W'.fz) W'.rho v x:=h.mono (FZ.mono e.fz) e.rho
theorem aJ.vrs {b:Heap}{P:Params}{W W':aV}(e:aJ W W') {vs:List Value}{xs:List V}(h:VRs P (FZ b W.fz) W.rho vs xs):VRs P (FZ b W'.fz) W'.rho vs xs:=h.mono (FZ.mono e.fz) e.rho
section
def th (B:Heap) (l:List Env) (e:Addr) (cls a0:Value) (h:Heap):Prop:=
 B.StaysIn h∧B.get? e=none∧h.FunFrames B l∧(h.TracedW B e cls a0∨∃ oe vs,h.get? e=some oe∧oe.cls=cls∧oe.data=.fields vs∧vs[1]?=some .none∧vs[0]?=some a0)
theorem rk {M:Model}{A:Around}{E:Value→Shared→Prop}{s:Shared}{B:Heap}{env:Env}{outer:List Env}{L e:Addr}{cls a0:Value}{Q:Unit→Shared→Prop}
  (hfr:A.frames=some (env::outer)) (hf:env.frame=some L) (hfl:th B (env::outer) e cls a0 s.heap)
  (hQ:∀ h',th B outer e cls a0 h'→s.heap.UpToSlots h'→Q () { s with heap:=h' }):wpAny M A (PySem.leaving env (.ref e)) Q E s:=by
 obtain⟨f1,f2,f3,f4 | ⟨oe,vs,g1,g2,g3,g4,g5⟩⟩:=hfl
 ·exact wpAny_leaves_onW hfr hf ⟨f1,f2,f3,f4⟩ fun h' x up=>hQ h' ⟨x.1,x.2.1,x.2.2.1,.inl x.2.2.2⟩ up
 ·refine wpAny_leaving_firstW hfr f3 hf g1 f1 f2 g3 g4 g5 fun h' hL=>?_
  obtain⟨k1,⟨_,_,k2⟩,k3,k4⟩:=hL
  exact hQ h' ⟨k1,f2,k2,.inl (g2▸k3)⟩ k4
def dE (c:Act) (W:aV) (C:Addr) (e:Addr) (h:Heap):Prop:=
 ∃ B a0,c.b.StaysIn B∧(∀ p∈W.nw,(∀ q∈W.rho,p.1≠q.2)→p.1∉W.frs→B.get? p.1=some p.2)∧
  th B c.stk e (.ref C) a0 h∧(∃ m,h.Ns c.L m)∧
  ∀ p∈W.nw,p.1∈W.frs→(∀ q∈W.rho,p.1≠q.2)→∃ sl,h.get? p.1=some { p.2 with slots:=sl }
theorem dE.ext {c:Act}{W W':aV}{C e:Addr}{h:Heap}(x:aJ W W') (t:dE c W' C e h):dE c W C e h:=by
 obtain⟨B,a0,h1,h2,h3,h4,h5⟩:=t
 refine⟨B,a0,h1,fun p hp ha hf=>h2 p (x.nw p hp ha hf) (x.apart hp ha) (x.frs▸hf),h3,h4,fun p hp hf ha=>?_⟩
 obtain⟨sl,hsl⟩:=x.fr p hp hf ha
 obtain⟨sl',hsl'⟩:=h5 _ hsl (x.frs▸hf) (aJ.apart x (p:=p) hp ha)
 exact⟨sl',hsl'⟩
noncomputable def aA {α β:Type}(c:Act) (rel:aV→α→β→Prop) (s:Shared) (W:aV) (Q:α→Shared→Prop) (E:Value→Shared→Prop):Rs β→Prop
 | .ok x σ'=>∀ a h' tk m' W',Rel c h' m' W' σ'→aJ W W'→rel W' a x→Q a { s with heap:=h',toks:=tk }
 | .exc C=>∀ e h' tk,dE c W C e h'→E (.ref e) { s with heap:=h',toks:=tk }
 | .no=>False
section
variable {α β γ δ:Type}{c:Act}{rel:aV→α→β→Prop}{rel2:aV→γ→δ→Prop}{s:Shared}{W W':aV}{Q:α→Shared→Prop}{Q2:γ→Shared→Prop}{E:Value→Shared→Prop}
theorem aA.ext {r:Rs β}{h':Heap}{tk:Nat}(p:aA c rel s W Q E r) (x:aJ W W'):aA c rel { s with heap:=h',toks:=tk } W' Q E r:=by
 cases r with
 | ok y σ=>exact fun a h'' tk' m' W'' R X ra=>p a h'' tk' m' W'' R (x.trans X) ra
 | exc C=>exact fun e h'' tk' t=>p e h'' tk' (t.ext x)
 | no=>exact p
theorem aA.bind {r:Rs β}{g:β→S→Rs δ}(p:aA c rel2 s W Q2 E (r.bind g))
  (k:∀ a y σ' h' tk m' W',Rel c h' m' W' σ'→aJ W W'→rel W' a y→aA c rel2 { s with heap:=h',toks:=tk } W' Q2 E (g y σ')→Q a { s with heap:=h',toks:=tk }):aA c rel s W Q E r:=by
 cases r with
 | ok y σ=>exact fun a h' tk m' W' R X ra=>k a y σ h' tk m' W' R X ra (aA.ext p X)
 | exc C=>exact p
 | no=>exact p
end
def RV (c:Act) (W:aV) (v:Value) (x:V):Prop:=VR c.w.params (FZ c.b W.fz) W.rho v x
def RVs (c:Act) (W:aV) (vs:List Value) (xs:List V):Prop:=VRs c.w.params (FZ c.b W.fz) W.rho vs xs
theorem RV.ext {c:Act}{W W':aV}{v:Value}{x:V}(h:RV c W v x) (e:aJ W W'):RV c W' v x:=e.vr h
theorem RVs.ext {c:Act}{W W':aV}{v:List Value}{x:List V}(h:RVs c W v x) (e:aJ W W'):RVs c W' v x:=e.vrs h
structure cA (D:Nat) (c:Act) (A:Around):Prop where
 handled:A.handled=none
 frames:A.frames=some c.stk
 depth:A.depth+4 * D+4<recursionLimit
 units:A.units+12 * D+12<cLine
noncomputable abbrev envG (q:Str) (cs:Scope) (L:Addr) (fn:Option Addr) (cd:Value) (fr:Option Addr) (cl:List (Str×Addr)):Env:=
 { scope:=cs,locals:=L,globals:=mainGlobals,cells:=cl,qual:=q,func:=fn,code:=cd,frame:=fr,builtins:=builtinsNs }
structure cE (c:Act) (cs:Scope):Prop where
 env:∃ q fn ccd fr,c.env=envG q cs c.L fn ccd fr c.cl
 kind:cs.kind=.function
 ns:c.ns=(cs.names.filter fun x=>x.2==.local).map (·.1)
 cn:c.cn=(cs.names.filter fun x=>x.2==.cell).map (·.1)
structure cg (prog:Program) (K:World→Frag) (c:Act):Prop where
 X:(K c.w).In c.b
 T:∃ p loose mg mb,TopRead p loose mg mb c.b
theorem cg.top {prog:Program}{K:World→Frag}{c:Act}(k:cg prog K c) {G:Prop}(g:∀ p loose mg mb,TopRead p loose mg mb c.b→G):G:=k.T.elim fun p h=>h.elim fun l h=>h.elim fun a h=>h.elim fun b h=>g p l a b h
theorem ns_obj {h:Heap}{L:Addr}{m:Str→Option Value}(n:h.Ns L m) {G:Prop}(g:∀ o,h.get? L=some o→(∀ vs,o.data≠.fields vs)→G):G:=
 n.elim fun o h=>h.elim fun _ h=>h.elim fun _ h=>g o h.1 fun _ e=>nomatch h.2.1.symm.trans e
theorem dE.k {c:Act}{W:aV}{C e:Addr}{h:Heap}(t:dE c W C e h) {G:Prop}(g:∀ B a0,c.b.StaysIn B→(∀ p∈W.nw,(∀ q∈W.rho,p.1≠q.2)→p.1∉W.frs→B.get? p.1=some p.2)→th B c.stk e (.ref C) a0 h→(∃ m,h.Ns c.L m)→
  (∀ p∈W.nw,p.1∈W.frs→(∀ q∈W.rho,p.1≠q.2)→∃ sl,h.get? p.1=some { p.2 with slots:=sl })→G):G:=t.elim fun B h=>h.elim fun a h=>g B a h.1 h.2.1 h.2.2.1 h.2.2.2.1 h.2.2.2.2
theorem Rel.old {c:Act}{h:Heap}{m:Str→Option Value}{W:aV}{σ:S}(R:Rel c h m W σ):∀ q∈W.rho,q.2∈W.nw.map (·.1):=fun q hq=>
 (List.mem_iff_getElem?.mp hq).elim fun i hi=>(R.st i _ (List.getElem?_eq_getElem (R.len▸(List.getElem?_eq_some_iff.mp hi).1:i<σ.st.length))).elim fun x h=>h.elim fun d h=>h.elim fun ro g=>
  (Option.some.inj (hi.symm.trans g.1))▸List.mem_map_of_mem (f:=(·.1)) g.2.1
theorem Rel.noL {c:Act}{h:Heap}{m:Str→Option Value}{W:aV}{σ:S}(R:Rel c h m W σ):∀ q∈W.rho,c.L≠q.2:=fun q hq e=>(List.mem_map.mp (R.old q hq)).elim fun p h=>(R.N p h.1).2.1 (h.2.trans e.symm)
theorem Rel.envX {c:Act}{h:Heap}{m:Str→Option Value}{W W':aV}{σ:S}(R:Rel c h m W σ) (X:aJ W W') (i:Nat) n v (hi:c.ns[i]?=some n) (hv:σ.env[i]?=some v):v=.unb∨∃ u,m n=some u∧VR c.w.params (FZ c.b W'.fz) W'.rho u v:=
 (R.env i n v hi hv).imp id fun h=>h.imp fun u g=>⟨g.1,X.vr g.2⟩
theorem Rel.cellX {c:Act}{h:Heap}{m:Str→Option Value}{W W':aV}{σ:S}(R:Rel c h m W σ) (X:aJ W W') (j:Nat) n v (hj:c.cn[j]?=some n) (hv:σ.env[c.ns.length+j]?=some v):v=.unb∨∃ a o u,c.cl.lookup n=some a∧(a,o)∈W'.fz∧o.data=.cell (some u)∧VR c.w.params (FZ c.b W'.fz) W'.rho u v:=
 (R.cell j n v hj hv).imp id fun h=>h.imp fun a h=>h.imp fun o h=>h.imp fun u g=>⟨g.1,X.fz _ g.2.1,g.2.2.1,X.vr g.2.2.2⟩
abbrev W1:=S→Rs V
def JE (prog:Program) (K:World→Frag) (D:Nat) (cs:Scope) (e:PySem.Expr) (w:W1):Prop:=
 ∀ (c:Act) (A:Around),cA D c A→cE c cs→cg prog K c→∀ s m W σ,Rel c s.heap m W σ→∀ Q E,aA c (RV c) s W Q E (w σ)→wpAny (model prog c.w) A (eval e c.env) Q E s
variable {prog:Program}{K:World→Frag}{D:Nat}{cs:Scope}
noncomputable def aj (i:Int):W1:=fun σ=>.ok (.int i) σ
noncomputable def bS:W1:=fun σ=>.ok .none σ
noncomputable def cb (b:Bool):W1:=fun σ=>.ok (.bool b) σ
noncomputable def au (s:Str):W1:=fun σ=>.ok (.str s) σ
noncomputable def aa (i:Nat):W1:=fun σ=>match σ.env[i]? with
 | some .unb=>.no
 | some x=>.ok x σ
 | Option.none=>.no
theorem US {k p}:JE prog K D cs (.Constant .none k p) bS:=fun c A _ _ _ s m W σ R Q E hp=>
 Constant_none (hp _ s.heap s.toks m W R (aJ.refl W) .none)
theorem UT {b k p}:JE prog K D cs (.Constant (.bool b) k p) (cb b):=fun c A _ _ _ s m W σ R Q E hp=>
 Constant_bool (hp _ s.heap s.toks m W R (aJ.refl W) (.bool b))
theorem UU {x p i}(hx:cs.names.lookup x=some .local) (hi:((cs.names.filter fun y=>y.2==.local).map (·.1))[i]?=some x) (hd:(x==("__debug__":Str))=false):JE prog K D cs (.Name x p) (aa i):=fun c A _ f _ s m W σ R Q E hp=>by
 have hi':c.ns[i]?=some x:=f.ns▸hi
 unfold aa at hp
 cases hv:σ.env[i]? with
 | none=>rw[hv]at hp;exact hp.elim
 | some v=>
  have hr:=R.env i x v hi' hv
  rcases hr with rfl | ⟨u,hu,hr⟩
  ·rw[hv]at hp;exact hp.elim
  ·have hq:Q u s:=by
    rw[hv]at hp
    cases v <;> first | exact hp u s.heap s.toks m W R (aJ.refl W) hr | exact hp.elim
   obtain⟨q,fn,ccd,r,e⟩:=f.env
   rw[e]
   exact wpAny_Name (wpAny_loadName_local f.kind hx R.F.ns hu hq) hd
theorem UV {x p i k}(hx:cs.names.lookup x=some .cell) (hn:((cs.names.filter fun y=>y.2==.local).map (·.1)).length=k) (hi:((cs.names.filter fun y=>y.2==.cell).map (·.1))[i]?=some x) (hd:(x==("__debug__":Str))=false):JE prog K D cs (.Name x p) (aa (k+i)):=fun c A _ f _ s m W σ R Q E hp=>by
 have hi':c.cn[i]?=some x:=f.cn▸hi
 have hn':c.ns.length=k:=f.ns▸hn
 unfold aa at hp
 cases hv:σ.env[k+i]? with
 | none=>rw[hv]at hp;exact hp.elim
 | some v=>
  have hr:=R.cell i x v hi' (hn'.symm▸hv)
  rcases hr with rfl | ⟨a,o,u,h1,h2,h3,hr⟩
  ·rw[hv]at hp;exact hp.elim
  ·have hq:Q u s:=by
    rw[hv]at hp
    cases v <;> first | exact hp u s.heap s.toks m W R (aJ.refl W) hr | exact hp.elim
   obtain⟨q,fn,ccd,r,e⟩:=f.env
   rw[e]
   exact wpAny_Name (wpAny_loadName_cell f.kind hx h1 ⟨o,(R.N _ (R.fz _ h2)).1,h3⟩ hq) hd
end
section
variable {prog:Program}{K:World→Frag}{D:Nat}{cs:Scope}
def V.un:V→V
 | .rv _ x=>x.un
 | x=>x
theorem VR.un {P:Params}{F:Addr→Obj→Prop}{rho:List (Addr×Addr)}{v:Value}{x:V}(h:VR P F rho v x):VR P F rho v x.un:=by
 induction h with
 | rv _ ih=>exact ih
 | none=>exact .none
 | bool b=>exact .bool b
 | int i t=>exact .int i t
 | str s t=>exact .str s t
 | bytes b t=>exact .bytes b t
 | ext v=>exact .ext v
 | loc h=>exact .loc h
 | tup h1 h2 h3 _=>exact .tup h1 h2 h3
 | lst h1 h2 h3 _=>exact .lst h1 h2 h3
 | inst h1 h2 h3 h4 h5 _=>exact .inst h1 h2 h3 h4 h5
 | dct h1 h2 h3 h4 h5 h6 h7 _ _=>exact .dct h1 h2 h3 h4 h5 h6 h7
theorem RV.un {c:Act}{W:aV}{v:Value}{x:V}(h:RV c W v x):RV c W v x.un:=VR.un h
def VR.Inv (P:Params) (F:Addr→Obj→Prop) (rho:List (Addr×Addr)) (v:Value):V→Prop
 | .unb=>False
 | .none=>v=.none
 | .bool b=>v=.bool b
 | .int i=>∃ t,v=.int i t
 | .str s=>∃ t,v=.str s t
 | .bytes l=>∃ b t,v=.bytes b t∧l=b.toList
 | .ext u=>v=u
 | .loc k=>∃ x d,v=.ref x∧rho[k]?=some (x,d)
 | .tup xs=>∃ a vs n,v=.ref a∧F a (tupOf vs n)∧VRs P F rho vs xs
 | .lst xs=>∃ a vs n,v=.ref a∧F a (lstOf vs n)∧VRs P F rho vs xs
 | .inst C fs=>∃ x dx es n,v=.ref x∧F x (instObj C dx)∧F dx (dictOf es n)∧es.length=fs.length∧(∀ (i:Nat) (e:DictEntry) (f:Nat×V),es[i]?=some e→fs[i]?=some f→∃ t,e.key=.str (attrName f.1) t)∧
   ∀ (i:Nat) (e:DictEntry) (f:Nat×V),es[i]?=some e→fs[i]?=some f→VR P F rho e.val f.2
 | .dct fs=>∃ a es n,v=.ref a∧F a (dictOf es n)∧(a==sysModules)=false∧es.length=fs.length∧(∀ (i:Nat) (e:DictEntry) (f:V×V),es[i]?=some e→fs[i]?=some f→hashOf P f.1=some e.hash)∧(fs.map (·.1)).Nodup∧
   (∀ (i:Nat) (e:DictEntry) (f:V×V),es[i]?=some e→fs[i]?=some f→VR P F rho e.key f.1)∧∀ (i:Nat) (e:DictEntry) (f:V×V),es[i]?=some e→fs[i]?=some f→VR P F rho e.val f.2
 | .rv u x=>v=u∧VR P F rho v x
theorem VR.inv {P:Params}{F:Addr→Obj→Prop}{rho:List (Addr×Addr)}{v:Value}{x:V}(h:VR P F rho v x):VR.Inv P F rho v x:=
 VR.casesOn (motive:=fun v x _=>VR.Inv P F rho v x) h rfl (fun _=>rfl) (fun _ t=>⟨t,rfl⟩) (fun _ t=>⟨t,rfl⟩) (fun b t=>⟨b,t,rfl,rfl⟩) (fun _=>rfl) (fun h=>⟨_,_,rfl,h⟩) (fun h1 h2 h3=>⟨_,_,_,rfl,h1,h2,h3⟩) (fun h1 h2 h3=>⟨_,_,_,rfl,h1,h2,h3⟩)
  (fun h1 h2 h3 h4 h5=>⟨_,_,_,_,rfl,h1,h2,h3,h4,h5⟩) (fun h1 h2 h3 h4 h5 h6 h7=>⟨_,_,_,rfl,h1,h2,h3,h4,h5,h6,h7⟩) fun h=>⟨rfl,h⟩
theorem RV.inv {c:Act}{W:aV}{v:Value}{x:V}(h:RV c W v x):VR.Inv c.w.params (FZ c.b W.fz) W.rho v x:=VR.inv h
def OR.Inv (P:Params) (F:Addr→Obj→Prop) (rho:List (Addr×Addr)) (x d:Addr) (ro:Obj):MO→Prop
 | .inst C fs=>∃ es n,ro=dictOf es n∧F x (instObj C d)∧es.length=fs.length∧es.length≤1000∧∀ (i:Nat) (e:DictEntry) (f:Nat×V),es[i]?=some e→fs[i]?=some f→(∃ t,e.key=.str (attrName f.1) t)∧VR P F rho e.val f.2
 | .lst xs=>∃ vs n,ro=lstOf vs n∧x=d∧VRs P F rho vs xs
 | .dct fs=>∃ es n,ro=dictOf es n∧x=d∧(x==sysModules)=false∧es.length=fs.length∧(fs.map (·.1)).Nodup∧∀ (i:Nat) (e:DictEntry) (f:V×V),es[i]?=some e→fs[i]?=some f→hashOf P f.1=some e.hash∧VR P F rho e.key f.1∧VR P F rho e.val f.2
theorem OR.inv {P:Params}{F:Addr→Obj→Prop}{rho:List (Addr×Addr)}{x d:Addr}{ro:Obj}{o:MO}(h:OR P F rho x d ro o):OR.Inv P F rho x d ro o:=
 OR.casesOn (motive:=fun ro o _=>OR.Inv P F rho x d ro o) h (fun h1 h2 h3 h4=>⟨_,_,rfl,h1,h2,h3,h4⟩) (fun h1 h2=>⟨_,_,rfl,h1,h2⟩) fun h1 h2 h3 h4 h5=>⟨_,_,rfl,h1,h2,h3,h4,h5⟩
noncomputable def dU {α β:Type}(v:Option α) (f:α→Rs β):Rs β:=match v with
 | some n=>f n
 | Option.none=>.no
noncomputable def EM (v:V):Option Int:=@V.casesOn (fun _=>Option Int) v none none (fun _=>none) (fun n=>some n) (fun _=>none) (fun _=>none) (fun _=>none) (fun _=>none) (fun _ _=>none) (fun _=>none) (fun _=>none) (fun _=>none) (fun _ _=>none)
noncomputable def uV (v:V):Option Str:=@V.casesOn (fun _=>Option Str) v none none (fun _=>none) (fun _=>none) (fun n=>some n) (fun _=>none) (fun _=>none) (fun _=>none) (fun _ _=>none) (fun _=>none) (fun _=>none) (fun _=>none) (fun _ _=>none)
noncomputable def xK (v:V):Option (List UInt8):=@V.casesOn (fun _=>Option (List UInt8)) v none none (fun _=>none) (fun _=>none) (fun _=>none) (fun n=>some n) (fun _=>none) (fun _=>none) (fun _ _=>none) (fun _=>none) (fun _=>none) (fun _=>none) (fun _ _=>none)
noncomputable def Gi (v:V):Option (List V):=@V.casesOn (fun _=>Option (List V)) v none none (fun _=>none) (fun _=>none) (fun _=>none) (fun _=>none) (fun _=>none) (fun _=>none) (fun _ _=>none) (fun n=>some n) (fun _=>none) (fun _=>none) (fun _ _=>none)
noncomputable def By (v:V):Option (List V):=@V.casesOn (fun _=>Option (List V)) v none none (fun _=>none) (fun _=>none) (fun _=>none) (fun _=>none) (fun _=>none) (fun _=>none) (fun _ _=>none) (fun _=>none) (fun n=>some n) (fun _=>none) (fun _ _=>none)
noncomputable def Lo (v:V):Option Unit:=@V.casesOn (fun _=>Option Unit) v none (some ()) (fun _=>none) (fun _=>none) (fun _=>none) (fun _=>none) (fun _=>none) (fun _=>none) (fun _ _=>none) (fun _=>none) (fun _=>none) (fun _=>none) (fun _ _=>none)
noncomputable def Lp (v:V):Option Nat:=@V.casesOn (fun _=>Option Nat) v none none (fun _=>none) (fun _=>none) (fun _=>none) (fun _=>none) (fun _=>none) (fun n=>some n) (fun _ _=>none) (fun _=>none) (fun _=>none) (fun _=>none) (fun _ _=>none)
def jx {β:Type}(v:V) (f:Int→Rs β):Rs β:=dU (EM v) f
def Bz {β:Type}(v:V) (f:Str→Rs β):Rs β:=dU (uV v) f
def ML {β:Type}(v:V) (f:List UInt8→Rs β):Rs β:=dU (xK v) f
def MM {β:Type}(v:V) (f:List V→Rs β):Rs β:=dU (Gi v) f
def MN {β:Type}(v:V) (f:List V→Rs β):Rs β:=dU (By v) f
def MP {β:Type}(v:V) (f:Nat→Rs β):Rs β:=dU (Lp v) f
def MQ {β:Type}(v:V) (f:Rs β):Rs β:=dU (Lo v) fun _=>f
noncomputable def qo {α β:Type}(o:Option α) (f:α→Rs β) (g:Rs β):Rs β:=match o with
 | some a=>f a
 | Option.none=>g
theorem UW {α β:Type}{o:Option α}{f:α→Rs β}{g:Rs β}{P:Rs β→Prop}{G:Prop}(h:P (qo o f g)) (k:∀ a,o=some a→P (f a)→G) (l:P g→G):G:=by
 cases o with
 | none=>exact l h
 | some a=>exact k a rfl h
theorem nt {α β:Type}{v:Option α}{f:α→Rs β}{P:Rs β→Prop}(h:P (dU v f)) (hn:P .no→False) {G:Prop}(k:∀ n,v=some n→P (f n)→G):G:=by
 cases v with
 | none=>exact(hn h).elim
 | some n=>exact k n rfl h
theorem vL {v:V}{n:Int}:EM v=some n→v=.int n:=@V.casesOn (fun v=>EM v=some n→v=.int n) v ay ay (fun _=>ay) (fun _ h=>congrArg V.int (Option.some.inj h)) (fun _=>ay) (fun _=>ay) (fun _=>ay) (fun _=>ay) (fun _ _=>ay) (fun _=>ay) (fun _=>ay) (fun _=>ay) (fun _ _=>ay)
theorem pC {β:Type}{v:V}{f:Int→Rs β}{P:Rs β→Prop}(h:P (jx v f)) (hn:P .no→False) {G:Prop}(k:∀ n,v=.int n→P (f n)→G):G:=nt h hn fun n e=>k n (vL e)
theorem tj {v:V}{n:Str}:uV v=some n→v=.str n:=@V.casesOn (fun v=>uV v=some n→v=.str n) v ay ay (fun _=>ay) (fun _=>ay) (fun _ h=>congrArg V.str (Option.some.inj h)) (fun _=>ay) (fun _=>ay) (fun _=>ay) (fun _ _=>ay) (fun _=>ay) (fun _=>ay) (fun _=>ay) (fun _ _=>ay)
theorem UX {β:Type}{v:V}{f:Str→Rs β}{P:Rs β→Prop}(h:P (Bz v f)) (hn:P .no→False) {G:Prop}(k:∀ n,v=.str n→P (f n)→G):G:=nt h hn fun n e=>k n (tj e)
theorem tm {v:V}{n:List UInt8}:xK v=some n→v=.bytes n:=@V.casesOn (fun v=>xK v=some n→v=.bytes n) v ay ay (fun _=>ay) (fun _=>ay) (fun _=>ay) (fun _ h=>congrArg V.bytes (Option.some.inj h)) (fun _=>ay) (fun _=>ay) (fun _ _=>ay) (fun _=>ay) (fun _=>ay) (fun _=>ay) (fun _ _=>ay)
theorem MR {β:Type}{v:V}{f:List UInt8→Rs β}{P:Rs β→Prop}(h:P (ML v f)) (hn:P .no→False) {G:Prop}(k:∀ n,v=.bytes n→P (f n)→G):G:=nt h hn fun n e=>k n (tm e)
theorem EN {v:V}{n:List V}:Gi v=some n→v=.lst n:=@V.casesOn (fun v=>Gi v=some n→v=.lst n) v ay ay (fun _=>ay) (fun _=>ay) (fun _=>ay) (fun _=>ay) (fun _=>ay) (fun _=>ay) (fun _ _=>ay) (fun _ h=>congrArg V.lst (Option.some.inj h)) (fun _=>ay) (fun _=>ay) (fun _ _=>ay)
theorem UY {β:Type}{v:V}{f:List V→Rs β}{P:Rs β→Prop}(h:P (MM v f)) (hn:P .no→False) {G:Prop}(k:∀ n,v=.lst n→P (f n)→G):G:=nt h hn fun n e=>k n (EN e)
theorem xM {v:V}{n:List V}:By v=some n→v=.tup n:=@V.casesOn (fun v=>By v=some n→v=.tup n) v ay ay (fun _=>ay) (fun _=>ay) (fun _=>ay) (fun _=>ay) (fun _=>ay) (fun _=>ay) (fun _ _=>ay) (fun _=>ay) (fun _ h=>congrArg V.tup (Option.some.inj h)) (fun _=>ay) (fun _ _=>ay)
theorem UZ {β:Type}{v:V}{f:List V→Rs β}{P:Rs β→Prop}(h:P (MN v f)) (hn:P .no→False) {G:Prop}(k:∀ n,v=.tup n→P (f n)→G):G:=nt h hn fun n e=>k n (xM e)
theorem OI {v:V}{n:Nat}:Lp v=some n→v=.loc n:=@V.casesOn (fun v=>Lp v=some n→v=.loc n) v ay ay (fun _=>ay) (fun _=>ay) (fun _=>ay) (fun _=>ay) (fun _=>ay) (fun _ h=>congrArg V.loc (Option.some.inj h)) (fun _ _=>ay) (fun _=>ay) (fun _=>ay) (fun _=>ay) (fun _ _=>ay)
theorem U0 {β:Type}{v:V}{f:Nat→Rs β}{P:Rs β→Prop}(h:P (MP v f)) (hn:P .no→False) {G:Prop}(k:∀ n,v=.loc n→P (f n)→G):G:=nt h hn fun n e=>k n (OI e)
theorem OJ {v:V}{n:Unit}:Lo v=some n→v=.none:=@V.casesOn (fun v=>Lo v=some n→v=.none) v ay (fun _=>rfl) (fun _=>ay) (fun _=>ay) (fun _=>ay) (fun _=>ay) (fun _=>ay) (fun _=>ay) (fun _ _=>ay) (fun _=>ay) (fun _=>ay) (fun _=>ay) (fun _ _=>ay)
theorem U1 {β:Type}{v:V}{f:Rs β}{P:Rs β→Prop}(h:P (MQ v f)) (hn:P .no→False) {G:Prop}(k:v=.none→P f→G):G:=nt h hn fun n e=>k (OJ e)
theorem VR.int_e {P:Params}{F:Addr→Obj→Prop}{rho:List (Addr×Addr)}{v:Value}{x:V}{n:Int}(h:VR P F rho v x) (e:x.un=.int n):∃ t,v=.int n t:=(e▸h.un).inv
theorem VR.str_e {P:Params}{F:Addr→Obj→Prop}{rho:List (Addr×Addr)}{v:Value}{x:V}{n:Str}(h:VR P F rho v x) (e:x.un=.str n):∃ t,v=.str n t:=(e▸h.un).inv
section
variable {α β γ:Type}{c:Act}{rel:aV→γ→β→Prop}{s:Shared}{W:aV}{Q:γ→Shared→Prop}{E:Value→Shared→Prop}{v:V}{G:Prop}
theorem xN {f:Int→Rs β}(h:aA c rel s W Q E (jx v f)) (k:∀ n,v=.int n→aA c rel s W Q E (f n)→G):G:=pC h id k
theorem BA {f:Str→Rs β}(h:aA c rel s W Q E (Bz v f)) (k:∀ n,v=.str n→aA c rel s W Q E (f n)→G):G:=UX h id k
theorem Xg {f:List UInt8→Rs β}(h:aA c rel s W Q E (ML v f)) (k:∀ n,v=.bytes n→aA c rel s W Q E (f n)→G):G:=MR h id k
theorem P3 {f:List V→Rs β}(h:aA c rel s W Q E (MM v f)) (k:∀ n,v=.lst n→aA c rel s W Q E (f n)→G):G:=UY h id k
theorem P4 {f:List V→Rs β}(h:aA c rel s W Q E (MN v f)) (k:∀ n,v=.tup n→aA c rel s W Q E (f n)→G):G:=UZ h id k
theorem P5 {f:Nat→Rs β}(h:aA c rel s W Q E (MP v f)) (k:∀ n,v=.loc n→aA c rel s W Q E (f n)→G):G:=U0 h id k
theorem P6 {f:Rs β}(h:aA c rel s W Q E (MQ v f)) (k:v=.none→aA c rel s W Q E f→G):G:=U1 h id k
theorem gP {o:Option α}{f:α→Rs β}(h:aA c rel s W Q E (dU o f)) (k:∀ n,o=some n→aA c rel s W Q E (f n)→G):G:=nt h id k
theorem oj {o:Option α}{f:α→Rs β}{g:Rs β}(h:aA c rel s W Q E (qo o f g)) (k:∀ a,o=some a→aA c rel s W Q E (f a)→G) (l:aA c rel s W Q E g→G):G:=UW h k l
end
def cH (prog:Program) (D:Nat) (t:Value→Value→Sem Value) (f:V→V→S→Rs V):Prop:=
 ∀ (c:Act) (A:Around),cA D c A→∀ a b x y s m W σ,Rel c s.heap m W σ→RV c W a x→RV c W b y→∀ Q E,aA c (RV c) s W Q E (f x y σ)→wpAny (model prog c.w) A (t a b) Q E s
noncomputable def ag (f:V→V→S→Rs V) (l r:W1):W1:=fun σ=>(l σ).bind fun x σ1=>(r σ1).bind fun y σ2=>f x y σ2
theorem Xh {op l r p wl wr f}(hop:cH prog D (binaryOp op) f) (hl:JE prog K D cs l wl) (hr:JE prog K D cs r wr):JE prog K D cs (.BinOp l op r p) (ag f wl wr):=
 fun c A rm fr k s m W σ R Q E hp=>by
  refine wpAny_BinOp (hl c A rm fr k s m W σ R _ E (aA.bind hp fun a x σ1 h1 tk1 m1 W1 R1 X1 ra p1=>?_))
  refine hr c A rm fr k _ m1 W1 σ1 R1 _ E (aA.bind p1 fun b y σ2 h2 tk2 m2 W2 R2 X2 rb p2=>?_)
  exact hop c A rm a b x y _ m2 W2 σ2 R2 (ra.ext X2) rb Q E p2
theorem ff {c:Act}{s:Shared}{m:Str→Option Value}{W:aV}{σ:S}{Q:Value→Shared→Prop}{E:Value→Shared→Prop}{x:V}(R:Rel c s.heap m W σ) (hp:aA c (RV c) s W Q E (.ok x σ)) {v:Value}{tk:Nat}(h:RV c W v x):Q v { s with toks:=tk }:=
 hp v s.heap tk m W R (aJ.refl W) h
def el (g:Int→Int→Option V) (x y:V) (σ:S):Rs V:=jx x.un fun a=>jx y.un fun b=>dU (g a b) fun z=>.ok z σ
theorem eP {t:Value→Value→Sem Value}{g:Int→Int→Option V}
  (h:∀ (w:World) (A:Around) (a b:Int) (ta tb:Tok) (z:V) (s:Shared) (Q:Value→Shared→Prop) (E:Value→Shared→Prop),A.handled=none→g a b=some z→
   (∀ v tk,(∀ (P:Params) F rho,VR P F rho v z)→Q v { s with toks:=tk })→wpAny (model prog w) A (t (.int a ta) (.int b tb)) Q E s):cH prog D t (el g):=
 fun c A rm a b x y s m W σ R ra rb Q E hp=>xN hp fun i hi hp=>xN hp fun j hj hp=>gP hp fun z hz hp=>by
  obtain⟨ta,rfl⟩:=VR.int_e ra hi
  obtain⟨tb,rfl⟩:=VR.int_e rb hj
  exact h c.w A i j ta tb z s Q E rm.handled hz fun v tk hv=>ff R hp (hv _ _ _)
def MS:V→V→S→Rs V:=el fun a b=>some (.int (a+b))
theorem U2:cH prog D (binaryOp .Add) MS:=eP fun w A a b ta tb z s Q E hA hz hQ=>by
 cases hz;exact PyProof.Rows.add_int (hQ _ _ fun _ _ _=>.int _ _)
def jJ:V→V→S→Rs V:=el fun a b=>some (.int (a - b))
theorem pD:cH prog D (binaryOp .Sub) jJ:=eP fun w A a b ta tb z s Q E hA hz hQ=>by
 cases hz;exact PyProof.Rows.sub_int (hQ _ _ fun _ _ _=>.int _ _)
def b8:V→V→S→Rs V:=el fun a b=>if b=0 then Option.none else some (.int (a.fmod b))
theorem fR:cH prog D (binaryOp .Mod) b8:=eP fun w A a b ta tb z s Q E hA hz hQ=>by
 split at hz
 ·cases hz
 ·rename_i hb;cases hz;exact PyProof.Rows.mod_int hb (hQ _ _ fun _ _ _=>.int _ _)
def Lq:V→V→S→Rs V:=el fun a b=>some (.int (Builtin.bitAnd a b))
theorem P7:cH prog D (binaryOp .BitAnd) Lq:=eP fun w A a b ta tb z s Q E hA hz hQ=>by
 cases hz;exact PyProof.Rows.and_int (hQ _ _ fun _ _ _=>.int _ _)
def Wb:V→V→S→Rs V:=el fun a b=>some (.int (Builtin.bitOr a b))
theorem ZI:cH prog D (binaryOp .BitOr) Wb:=eP fun w A a b ta tb z s Q E hA hz hQ=>by
 cases hz;exact PyProof.Rows.or_int (hQ _ _ fun _ _ _=>.int _ _)
def BB:V→V→S→Rs V:=el fun a n=>if 0≤n∧n≤1000∧a.natAbs<2 ^ 64 then some (.int (a * 2 ^ n.toNat))else Option.none
theorem Gj:cH prog D (binaryOp .LShift) BB:=eP fun w A a b ta tb z s Q E hA hz hQ=>by
 split at hz
 ·rename_i hb;cases hz;exact PyProof.Rows.lshift_int_small hb.1 (by omega) hb.2.2 (hQ _ _ fun _ _ _=>.int _ _)
 ·cases hz
def Lr:V→V→S→Rs V:=el fun a n=>if 0≤n then some (.int (a.fdiv (2 ^ n.toNat)))else Option.none
theorem P8:cH prog D (binaryOp .RShift) Lr:=eP fun w A a b ta tb z s Q E hA hz hQ=>by
 split at hz
 ·rename_i hb;cases hz;exact PyProof.Rows.rshift_int hb (hQ _ _ fun _ _ _=>.int _ _)
 ·cases hz
def dC:V→V→S→Rs V:=el fun a b=>if a.natAbs<2 ^ 63∨b.natAbs<2 ^ 63 then some (.int (a * b))else Option.none
theorem IX {a:Int}(h:a.natAbs<2 ^ 63):Builtin.Int.intBits a≤64:=intBits_le_64 (by omega) (by omega)
theorem kK:cH prog D (binaryOp .Mult) dC:=eP fun w A a b ta tb z s Q E hA hz hQ=>by
 split at hz
 ·rename_i hb;cases hz
  refine PyProof.Rows.mul_int (hQ _ _ fun _ _ _=>.int _ _) ?_
  rcases hb with h | h
  ·exact IntMulOk.of_left (IX h)
  ·exact IntMulOk.of_right (IX h)
 ·cases hz
def iF:V→V→S→Rs V:=el fun a n=>if 0≤n∧(Builtin.Int.intBits a:Int) * n≤2 ^ 27 then some (.int (a ^ n.toNat))else Option.none
theorem BC:cH prog D (binaryOp .Pow) iF:=eP fun w A a b ta tb z s Q E hA hz hQ=>by
 split at hz
 ·rename_i hb;cases hz;exact PyProof.Rows.pow_int hb.1 hb.2 (hQ _ _ fun _ _ _=>.int _ _)
 ·cases hz
def fS:V→V→S→Rs V:=el fun a b=>if b=0∨Builtin.divisionGoesByPylong a b=true then Option.none else some (.int (a.fdiv b))
theorem lU:cH prog D (binaryOp .FloorDiv) fS:=eP fun w A a b ta tb z s Q E hA hz hQ=>by
 split at hz
 ·cases hz
 ·rename_i hb;cases hz
  refine PyProof.Rows.floordiv_int (fun e=>hb (.inl e)) (hQ _ _ fun _ _ _=>.int _ _) (.inl ?_)
  cases h:Builtin.divisionGoesByPylong a b with
  | true=>exact absurd (.inr h) hb
  | false=>rfl
def MT (x y:V) (σ:S):Rs V:=Bz x.un fun a=>Bz y.un fun b=>if a.length+b.length≤100000 then .ok (.str (a++b)) σ else .no
theorem bt:1000000≤sizeLine:=by rw[sizeLine_eq];omega
theorem U3:cH prog D (binaryOp .Add) MT:=fun c A rm a b x y s m W σ R ra rb Q E hp=>BA hp fun i hi hp=>BA hp fun j hj hp=>by
  obtain⟨ta,rfl⟩:=VR.str_e ra hi
  obtain⟨tb,rfl⟩:=VR.str_e rb hj
  split at hp
  ·rename_i hz
   exact PyProof.Rows.add_str (fun t' tk=>ff R hp (.str _ _)) (Nat.le_trans hz (Nat.le_trans (by omega) bt))
  ·exact hp.elim
theorem Xi {op l r p wl wr f}(hop:cH prog D (compareOp op) f) (hl:JE prog K D cs l wl) (hr:JE prog K D cs r wr) (hm:behindInMarks op r=false):JE prog K D cs (.Compare l [op] [r] p) (ag f wl wr):=
 fun c A rm fr k s m W σ R Q E hp=>by
  refine wpAny_Compare1 (hl c A rm fr k s m W σ R _ E (aA.bind hp fun a x σ1 h1 tk1 m1 W1 R1 X1 ra p1=>?_)) hm
  refine hr c A rm fr k _ m1 W1 σ1 R1 _ E (aA.bind p1 fun b y σ2 h2 tk2 m2 W2 R2 X2 rb p2=>?_)
  exact hop c A rm a b x y _ m2 W2 σ2 R2 (ra.ext X2) rb Q E p2
def iG:V→V→S→Rs V:=el fun a b=>some (.bool (decide (a<b)))
theorem nu:cH prog D (compareOp .Lt) iG:=eP fun w A a b ta tb z s Q E hA hz hQ=>by
 cases hz;exact PyProof.Rows.lt_int (hQ _ s.toks fun _ _ _=>.bool _)
def uj:V→V→S→Rs V:=el fun a b=>some (.bool (decide (b<a)))
theorem EO:cH prog D (compareOp .Gt) uj:=eP fun w A a b ta tb z s Q E hA hz hQ=>by
 cases hz;exact PyProof.Rows.gt_int (hQ _ s.toks fun _ _ _=>.bool _)
def IY:V→V→S→Rs V:=el fun a b=>some (.bool (decide (a≤b)))
theorem MU:cH prog D (compareOp .LtE) IY:=eP fun w A a b ta tb z s Q E hA hz hQ=>by
 cases hz;exact PyProof.Rows.le_int (hQ _ s.toks fun _ _ _=>.bool _)
def uk:V→V→S→Rs V:=el fun a b=>some (.bool (decide (b≤a)))
theorem BD:cH prog D (compareOp .GtE) uk:=eP fun w A a b ta tb z s Q E hA hz hQ=>by
 cases hz;exact PyProof.Rows.ge_int (hQ _ s.toks fun _ _ _=>.bool _)
def P9:V→V→S→Rs V:=el fun a b=>some (.bool (a==b))
theorem Xj:cH prog D (compareOp .Eq) P9:=eP fun w A a b ta tb z s Q E hA hz hQ=>by
 cases hz;exact PyProof.Rows.eq_int (hQ _ s.toks fun _ _ _=>.bool _)
def Qa:V→V→S→Rs V:=el fun a b=>some (.bool (a != b))
theorem Xk:cH prog D (compareOp .NotEq) Qa:=eP fun w A a b ta tb z s Q E hA hz hQ=>by
 cases hz;exact PyProof.Rows.ne_int (hQ _ s.toks fun _ _ _=>.bool _)
def AE (g:Str→Str→Option V) (x y:V) (σ:S):Rs V:=Bz x.un fun a=>Bz y.un fun b=>dU (g a b) fun z=>.ok z σ
theorem Gk {t:Value→Value→Sem Value}{g:Str→Str→Option V}
  (h:∀ (w:World) (A:Around) (a b:Str) (ta tb:Tok) (z:V) (s:Shared) (Q:Value→Shared→Prop) (E:Value→Shared→Prop),A.handled=none→g a b=some z→
   (∀ v tk,(∀ (P:Params) F rho,VR P F rho v z)→Q v { s with toks:=tk })→wpAny (model prog w) A (t (.str a ta) (.str b tb)) Q E s):cH prog D t (AE g):=
 fun c A rm a b x y s m W σ R ra rb Q E hp=>BA hp fun i hi hp=>BA hp fun j hj hp=>gP hp fun z hz hp=>by
  obtain⟨ta,rfl⟩:=VR.str_e ra hi
  obtain⟨tb,rfl⟩:=VR.str_e rb hj
  exact h c.w A i j ta tb z s Q E rm.handled hz fun v tk hv=>ff R hp (hv _ _ _)
def Qb:V→V→S→Rs V:=AE fun a b=>some (.bool (a==b))
theorem Xl:cH prog D (compareOp .Eq) Qb:=Gk fun w A a b ta tb z s Q E hA hz hQ=>by
 cases hz;exact PyProof.Rows.eq_str (hQ _ s.toks fun _ _ _=>.bool _)
end
section
variable {prog:Program}{K:World→Frag}{D:Nat}{cs:Scope}
def Qc:V→V→S→Rs V:=AE fun a b=>some (.bool (a != b))
theorem Xm:cH prog D (compareOp .NotEq) Qc:=Gk fun w A a b ta tb z s Q E hA hz hQ=>by
 cases hz;exact PyProof.Rows.ne_str (hQ _ s.toks fun _ _ _=>.bool _)
def Qd:V→V→S→Rs V:=AE fun y x=>some (.bool !(Builtin.Str.occurrences x y 0 x.length 1).isEmpty)
theorem Xn:cH prog D (compareOp .In) Qd:=Gk fun w A a b ta tb z s Q E hA hz hQ=>by
 cases hz;exact PyProof.Rows.in_str (hQ _ s.toks fun _ _ _=>.bool _)
noncomputable def tq (x:V):Option Bool:=match x.un with
 | .none=>some true
 | .unb=>Option.none
 | .ext _=>Option.none
 | .rv _ _=>Option.none
 | _=>some false
theorem vM {c:Act}{W:aV}{v:Value}{x:V}{b:Bool}(h:RV c W v x) (e:tq x=some b):(v==Value.none)=b:=by
 revert e
 exact VR.rec (motive:=fun v x _=>tq x=some b→(v==Value.none)=b) (fun e=>Option.some.inj e) (fun _ e=>Option.some.inj e) (fun _ _ e=>Option.some.inj e) (fun _ _ e=>Option.some.inj e) (fun _ _ e=>Option.some.inj e) (fun _ e=>ay e) (fun _ e=>Option.some.inj e) (fun _ _ _ _ e=>Option.some.inj e)
  (fun _ _ _ _ e=>Option.some.inj e) (fun _ _ _ _ _ _ e=>Option.some.inj e) (fun _ _ _ _ _ _ _ _ _ e=>Option.some.inj e) (fun _ ih e=>ih e) h
def fk (x y:V) (σ:S):Rs V:=MQ y.un (dU (tq x) fun b=>.ok (.bool b) σ)
theorem uW:cH prog D (compareOp .Is) fk:=fun c A rm a b x y s m W σ R ra rb Q E hp=>P6 hp fun hy hp=>gP hp fun bb hb hp=>by
 obtain rfl:b=_:=(hy▸rb.un:RV c W b .none).inv
 exact is_none_gen (by rw[vM ra hb];exact ff (tk:=s.toks) R hp (.bool _))
def gw (x y:V) (σ:S):Rs V:=MQ y.un (dU (tq x) fun b=>.ok (.bool (!b)) σ)
theorem nv:cH prog D (compareOp .IsNot) gw:=fun c A rm a b x y s m W σ R ra rb Q E hp=>P6 hp fun hy hp=>gP hp fun bb hb hp=>by
 obtain rfl:b=_:=(hy▸rb.un:RV c W b .none).inv
 exact isnot_none_gen (by rw[vM ra hb];exact ff (tk:=s.toks) R hp (.bool _))
def JT (prog:Program) (K:World→Frag) (D:Nat) (cs:Scope) (e:PySem.Expr) (w:S→Rs Bool):Prop:=
 ∀ (c:Act) (A:Around),cA D c A→cE c cs→cg prog K c→∀ s m W σ,Rel c s.heap m W σ→∀ (Q:Bool→Shared→Prop) E,aA c (fun _ a x=>a=x) s W Q E (w σ)→wpAny (model prog c.w) A (isTrue e c.env (eval e c.env)) Q E s
noncomputable def eS (x:V) (σ:S):Rs Bool:=match x.un with
 | .bool b=>.ok b σ
 | .none=>.ok false σ
 | _=>.no
theorem ic {c:Act}{A:Around}{s:Shared}{m W σ}{v:Value}{x:V}(R:Rel c s.heap m W σ) (h:RV c W v x) {Q:Bool→Shared→Prop}{E:Value→Shared→Prop}(hp:aA c (fun _ a x=>a=x) s W Q E (eS x σ)):
  wpAny (model prog c.w) A (truthy v) Q E s:=by
 revert hp
 exact VR.rec (motive:=fun v x _=>aA c (fun _ a x=>a=x) s W Q E (eS x σ)→wpAny (model prog c.w) A (truthy v) Q E s) (fun hp=>truthy_none (hp false s.heap s.toks m W R (aJ.refl W) rfl)) (fun b hp=>wpAny_truthy_bool (hp b s.heap s.toks m W R (aJ.refl W) rfl)) (fun _ _ hp=>hp.elim) (fun _ _ hp=>hp.elim) (fun _ _ hp=>hp.elim) (fun _ hp=>hp.elim) (fun _ hp=>hp.elim) (fun _ _ _ _ hp=>hp.elim)
  (fun _ _ _ _ hp=>hp.elim) (fun _ _ _ _ _ _ hp=>hp.elim) (fun _ _ _ _ _ _ _ _ _ hp=>hp.elim) (fun _ ih hp=>ih hp) h
def tE (w:W1):S→Rs Bool:=fun σ=>(w σ).bind eS
theorem Qe {e w}(h:JE prog K D cs e w) (he:∀ env whole,isTrue e env whole=(do let v ← whole;standAt e.pos;holding [v] (truthy v))):JT prog K D cs e (tE w):=
 fun c A rm fr k s m W σ R Q E hp=>isTrue_plain (h c A rm fr k s m W σ R _ E (aA.bind hp fun a x σ1 h1 tk1 m1 W1 R1 X1 ra p1=>ic R1 ra p1)) (he _ _)
theorem Xo {op l r p wl wr f}(hop:cH prog D (compareOp op) f) (hl:JE prog K D cs l wl) (hr:JE prog K D cs r wr) (hm:behindInMarks op r=false):JT prog K D cs (.Compare l [op] [r] p) (tE (ag f wl wr)):=
 fun c A rm fr k s m W σ R Q E hp=>by
  refine wpAny_isTrue_Compare1 (hl c A rm fr k s m W σ R _ E ?_) hm
  unfold tE ag at hp
  have hp':aA c (fun _ a x=>a=x) s W Q E ((wl σ).bind fun x σ1=>((wr σ1).bind fun y σ2=>f x y σ2).bind eS):=by
   revert hp;cases wl σ <;> exact id
  refine aA.bind hp' fun a x σ1 h1 tk1 m1 W1 R1 X1 ra p1=>?_
  have p1':aA c (fun _ a x=>a=x) { s with heap:=h1,toks:=tk1 } W1 Q E ((wr σ1).bind fun y σ2=>(f x y σ2).bind eS):=by
   revert p1;cases wr σ1 <;> exact id
  refine hr c A rm fr k _ m1 W1 σ1 R1 _ E (aA.bind p1' fun b y σ2 h2 tk2 m2 W2 R2 X2 rb p2=>?_)
  exact hop c A rm a b x y _ m2 W2 σ2 R2 (ra.ext X2) rb _ E (aA.bind p2 fun v z σ3 h3 tk3 m3 W3 R3 X3 rv p3=>ic R3 rv p3)
noncomputable def uX (w:S→Rs Bool):S→Rs Bool:=fun σ=>(w σ).bind fun b σ1=>.ok (!b) σ1
theorem U4 {x p w}(h:JT prog K D cs x w):JT prog K D cs (.UnaryOp .Not x p) (uX w):=
 fun c A rm fr k s m W σ R Q E hp=>isTrue_not (h c A rm fr k s m W σ R _ E (aA.bind hp fun a x σ1 h1 tk1 m1 W1 R1 X1 ra p1=>by
  subst ra;exact p1 _ h1 tk1 m1 W1 R1 (aJ.refl _) rfl))
noncomputable def bj (w:S→Rs Bool) (r:S→Rs Bool):S→Rs Bool:=fun σ=>(w σ).bind fun b σ1=>if b then r σ1 else .ok false σ1
theorem U5 {x rest p w r}(h:JT prog K D cs x w) (hr:JT prog K D cs (.BoolOp .And rest p) r):JT prog K D cs (.BoolOp .And (x::rest) p) (bj w r):=
 fun c A rm fr k s m W σ R Q E hp=>isTrue_and (h c A rm fr k s m W σ R _ E (aA.bind hp fun a x σ1 h1 tk1 m1 W1 R1 X1 ra p1=>by
  subst ra
  cases a with
  | true=>exact hr c A rm fr k _ m1 W1 σ1 R1 Q E p1
  | false=>exact p1 _ h1 tk1 m1 W1 R1 (aJ.refl _) rfl))
theorem OK {p}:JT prog K D cs (.BoolOp .And [] p) (fun σ=>.ok true σ):=
 fun c A rm fr k s m W σ R Q E hp=>isTrue_and_nil (hp _ s.heap s.toks m W R (aJ.refl _) rfl)
noncomputable def bC (w:S→Rs Bool) (r:S→Rs Bool):S→Rs Bool:=fun σ=>(w σ).bind fun b σ1=>if b then .ok true σ1 else r σ1
theorem Xp {x rest p w r}(h:JT prog K D cs x w) (hr:JT prog K D cs (.BoolOp .Or rest p) r):JT prog K D cs (.BoolOp .Or (x::rest) p) (bC w r):=
 fun c A rm fr k s m W σ R Q E hp=>isTrue_or (h c A rm fr k s m W σ R _ E (aA.bind hp fun a x σ1 h1 tk1 m1 W1 R1 X1 ra p1=>by
  subst ra
  cases a with
  | true=>exact p1 _ h1 tk1 m1 W1 R1 (aJ.refl _) rfl
  | false=>exact hr c A rm fr k _ m1 W1 σ1 R1 Q E p1))
theorem Qf {p}:JT prog K D cs (.BoolOp .Or [] p) (fun σ=>.ok false σ):=
 fun c A rm fr k s m W σ R Q E hp=>isTrue_or_nil (hp _ s.heap s.toks m W R (aJ.refl _) rfl)
def rn (w r:W1):W1:=fun σ=>(w σ).bind fun x σ1=>(eS x σ1).bind fun b σ2=>if b then r σ2 else .ok x σ2
theorem U6 {x y rest p w r}(h:JE prog K D cs x w) (hr:JE prog K D cs (.BoolOp .And (y::rest) p) r):JE prog K D cs (.BoolOp .And (x::y::rest) p) (rn w r):=
 fun c A rm fr k s m W σ R Q E hp=>BoolOp_and (h c A rm fr k s m W σ R _ E (aA.bind hp fun a x σ1 h1 tk1 m1 W1 R1 X1 ra p1=>
  ic R1 ra (aA.bind p1 fun t b σ2 h2 tk2 m2 W2 R2 X2 rb p2=>by
   subst rb
   cases t with
   | true=>exact hr c A rm fr k _ m2 W2 σ2 R2 Q E p2
   | false=>exact p2 _ h2 tk2 m2 W2 R2 (aJ.refl _) (ra.ext X2))))
theorem Qg {op x p w}(h:JE prog K D cs x w):JE prog K D cs (.BoolOp op [x] p) w:=fun c A rm fr k s m W σ R Q E hp=>BoolOp_one (h c A rm fr k s m W σ R Q E hp)
def y1 (w r:W1):W1:=fun σ=>(w σ).bind fun x σ1=>(eS x σ1).bind fun b σ2=>if b then .ok x σ2 else r σ2
theorem Xq {x y rest p w r}(h:JE prog K D cs x w) (hr:JE prog K D cs (.BoolOp .Or (y::rest) p) r):JE prog K D cs (.BoolOp .Or (x::y::rest) p) (y1 w r):=
 fun c A rm fr k s m W σ R Q E hp=>BoolOp_or (h c A rm fr k s m W σ R _ E (aA.bind hp fun a x σ1 h1 tk1 m1 W1 R1 X1 ra p1=>
  ic R1 ra (aA.bind p1 fun t b σ2 h2 tk2 m2 W2 R2 X2 rb p2=>by
   subst rb
   cases t with
   | true=>exact p2 _ h2 tk2 m2 W2 R2 (aJ.refl _) (ra.ext X2)
   | false=>exact hr c A rm fr k _ m2 W2 σ2 R2 Q E p2)))
def Gl (w:W1):W1:=fun σ=>(w σ).bind fun x σ1=>(eS x σ1).bind fun b σ2=>.ok (.bool !b) σ2
theorem Xr {x p w}(h:JE prog K D cs x w):JE prog K D cs (.UnaryOp .Not x p) (Gl w):=
 fun c A rm fr k s m W σ R Q E hp=>UnaryOp_ (h c A rm fr k s m W σ R _ E (aA.bind hp fun a x σ1 h1 tk1 m1 W1 R1 X1 ra p1=>
  not_of (ic R1 ra (aA.bind p1 fun t b σ2 h2 tk2 m2 W2 R2 X2 rb p2=>by
   subst rb;exact p2 _ h2 tk2 m2 W2 R2 (aJ.refl _) (.bool _)))))
def eC (w:W1):W1:=fun σ=>(w σ).bind fun x σ1=>jx x.un fun a=>.ok (.int (-a)) σ1
theorem Xs {x p w}(h:JE prog K D cs x w):JE prog K D cs (.UnaryOp .USub x p) (eC w):=
 fun c A rm fr k s m W σ R Q E hp=>UnaryOp_ (h c A rm fr k s m W σ R _ E (aA.bind hp fun a x σ1 h1 tk1 m1 W1 R1 X1 ra p1=>xN p1 fun i hx p1=>by
  obtain⟨_,rfl⟩:=VR.int_e ra hx
  exact PyProof.Rows.neg_int (ff R1 p1 (.int _ _))))
noncomputable def eT (t:S→Rs Bool) (a b:W1):W1:=fun σ=>(t σ).bind fun c σ1=>if c then a σ1 else b σ1
theorem ZJ {t x y p wt wa wb}(ht:JT prog K D cs t wt) (ha:JE prog K D cs x wa) (hb:JE prog K D cs y wb):JE prog K D cs (.IfExp t x y p) (eT wt wa wb):=
 fun c A rm fr k s m W σ R Q E hp=>IfExp_ (ht c A rm fr k s m W σ R _ E (aA.bind hp fun a x σ1 h1 tk1 m1 W1 R1 X1 ra p1=>by
  subst ra
  cases a with
  | true=>exact ha c A rm fr k _ m1 W1 σ1 R1 Q E p1
  | false=>exact hb c A rm fr k _ m1 W1 σ1 R1 Q E p1))
def vN (f g:V→V→S→Rs V) (l m r:W1):S→Rs Bool:=fun σ=>(l σ).bind fun x σ1=>(m σ1).bind fun y σ2=>(f x y σ2).bind fun t σ3=>(eS t σ3).bind fun b σ4=>if b then(r σ4).bind fun z σ5=>(g y z σ5).bind eS else .ok false σ4
theorem OL {o1 o2 l x r p wl wx wr f g}(h1:cH prog D (compareOp o1) f) (h2:cH prog D (compareOp o2) g) (hl:JE prog K D cs l wl) (hx:JE prog K D cs x wx) (hr:JE prog K D cs r wr) (hm:lastMarks [o1,o2] [x,r]=false):
  JT prog K D cs (.Compare l [o1,o2] [x,r] p) (vN f g wl wx wr):=fun c A rm fr k s m W σ R Q E hp=>by
 refine isTrue_chain (hl c A rm fr k s m W σ R _ E (aA.bind hp fun a x σ1 h1' tk1 m1 W1 R1 X1 ra p1=>?_)) hm
 refine test_link (hx c A rm fr k _ m1 W1 σ1 R1 _ E (aA.bind p1 fun b y σ2 h2' tk2 m2 W2 R2 X2 rb p2=>?_))
 refine h1 c A rm a b x y _ m2 W2 σ2 R2 (ra.ext X2) rb _ E (aA.bind p2 fun v t σ3 h3 tk3 m3 W3 R3 X3 rv p3=>?_)
 refine ic R3 rv (aA.bind p3 fun t' b' σ4 h4 tk4 m4 W4 R4 X4 rb4 p4=>?_)
 subst rb4
 cases t' with
 | true=>
  exact test_last (hr c A rm fr k _ m4 W4 σ4 R4 _ E (aA.bind p4 fun d z σ5 h5 tk5 m5 W5 R5 X5 rd p5=>h2 c A rm b d y z _ m5 W5 σ5 R5 (((rb.ext X3).ext X4).ext X5) rd _ E (aA.bind p5 fun u q σ6 h6 tk6 m6 W6 R6 X6 ru p6=>ic R6 ru p6)))
 | false=>exact p4 _ h4 tk4 m4 W4 R4 (aJ.refl _) rfl
end
section
variable {prog:Program}{K:World→Frag}{D:Nat}{cs:Scope}
inductive Fl where
 | next
 | brk
 | cont
 | ret (x:V)
inductive RF (c:Act) (W:aV):Flow→Fl→Prop
 | next:RF c W .next .next
 | brk:RF c W .brk .brk
 | cont:RF c W .cont .cont
 | ret {v x}:RV c W v x→RF c W (.ret v) (.ret x)
abbrev W2:=S→Rs Fl
def JX (prog:Program) (K:World→Frag) (D:Nat) (cs:Scope) (e:PySem.Stmt) (w:W2):Prop:=
 ∀ (c:Act) (A:Around),cA D c A→cE c cs→cg prog K c→∀ s m W σ,Rel c s.heap m W σ→∀ Q E,aA c (RF c) s W Q E (w σ)→wpAny (model prog c.w) A (exec e c.env) Q E s
def JS (prog:Program) (K:World→Frag) (D:Nat) (cs:Scope) (e:List PySem.Stmt) (w:W2):Prop:=
 ∀ (c:Act) (A:Around),cA D c A→cE c cs→cg prog K c→∀ s m W σ,Rel c s.heap m W σ→∀ Q E,aA c (RF c) s W Q E (w σ)→wpAny (model prog c.w) A (execs e c.env) Q E s
noncomputable def ai:W2:=fun σ=>.ok .next σ
theorem Xu:JS prog K D cs [] ai:=fun c A rm fr k s m W σ R Q E hp=>wpAny_execs_nil (hp _ s.heap s.toks m W R (aJ.refl _) .next)
noncomputable def af (a b:W2):W2:=fun σ=>(a σ).bind fun f σ1=>match f with
 | .next=>b σ1
 | f=>.ok f σ1
theorem U7 {st rest a b}(h:JX prog K D cs st a) (hr:JS prog K D cs rest b):JS prog K D cs (st::rest) (af a b):=
 fun c A rm fr k s m W σ R Q E hp=>by
  refine wpAny_execs_cons (h c A rm fr k s m W σ R _ E (aA.bind hp fun f x σ1 h1 tk1 m1 W1 R1 X1 ra p1=>?_))
  cases ra with
  | next=>exact hr c A rm fr k _ m1 W1 σ1 R1 Q E p1
  | brk=>exact p1 _ h1 tk1 m1 W1 R1 (aJ.refl _) .brk
  | cont=>exact p1 _ h1 tk1 m1 W1 R1 (aJ.refl _) .cont
  | ret hv=>exact p1 _ h1 tk1 m1 W1 R1 (aJ.refl _) (.ret hv)
noncomputable def ax (w:W1):W2:=fun σ=>(w σ).bind fun x σ1=>.ok (.ret x) σ1
theorem Xv {e p w}(h:JE prog K D cs e w):JX prog K D cs (.Return (some e) p) (ax w):=
 fun c A rm fr k s m W σ R Q E hp=>wpAny_Return_some (h c A rm fr k s m W σ R _ E (aA.bind hp fun v x σ1 h1 tk1 m1 W1 R1 X1 ra p1=>p1 _ h1 tk1 m1 W1 R1 (aJ.refl _) (.ret ra)))
noncomputable def Gm:W2:=fun σ=>.ok (.ret .none) σ
theorem U8 {p}:JX prog K D cs (.Return none p) Gm:=
 fun c A rm fr k s m W σ R Q E hp=>wpAny_Return_none (hp _ s.heap s.toks m W R (aJ.refl _) (.ret .none))
noncomputable def aI (t:S→Rs Bool) (a b:W2):W2:=fun σ=>(t σ).bind fun c σ1=>if c then a σ1 else b σ1
theorem Xw {t x y p wt wa wb}(ht:JT prog K D cs t wt) (ha:JS prog K D cs x wa) (hb:JS prog K D cs y wb):JX prog K D cs (.If t x y p) (aI wt wa wb):=
 fun c A rm fr k s m W σ R Q E hp=>wpAny_If (ht c A rm fr k s m W σ R _ E (aA.bind hp fun a x σ1 h1 tk1 m1 W1 R1 X1 ra p1=>by
  subst ra
  cases a with
  | true=>exact ha c A rm fr k _ m1 W1 σ1 R1 Q E p1
  | false=>exact hb c A rm fr k _ m1 W1 σ1 R1 Q E p1))
noncomputable def cB:W2:=fun _=>.no
theorem Xx {st}:JX prog K D cs st cB:=fun c A rm fr k s m W σ R Q E hp=>hp.elim
theorem U9 {ss}:JS prog K D cs ss cB:=fun c A rm fr k s m W σ R Q E hp=>hp.elim
theorem Qh {l:List Str}(h:l.Nodup) {i j:Nat}{x:Str}(hi:l[i]?=some x) (hj:l[j]?=some x):i=j:=by
 obtain⟨a,ea⟩:=List.getElem?_eq_some_iff.mp hi
 obtain⟨b,eb⟩:=List.getElem?_eq_some_iff.mp hj
 have q:=List.pairwise_iff_getElem.mp h
 rcases Nat.lt_trichotomy i j with l | l | l
 ·exact absurd (ea.trans eb.symm) (q i j a b l)
 ·exact l
 ·exact absurd (eb.trans ea.symm) (q j i b a l)
theorem Rel.store {c:Act}{h h':Heap}{m:Str→Option Value}{W:aV}{σ:S}{x:Str}{i:Nat}{v:Value}{y:V}(R:Rel c h m W σ) (hnd:c.ns.Nodup) (hi:c.ns[i]?=some x) (hv:RV c W v y)
  (F:Fr c.b c.L h' (fun z=>if z=x then some v else m z)) (N:News c.b c.L h' W.nw):Rel c h' (fun z=>if z=x then some v else m z) W { σ with env:=σ.env.set i y }:=by
 refine⟨F,N,R.nd,R.fz,R.off,R.rnd,R.fro,R.ffr,R.fra,R.frd,R.len,R.st,by simpa using R.elen,fun j n u hj hu=>?_,fun j n u hj hu=>?_,R.stk⟩
 dsimp only at hu
 by_cases e:j=i
 ·subst e
  obtain rfl:x=n:=Option.some.inj (hi.symm.trans hj)
  have hlt:j<σ.env.length:=by rw[R.elen];exact Nat.lt_of_lt_of_le (List.getElem?_eq_some_iff.mp hi).1 (Nat.le_add_right _ _)
  rw[List.getElem?_set_self hlt]at hu
  cases hu
  exact .inr ⟨v,by simp,hv⟩
 ·rw[List.getElem?_set_ne (Ne.symm e)]at hu
  rcases R.env j n u hj hu with h1 | ⟨w,hw,h2⟩
  ·exact .inl h1
  ·refine .inr ⟨w,?_,h2⟩
   rw[if_neg (fun q:n=x=>e (Qh hnd (q▸hj) hi))]
   exact hw
 ·dsimp only at hu
  have hlt:i<c.ns.length:=(List.getElem?_eq_some_iff.mp hi).1
  rw[List.getElem?_set_ne (by omega)]at hu
  exact R.cell j n u hj hu
theorem xO {q fn ccd r cl}{c:Act}{A:Around}{s:Shared}{m:Str→Option Value}{news:Led}{x:Str}{v:Value}{Q:Unit→Shared→Prop}{E:Value→Shared→Prop}(F:Fr c.b c.L s.heap m) (N:News c.b c.L s.heap news)
  (h:∀ h',Fr c.b c.L h' (fun y=>if y=x then some v else m y)→News c.b c.L h' news→Q () { s with heap:=h',toks:=s.toks+1 })
  (hk:cs.kind=.function) (hx:cs.names.lookup x=some .local):wpAny (model prog c.w) A (storeName (envG q cs c.L fn ccd r cl) x v) Q E s:=
 wpAny_storeName_local (env:=envG q cs c.L fn ccd r cl) hx F.ns (fun h' hn hs=>h h' (F.set hn hs) (N.set hs)) (by show(cs.kind==.class || (cs.kind==.module&&c.L != mainGlobals))=false;rw[hk];rfl)
structure Slot (cs:Scope) (x:Str) (i:Nat):Prop where
 kind:cs.names.lookup x=some .local
 at_:((cs.names.filter fun y=>y.2==.local).map (·.1))[i]?=some x
 nd:((cs.names.filter fun y=>y.2==.local).map (·.1)).Nodup
noncomputable def aG (i:Nat) (w:W1):W2:=fun σ=>(w σ).bind fun x σ1=>.ok .next { σ1 with env:=σ1.env.set i x }
theorem Xy {x px e p w i}(hx:Slot cs x i) (h:JE prog K D cs e w) (hs:∀ env,swapsWith e (some (.Name x px)) p.line env=pure false):JX prog K D cs (.Assign [.Name x px] e p) (aG i w):=
 fun c A rm fr k s m W σ R Q E hp=>by
  refine wpAny_Assign_Name (h c A rm fr k s m W σ R _ E (aA.bind hp fun v y σ1 h1 tk1 m1 W1 R1 X1 ra p1=>?_)) (hs _)
  have hi:c.ns[i]?=some x:=fr.ns▸hx.at_
  obtain⟨q,fn,ccd,r,e⟩:=fr.env
  rw[e]
  exact xO R1.F R1.N (fun h' F' N'=>p1 _ h' _ _ W1 (R1.store (fr.ns▸hx.nd) hi ra F' N') (aJ.refl _) .next) fr.kind hx.kind
end
section
variable {prog:Program}{K:World→Frag}{D:Nat}{cs:Scope}
inductive Rf where
 | ok (x:V) (st:List MO)
 | exc (C:Addr)
 | no
noncomputable def Rf.rs (env:List V):Rf→Rs V
 | .ok x st=>.ok x ⟨env,st⟩
 | .exc C=>.exc C
 | .no=>.no
abbrev FS:=List V→List MO→Rf
noncomputable def Gn (c:Act) (m:Str→Option Value) (s:Shared) (W:aV) (Q:Value→Shared→Prop) (E:Value→Shared→Prop):Rs V→Prop
 | .ok x σ'=>∀ a h' tk W',Rel c h' m W' σ'→aJ W W'→RV c W' a x→Q a { s with heap:=h',toks:=tk }
 | .exc C=>∀ e h' tk,dE c W C e h'→h'.Ns c.L m→E (.ref e) { s with heap:=h',toks:=tk }
 | .no=>False
theorem aA.toF {c:Act}{m:Str→Option Value}{s:Shared}{W:aV}{Q E}{r:Rs V}(h:aA c (RV c) s W Q E r):Gn c m s W Q E r:=by
 cases r with
 | ok x σ=>exact fun a h' tk W' R X v=>h a h' tk m W' R X v
 | exc C=>exact fun e h' tk t _=>h e h' tk t
 | no=>exact h
def JF (prog:Program) (K:World→Frag) (D:Nat) (v:Value) (spec:FS):Prop:=
 ∀ (c:Act) (A:Around),cA (D+1) c A→cg prog K c→∀ s m W σ,Rel c s.heap m W σ→∀ vs xs,RVs c W vs xs→∀ Q E,Gn c m s W Q E ((spec xs σ.st).rs σ.env)→
  codeAny (model prog c.w) A (.call v ⟨vs,[]⟩) (fun r s'=>match r with | .ok (.ret v)=>Q v s' | .ok _=>False | .error e=>E e s') s
theorem cA.mono {D D':Nat}{c:Act}{A:Around}(r:cA D' c A) (h:D≤D'):cA D c A:=⟨r.handled,r.frames,by have:=r.depth;omega,by have:=r.units;omega⟩
noncomputable def jK (n k:Nat) (w:W2):FS:=fun xs st=>if xs.length=n then match w ⟨xs++List.replicate k .unb,st⟩with
 | .ok (.ret x) σ=>.ok x σ.st
 | .ok .next σ=>.ok .none σ.st
 | .ok _ _=>.no
 | .exc C=>.exc C
 | .no=>.no
 else .no
abbrev sp (g nd k:Nat) (w:W2) (ds:List V):FS:=fun xs st=>if xs.length=g then jK (g+nd) k w (xs++ds) st else .no
theorem um:∀ (ps:List Str) (vs:List Value) (i:Nat) (p:Str) (v:Value),ps.Nodup→ps[i]?=some p→vs[i]?=some v→(ps.zip vs).lookup p=some v
 | [],_,_,_,_,_,h,_=>by simp at h
 | _::_,[],_,_,_,_,_,h=>by simp at h
 | p'::ps,v'::vs,0,p,v,_,h1,h2=>by
  simp only[List.getElem?_cons_zero,Option.some.injEq]at h1 h2
  subst h1 h2
  simp
 | p'::ps,v'::vs,i+1,p,v,hn,h1,h2=>by
  simp only[List.getElem?_cons_succ]at h1 h2
  rw[List.nodup_cons]at hn
  have hm:p∈ps:=List.mem_of_getElem? h1
  have hne:(p==p')=false:=beq_eq_false_iff_ne.mpr fun e=>hn.1 (e▸hm)
  rw[List.zip_cons_cons,List.lookup_cons,hne]
  exact um ps vs i p v hn.2 h1 h2
theorem Gp {l:List (Str×Value)}(hn:(l.map (·.1)).Nodup) (p:Str):l.reverse.lookup p=l.lookup p:=by
 induction l with
 | nil=>rfl
 | cons q l ih=>
  rw[List.map_cons,List.nodup_cons]at hn
  rw[List.reverse_cons,List.lookup_append,ih hn.2]
  obtain⟨a,b⟩:=q
  by_cases h:p=a
  ·subst h
   have:l.lookup p=none:=by
    rw[List.lookup_eq_none_iff]
    intro x hx
    exact bne_iff_ne.mpr fun(e:p=x.1)=>hn.1 (show p∈l.map (·.1)from e▸List.mem_map_of_mem hx)
   simp[this]
  ·have:(p==a)=false:=beq_eq_false_iff_ne.mpr h
   simp[List.lookup_cons,this]
theorem Rel.stkIn {c:Act}{h:Heap}{m:Str→Option Value}{W:aV}{σ:S}{env':Env}{L':Addr}(R:Rel c h m W σ) (hk:env'.scope.kind≠.module) (hf:env'.frame=some L'):
  ∀ e∈env'::c.stk,e.scope.kind≠.module∧∃ a,e.frame=some a∧(a=L'∨a∈c.L::W.frs):=fun e he=>by
 rcases List.mem_cons.mp he with rfl | he
 ·exact⟨hk,L',hf,.inl rfl⟩
 ·obtain⟨h1,a,h2,h3⟩:=R.stk e he;exact⟨h1,a,h2,.inr (List.mem_cons.mpr h3)⟩
theorem Rel.enter {c:Act}{h h₁:Heap}{m m':Str→Option Value}{W:aV}{σ:S}{ns:List Str}{env':Env}{stk':List Env}{xs:List V}{k:Nat}(R:Rel c h m W σ) {oL:Obj}(hL:h.get? c.L=some oL) (hLd:∀ vs,oL.data≠.fields vs)
  (hns:h₁.Ns h.objs.size m') (hk:∀ b o,h.get? b=some o→h₁.get? b=some o) (hlen:ns.length=xs.length+k)
  (he:∀ (i:Nat) n v,ns[i]?=some n→xs[i]?=some v→∃ u,m' n=some u∧RV c W u v)
  (hst:∀ e∈stk',e.scope.kind≠.module∧∃ a,e.frame=some a∧(a=h.objs.size∨a∈c.L::W.frs)):
  Rel ⟨c.w,c.b,ns,h.objs.size,env',stk',[],[]⟩ h₁ m' ⟨(c.L,oL)::W.nw,W.fz,W.rho,c.L::W.frs⟩ ⟨xs++List.replicate k .unb,σ.st⟩:=by
 have hb:c.b.get? c.L=none:=by
  cases q:c.b.get? c.L with
  | none=>rfl
  | some o=>exact absurd (Heap.lt_size q) (Nat.not_lt.mpr R.F.above)
 refine⟨⟨hns,fun b o e=>hk b o (R.F.keep b o e),?_⟩,?_,?_,?_,R.off,R.rnd,?_,?_,?_,?_,R.len,?_,?_,?_,(fun j n v h=>by simp at h),hst⟩
 ·exact Nat.le_trans R.F.above (Nat.le_of_lt (Heap.lt_size hL))
 ·intro p hp
  rcases List.mem_cons.mp hp with rfl | hp
  ·exact⟨hk _ _ hL,Nat.ne_of_lt (Heap.lt_size hL),hb⟩
  ·have q:=R.N p hp
   exact⟨hk _ _ q.1,Nat.ne_of_lt (Heap.lt_size q.1),q.2.2⟩
 ·rw[List.map_cons,List.nodup_cons]
  refine⟨fun hm=>?_,R.nd⟩
  obtain⟨p,hp,e⟩:=List.mem_map.mp hm
  exact(R.N p hp).2.1 e
 ·exact fun p hp=>.tail _ (R.fz p hp)
 ·intro q hq hm
  rcases List.mem_cons.mp hm with e | hm
  ·exact R.noL q hq e.symm
  ·exact R.fro q hq hm
 ·intro p hp hm
  rcases List.mem_cons.mp hm with e | hm
  ·exact(R.N p (R.fz p hp)).2.1 e
  ·exact R.ffr p hp hm
 ·intro a ha
  rcases List.mem_cons.mp ha with rfl | ha
  ·exact .head _
  ·exact .tail _ (R.fra a ha)
 ·intro p hp hm
  rcases List.mem_cons.mp hp with rfl | hp
  ·exact hLd
  ·rcases List.mem_cons.mp hm with e | hm
   ·exact absurd e (R.N p hp).2.1
   ·exact R.frd p hp hm
 ·intro i o ho
  obtain⟨x,d,ro,h1,h2,h3⟩:=R.st i o ho
  exact⟨x,d,ro,h1,.tail _ h2,h3⟩
 ·simp[hlen]
 ·intro i n v hi hv
  by_cases hlt:i<xs.length
  ·rw[List.getElem?_append_left hlt]at hv
   exact .inr (he i n v hi hv)
  ·rw[List.getElem?_append_right (Nat.le_of_not_lt hlt)]at hv
   have:=List.mem_of_getElem? hv
   exact .inl (List.eq_of_mem_replicate this)
theorem Rel.leave {c:Act}{h h':Heap}{m m'':Str→Option Value}{W W'':aV}{σ σ'':S}{ns:List Str}{env':Env}{L':Addr}(R:Rel c h m W σ) {oL:Obj}(hL:h.get? c.L=some oL)
  {stk:List Env}{cn:List Str}{cl:List (Str×Addr)}(R2:Rel ⟨c.w,c.b,ns,L',env',stk,cn,cl⟩ h' m'' W'' σ'') (X:aJ ⟨(c.L,oL)::W.nw,W.fz,W.rho,c.L::W.frs⟩ W''):
  Rel c h' m ⟨W''.nw.filter fun p=>decide (p.1≠c.L),W''.fz,W''.rho,W.frs⟩ ⟨σ.env,σ''.st⟩∧aJ W ⟨W''.nw.filter fun p=>decide (p.1≠c.L),W''.fz,W''.rho,W.frs⟩:=by
 have hfrs:W''.frs=c.L::W.frs:=X.frs
 have apart:=R.noL
 obtain⟨sl,hsl⟩:=X.fr (c.L,oL) (.head _) (.head _) apart
 have X':aJ W ⟨W''.nw.filter fun p=>decide (p.1≠c.L),W''.fz,W''.rho,W.frs⟩:=by
  refine⟨X.fz,X.rho,fun a ha=>?_,fun q hq=>?_,fun p hp h1 h2=>?_,rfl,fun p hp h1 h2=>?_,fun p hp=>?_⟩
  ·have:=X.ad a (.tail _ ha)
   obtain⟨p,hp,rfl⟩:=List.mem_map.mp this
   refine List.mem_map.mpr ⟨p,List.mem_filter.mpr ⟨hp,?_⟩,rfl⟩
   obtain⟨p',hp',e⟩:=List.mem_map.mp ha
   exact decide_eq_true (e▸(R.N p' hp').2.1)
  ·exact(X.new q hq).imp id fun h e=>h (.tail _ e)
  ·refine List.mem_filter.mpr ⟨X.nw p (.tail _ hp) h1 fun hm=>?_,decide_eq_true (R.N p hp).2.1⟩
   rcases List.mem_cons.mp hm with e | hm
   ·exact(R.N p hp).2.1 e
   ·exact h2 hm
  ·obtain⟨sl,hsl⟩:=X.fr p (.tail _ hp) (.tail _ h1) h2
   exact⟨sl,List.mem_filter.mpr ⟨hsl,decide_eq_true (R.N p hp).2.1⟩⟩
  ·exact(X.fzn p hp).imp id fun h e=>h (.tail _ e)
 refine⟨⟨⟨?_,R2.F.keep,R.F.above⟩,?_,?_,?_,R2.off,R2.rnd,?_,?_,fun a ha=>X'.ad a (R.fra a ha),?_,R2.len,?_,R.elen,?_,?_,R.stk⟩,X'⟩
 ·obtain⟨o,es,ep,h1,h2,h3⟩:=R.F.ns
  rw[hL]at h1
  cases h1
  exact⟨_,es,ep,(R2.N _ hsl).1,h2,h3⟩
 ·intro p hp
  obtain⟨hp,hne⟩:=List.mem_filter.mp hp
  exact⟨(R2.N p hp).1,of_decide_eq_true hne,(R2.N p hp).2.2⟩
 ·exact(List.filter_sublist.map _).nodup R2.nd
 ·intro p hp
  refine List.mem_filter.mpr ⟨R2.fz p hp,decide_eq_true fun e=>R2.ffr p hp ?_⟩
  rw[hfrs,e]
  exact .head _
 ·intro q hq hm
  exact R2.fro q hq (hfrs▸.tail _ hm)
 ·intro p hp hm
  exact R2.ffr p hp (hfrs▸.tail _ hm)
 ·intro p hp hm
  exact R2.frd p (List.mem_filter.mp hp).1 (hfrs▸.tail _ hm)
 ·intro i o ho
  obtain⟨x,d,ro,h1,h2,h3⟩:=R2.st i o ho
  refine⟨x,d,ro,h1,List.mem_filter.mpr ⟨h2,decide_eq_true fun e=>?_⟩,h3⟩
  refine R2.fro (x,d) (List.mem_of_getElem? h1) (hfrs▸?_)
  show d∈c.L::W.frs
  rw[show d=c.L from e]
  exact .head _
 ·exact R.envX X'
 ·exact R.cellX X'
end
section
variable {prog:Program}{K:World→Frag}{D:Nat}{cs:Scope}
theorem dE.leave {c:Act}{h h' h'':Heap}{m:Str→Option Value}{W:aV}{σ:S}{C e:Addr}(R:Rel c h m W σ) {oL:Obj}(hL:h.get? c.L=some oL) (hLd:∀ vs,oL.data≠.fields vs)
  {B:Heap}{a0:Value}(hB:c.b.StaysIn B) (hnw:∀ p∈((c.L,oL)::W.nw),(∀ q∈W.rho,p.1≠q.2)→p.1∉(c.L::W.frs)→B.get? p.1=some p.2)
  (hfr:∀ p∈((c.L,oL)::W.nw),p.1∈(c.L::W.frs)→(∀ q∈W.rho,p.1≠q.2)→∃ sl,h'.get? p.1=some { p.2 with slots:=sl })
  (hfl:th B c.stk e (.ref C) a0 h'') (up:h'.UpToSlots h''):dE c W C e h''∧h''.Ns c.L m:=by
 have apart:=R.noL
 have slot:∀ p∈((c.L,oL)::W.nw),p.1∈(c.L::W.frs)→(∀ q∈W.rho,p.1≠q.2)→(∀ vs,p.2.data≠.fields vs)→∃ sl,h''.get? p.1=some { p.2 with slots:=sl }:=fun p hp hm ha hd=>by
  obtain⟨sl,hsl⟩:=hfr p hp hm ha
  obtain⟨sl',hsl'⟩:=up _ _ hsl hd
  exact⟨sl',hsl'⟩
 have hns:h''.Ns c.L m:=by
  obtain⟨sl,hsl⟩:=slot (c.L,oL) (.head _) (.head _) apart hLd
  obtain⟨o,es,ep,h1,h2,h3⟩:=R.F.ns
  rw[hL]at h1
  cases h1
  exact⟨_,es,ep,hsl,h2,h3⟩
 refine⟨⟨B,a0,hB,fun p hp ha hf=>hnw p (.tail _ hp) ha fun hm=>?_,hfl,⟨m,hns⟩,fun p hp hf ha=>slot p (.tail _ hp) (.tail _ hf) ha (R.frd p hp hf)⟩,hns⟩
 ·rcases List.mem_cons.mp hm with e | hm
  ·exact(R.N p hp).2.1 e
  ·exact hf hm
noncomputable def Loc (scope:Scope):List Str:=(scope.names.filter fun y=>y.2==.local).map (·.1)
structure de (K:World→Frag) (f:Addr) (body:List PySem.Stmt) (scope:Scope) (pn:List Str) (g k:Nat) (dvs:List Value):Prop where
 there:∀ w0 (G:Prop),(∀ oc od name qual params dV kV doc pm an cdv ct osl,(K w0).lookup f=some ⟨oc,od,.func (fnOf name qual params body scope dV kV doc pm an cdv ct),osl⟩→codeIn (K w0) cdv qual=true→
  (∀ (s:Shared) vs,(K w0).In s.heap→vs.length=g→BindsTo s (fnOf name qual params body scope dV kV doc pm an cdv ct) ⟨vs,[]⟩ (pn.zip (vs++dvs)))→G)→G
 names:Loc scope=pn++(Loc scope).drop pn.length
 cnt:pn.length=g+dvs.length
 kcnt:(Loc scope).length=pn.length+k
 nd:(Loc scope).Nodup
 loc:∀ y∈pn,scope.names.lookup y=some .local
 cell:∀ x∈scope.names,x.2≠.cell
 co:scope.isCoroutine=false
 gen:scope.isGenerator=false
 kind:scope.kind=.function
theorem OM {scope:Scope}(h:∀ x∈scope.names,x.2≠.cell):(scope.names.filter fun x=>x.2==.cell).map (·.1)=[]:=by
 rw[List.filter_eq_nil_iff.mpr fun x hx=>by simpa using h x hx];rfl
def Top (c:Act):Prop:=∃ outer,c.stk=c.env::outer∧c.env.frame=some c.L
def MV (prog:Program) (K:World→Frag) (D:Nat) (cs:Scope) (e:List PySem.Stmt) (w:W2):Prop:=
 ∀ (c:Act) (A:Around),cA D c A→cE c cs→cg prog K c→Top c→∀ s m W σ,Rel c s.heap m W σ→∀ Q E,aA c (RF c) s W Q E (w σ)→wpAny (model prog c.w) A (execs e c.env) Q E s
theorem Gq {f:Addr}{body:List PySem.Stmt}{scope:Scope}{pn:List Str}{g k:Nat}{dvs:List Value}{dxs:List V}{w:W2}(H:de K f body scope pn g k dvs) (hd:∀ P F rho,VRs P F rho dvs dxs) (hb:MV prog K D scope body w):
  JF prog K D (.ref f) (fun xs st=>if xs.length=g then jK (g+dxs.length) k w (xs++dxs) st else .no):=by
 intro c A rm kk s m W σ R vs xs hvs Q E hp
 refine H.there c.w _ fun oc od name qual params dV kV doc pm an cdv ct osl ho hcd hbind=>?_
 by_cases hg:xs.length=g
 case neg=>(dsimp only at hp;rw[if_neg hg]at hp;exact hp.elim)
 dsimp only at hp
 rw[if_pos hg]at hp
 have hXs:=kk.X.keeps R.F.keep
 refine kk.top fun p' loose' mg mb T=>?_
 have hlim:=T.nolimit.keeps R.F.keep
 refine ns_obj R.F.ns fun oL hL hLd'=>?_
 have hdl:dvs.length=dxs.length:=(hd c.w.params (fun _ _=>False) []).1
 have hvl:vs.length=g:=hvs.1.trans hg
 have hpl:pn.length=(vs++dvs).length:=by rw[List.length_append,hvl];exact H.cnt
 have hnd:pn.Nodup:=by
  have:=H.nd
  rw[H.names]at this
  exact(List.nodup_append.mp this).1
 refine codeAny_call_def (fd:=fnOf name qual params body scope dV kV doc pm an cdv ct) (body:=body) (binds:=pn.zip (vs++dvs)) (by have:=rm.depth;omega) (hXs _ _ ho) rfl hlim (codeRec_of hXs hcd) rfl
  (hbind s vs hXs hvl) H.cell (fun y hy=>?_) (fun h₁ hns hk=>?_) H.co H.gen H.kind
 ·exact H.loc y.1 (List.of_mem_zip hy).1
 ·let env':Env:=envX qual scope s.heap.objs.size f cdv []
  have hz:((pn.zip (vs++dvs)).map (·.1))=pn:=List.map_fst_zip (Nat.le_of_eq hpl)
  have hxl:(xs++dxs).length=g+dxs.length:=by rw[List.length_append,hg]
  have R':=R.enter (ns:=Loc scope) (env':=env') (stk':=env'::c.stk) (xs:=xs++dxs) (k:=k) hL hLd' hns hk (by rw[H.kcnt,H.cnt,hdl,hxl]) (fun i n v hi hv=>by
   have hlt:i<pn.length:=by
    have:=(List.getElem?_eq_some_iff.mp hv).1
    rw[hxl,← hdl]at this
    exact H.cnt▸this
   have hi':pn[i]?=some n:=by
    rw[H.names,List.getElem?_append_left hlt]at hi
    exact hi
   have hvv:i<(vs++dvs).length:=hpl▸hlt
   refine⟨(vs++dvs)[i],?_,?_⟩
   ·rw[Gp (hz.symm▸hnd)]
    exact um _ _ _ _ _ hnd hi' (List.getElem?_eq_getElem hvv)
   ·by_cases hq:i<vs.length
    ·rw[List.getElem?_append_left (hvs.1▸hq)]at hv
     rw[List.getElem_append_left hq]
     exact hvs.2 i _ _ (List.getElem?_eq_getElem hq) hv
    ·have hq':=Nat.le_of_not_lt hq
     rw[List.getElem?_append_right (hvs.1▸hq')]at hv
     rw[List.getElem_append_right hq']
     exact(hd _ _ _).2 (i - vs.length) _ _ (List.getElem?_eq_getElem _) (hvs.1▸hv)) (R.stkIn (env':=env') (L':=s.heap.objs.size) (by show scope.kind≠_;rw[H.kind];decide) rfl)
  have hA':(A.deeper env').frames=some (env'::c.stk):=Around.frames_deeper rm.frames
  have rm':cA D ⟨c.w,c.b,Loc scope,s.heap.objs.size,env',env'::c.stk,[],[]⟩ (A.deeper env'):=
   ⟨rm.handled,hA',by have:=rm.depth;show A.depth+1+4 * D+4<recursionLimit;omega,by have:=rm.units;show A.units+3+12 * D+12<cLine;omega⟩
  refine hb ⟨c.w,c.b,Loc scope,s.heap.objs.size,env',env'::c.stk,[],[]⟩ (A.deeper env') rm' ⟨⟨_,_,_,_,rfl⟩,H.kind,rfl,(OM H.cell).symm⟩ ⟨kk.X,⟨p',loose',mg,mb,T⟩⟩ ⟨c.stk,rfl,rfl⟩ { s with heap:=h₁,toks:=s.toks+(pn.zip (vs++dvs)).length } _ _ _ R' _ _ ?_
  unfold jK at hp
  rw[if_pos hxl]at hp
  generalize w ⟨(xs++dxs)++List.replicate k V.unb,σ.st⟩=r at hp
  cases r with
  | no=>exact hp.elim
  | exc C=>
   intro e h' tk t
   refine t.k fun B a0 hB hnw hfl hns' hfr'=>?_
   refine rk hA' rfl hfl fun h'' hfl'' up=>?_
   obtain⟨t1,t2⟩:=dE.leave R hL hLd' hB hnw hfr' hfl'' up
   exact hp e h'' tk t1 t2
  | ok fl σ''=>
   intro fv h' tk m'' W'' R2 X2 hf
   obtain⟨R3,X3⟩:=R.leave hL R2 X2
   cases hf with
   | next=>exact hp _ h' tk _ R3 X3 .none
   | ret hv=>exact hp _ h' tk _ R3 X3 hv
   | brk=>exact hp.elim
   | cont=>exact hp.elim
theorem om {f:Addr}{body:List PySem.Stmt}{scope:Scope}{pn:List Str}{g k:Nat}{dvs:List Value}{dxs:List V}{w:W2}(H:de K f body scope pn g k dvs) (hd:∀ P F rho,VRs P F rho dvs dxs) (hb:JS prog K D scope body w):
  JF prog K D (.ref f) (fun xs st=>if xs.length=g then jK (g+dxs.length) k w (xs++dxs) st else .no):=Gq H hd fun c A rm fr kk _=>hb c A rm fr kk
end
section
variable {prog:Program}{K:World→Frag}{D:Nat}{cs:Scope}
def JL (prog:Program) (K:World→Frag) (D:Nat) (cs:Scope) (es:List PySem.Expr) (w:S→Rs (List V)):Prop:=
 (∀ env pos,(backTo pos (starEach es env)).any (·.1)=false)∧
 ∀ (c:Act) (A:Around),cA D c A→cE c cs→cg prog K c→∀ s m W σ,Rel c s.heap m W σ→∀ pos (Q:List Value→Shared→Prop) E,aA c (RVs c) s W Q E (w σ)→wpAny (model prog c.w) A (spliced (backTo pos (starEach es c.env))) Q E s
noncomputable def ah:S→Rs (List V):=fun σ=>.ok [] σ
theorem Gr {α:Type}{vs:List α}{n:Nat}(h:vs.length=n+1) {G:Prop}(k:∀ v us,vs=v::us→us.length=n→G):G:=by
 cases vs with
 | nil=>exact Nat.noConfusion h
 | cons v us=>exact k v us rfl (Nat.succ.inj h)
theorem xP {α:Type}{vs:List α}(h:vs.length=1):∃ v,vs=[v]:=Gr h fun v us e h=>⟨v,e.trans (congrArg _ (List.eq_nil_of_length_eq_zero h))⟩
theorem uY {α:Type}{vs:List α}(h:vs.length=2):∃ v u,vs=[v,u]:=Gr h fun v us e h=>(xP h).elim fun u e'=>⟨v,u,e.trans (congrArg _ e')⟩
theorem Qi {α:Type}{vs:List α}(h:vs.length=3):∃ v u z,vs=[v,u,z]:=Gr h fun v us e h=>(uY h).elim fun u h=>h.elim fun z e'=>⟨v,u,z,e.trans (congrArg _ e')⟩
theorem VRs.nil {P F rho}:VRs P F rho [] []:=⟨rfl,fun i v x h=>by simp at h⟩
theorem VRs.cons {P F rho v x vs xs}(h:VR P F rho v x) (hs:VRs P F rho vs xs):VRs P F rho (v::vs) (x::xs):=by
 refine⟨by simp[hs.1],fun i u y hu hy=>?_⟩
 cases i with
 | zero=>simp at hu hy;subst hu hy;exact h
 | succ i=>simp at hu hy;exact hs.2 i u y hu hy
theorem Va:JL prog K D cs [] ah:=⟨fun _ _=>rfl,fun c A rm fr k s m W σ R pos Q E hp=>args_nil (hp _ s.heap s.toks m W R (aJ.refl _) VRs.nil)⟩
noncomputable def ae (w:W1) (r:S→Rs (List V)):S→Rs (List V):=fun σ=>(w σ).bind fun x σ1=>(r σ1).bind fun xs σ2=>.ok (x::xs) σ2
theorem Qj {e es w r}(he:∀ env,starEach (e::es) env=(false,eval e env)::starEach es env) (h:JE prog K D cs e w) (hr:JL prog K D cs es r):JL prog K D cs (e::es) (ae w r):=
 ⟨fun env pos=>by rw[he];exact hr.1 env pos,fun c A rm fr k s m W σ R pos Q E hp=>by
  refine spliced_more (h c A rm fr k s m W σ R _ E (aA.bind hp fun v x σ1 h1 tk1 m1 W1 R1 X1 ra p1=>?_)) (he _)
  exact hr.2 c A rm fr k _ m1 W1 σ1 R1 pos _ E (aA.bind p1 fun vs xs σ2 h2 tk2 m2 W2 R2 X2 rb p2=>p2 _ h2 tk2 m2 W2 R2 (aJ.refl _) (VRs.cons (ra.ext X2) rb))⟩
structure Glob (K:World→Frag) (cs:Scope) (x:Str) (v:Value):Prop where
 kind:cs.names.lookup x=some .globalImplicit
 at_:∀ w,nsIn (K w) mainGlobals x=some (some v)
 nodebug:(x==("__debug__":Str))=false
theorem oz {x v p}(hx:Glob K cs x v) {c:Act}{A:Around}(fr:cE c cs) (k:cg prog K c) {s:Shared}{m W σ}(R:Rel c s.heap m W σ) {Q:Value→Shared→Prop}{E}(h:Q v s):wpAny (model prog c.w) A (eval (.Name x p) c.env) Q E s:=by
 obtain⟨q,fn,ccd,r,e⟩:=fr.env
 obtain⟨p',loose',mg,mb,T⟩:=k.T
 rw[e]
 exact Name_function_global fr.kind hx.kind (loadGlobal_global (env:=envG q cs c.L fn ccd r c.cl) (T.g.keeps R.F.keep) (mg_of k.X T.g (hx.at_ c.w)) h) hx.nodebug
noncomputable def aq (spec:FS) (wa:S→Rs (List V)):W1:=fun σ=>(wa σ).bind fun xs σ1=>(spec xs σ1.st).rs σ1.env
theorem dF {e:PySem.Expr}{es:List PySem.Expr}{env:Env}{pos:Pos}(h:(backTo pos (starEach (e::es) env)).any (·.1)=false) (he:starEach (e::es) env=(false,eval e env)::starEach es env):(backTo pos (starEach es env)).any (·.1)=false:=by
 rw[he]at h
 simpa[backTo]using h
theorem Qk {x v p args pos wa spec e es}(hx:Glob K cs x v) (hk:∀ w,keepIn (K w) v=true) (hf:JF prog K D v spec) (hargs:args=e::es) (ha:JL prog K (D+1) cs args wa) (he:∀ env,starEach (e::es) env=(false,eval e env)::starEach es env):
  JE prog K (D+1) cs (.Call (.Name x p) args [] pos) (aq spec wa):=fun c A rm fr k s m W σ R Q E hp=>by
 subst hargs
 refine Call_ (oz hx fr k R ?_)
 refine callWith_K k.X (hk c.w) (ha.2 c A rm fr k s m W σ R pos _ E (aA.bind hp fun vs xs σ1 h1 tk1 m1 W1 R1 X1 ra p1=>?_)) (he _) (dF (ha.1 _ _) (he _))
 exact⟨k.X.keeps R1.F.keep,wpAny_call (hf c A rm k _ m1 W1 σ1 R1 vs xs ra Q E p1.toF)⟩
theorem ON {x v p pos spec}(hx:Glob K cs x v) (hk:∀ w,keepIn (K w) v=true) (hf:JF prog K D v spec):JE prog K (D+1) cs (.Call (.Name x p) [] [] pos) (aq spec ah):=fun c A rm fr k s m W σ R Q E hp=>by
 refine Call_ (oz hx fr k R ?_)
 exact callWith_K0 (k.X.keeps R.F.keep) (hk c.w) (wpAny_call (hf c A rm k s m W σ R [] [] VRs.nil Q E hp.toF))
theorem JF.up {D':Nat}{v spec}(h:JF prog K D v spec) (hd:D≤D'):JF prog K D' v spec:=fun c A rm k=>h c A (rm.mono (by omega)) k
theorem IZ {x v p y}(hx:Glob K cs x v) (hv:∀ P F rho,VR P F rho v y):JE prog K D cs (.Name x p) (fun σ=>.ok y σ):=fun c A rm fr k s m W σ R Q E hp=>
 oz hx fr k R (hp v s.heap s.toks m W R (aJ.refl _) (hv _ _ _))
theorem Rel.alloc {c:Act}{h h':Heap}{m:Str→Option Value}{W:aV}{σ:S}{adds fadds:Led}{rad:List (Addr×Addr)}{robj:List MO}(R:Rel c h m W σ) (F:Fr c.b c.L h' m) (N:News c.b c.L h' (adds++W.nw))
  (hnd:(adds.map (·.1)).Nodup) (hfresh:∀ p∈adds,p.1∉W.nw.map (·.1)) (hfz:∀ p∈fadds,p∈adds) (hlen:rad.length=robj.length) (hrad:∀ q∈rad,q.2∈adds.map (·.1)∧∀ p∈fadds,p.1≠q.2) (hrnd:(rad.map (·.2)).Nodup)
  (hst:∀ (k:Nat) o,robj[k]?=some o→∃ x d ro,rad[k]?=some (x,d)∧(d,ro)∈adds∧OR c.w.params (FZ c.b (fadds++W.fz)) (W.rho++rad) x d ro o):
  Rel c h' m ⟨adds++W.nw,fadds++W.fz,W.rho++rad,W.frs⟩ ⟨σ.env,σ.st++robj⟩∧aJ W ⟨adds++W.nw,fadds++W.fz,W.rho++rad,W.frs⟩:=by
 have old:=R.old
 have new:∀ q∈rad,q.2∉W.nw.map (·.1):=fun q hq=>by
  obtain⟨p,hp,e⟩:=List.mem_map.mp (hrad q hq).1
  exact e▸hfresh p hp
 have hrho:∀ (k:Nat) q,W.rho[k]?=some q→(W.rho++rad)[k]?=some q:=fun k q hk=>by
  rw[List.getElem?_append_left (List.getElem?_eq_some_iff.mp hk).1];exact hk
 have X:aJ W ⟨adds++W.nw,fadds++W.fz,W.rho++rad,W.frs⟩:=by
  refine⟨fun p hp=>List.mem_append_right _ hp,hrho,fun a ha=>?_,fun q hq=>?_,fun p hp _ _=>List.mem_append_right _ hp,rfl,fun p hp _ _=>⟨p.2.slots,List.mem_append_right _ hp⟩,fun p hp=>?_⟩
  ·rw[List.map_append];exact List.mem_append_right _ ha
  ·rcases List.mem_append.mp hq with h1 | h1
   ·exact .inl h1
   ·exact .inr (new q h1)
  ·rcases List.mem_append.mp hp with h1 | h1
   ·exact .inr (hfresh p (hfz p h1))
   ·exact .inl h1
 refine⟨⟨F,N,?_,?_,?_,?_,?_,?_,?_,?_,?_,?_,R.elen,?_,?_,R.stk⟩,X⟩
 ·show((adds++W.nw).map (·.1)).Nodup
  rw[List.map_append,List.nodup_append]
  refine⟨hnd,R.nd,fun a ha b hb e=>?_⟩
  obtain⟨p,hp,rfl⟩:=List.mem_map.mp ha
  exact hfresh p hp (e▸hb)
 ·intro p hp
  rcases List.mem_append.mp hp with h1 | h1
  ·exact List.mem_append_left _ (hfz p h1)
  ·exact List.mem_append_right _ (R.fz p h1)
 ·intro q hq p hp
  rcases List.mem_append.mp hq with h1 | h1
  ·rcases List.mem_append.mp hp with h2 | h2
   ·exact fun e=>hfresh p (hfz p h2) (e▸old q h1)
   ·exact R.off q h1 p h2
  ·rcases List.mem_append.mp hp with h2 | h2
   ·exact(hrad q h1).2 p h2
   ·exact fun e=>new q h1 (e▸List.mem_map_of_mem (f:=(·.1)) (R.fz p h2))
 ·show((W.rho++rad).map (·.2)).Nodup
  rw[List.map_append,List.nodup_append]
  refine⟨R.rnd,hrnd,fun a ha b hb e=>?_⟩
  obtain⟨q,hq,rfl⟩:=List.mem_map.mp ha
  obtain⟨r,hr,rfl⟩:=List.mem_map.mp hb
  exact new r hr (e▸old q hq)
 ·intro q hq hm
  rcases List.mem_append.mp hq with h1 | h1
  ·exact R.fro q h1 hm
  ·exact new q h1 (R.fra _ hm)
 ·intro p hp hm
  rcases List.mem_append.mp hp with h1 | h1
  ·exact hfresh p (hfz p h1) (R.fra _ hm)
  ·exact R.ffr p h1 hm
 ·exact fun a ha=>X.ad a (R.fra a ha)
 ·intro p hp hm
  rcases List.mem_append.mp hp with h1 | h1
  ·exact absurd (R.fra _ hm) (hfresh p h1)
  ·exact R.frd p h1 hm
 ·show(W.rho++rad).length=(σ.st++robj).length
  rw[List.length_append,List.length_append,R.len,hlen]
 ·intro k o ho
  by_cases hk:k<σ.st.length
  ·rw[List.getElem?_append_left hk]at ho
   obtain⟨x,d,ro,h1,h2,h3⟩:=R.st k o ho
   exact⟨x,d,ro,hrho _ _ h1,List.mem_append_right _ h2,h3.mono (FZ.mono X.fz) X.rho⟩
  ·have hk':=Nat.le_of_not_lt hk
   rw[List.getElem?_append_right hk']at ho
   obtain⟨x,d,ro,h1,h2,h3⟩:=hst _ o ho
   refine⟨x,d,ro,?_,List.mem_append_left _ h2,h3⟩
   show(W.rho++rad)[k]?=_
   rw[List.getElem?_append_right (R.len▸hk'),R.len]
   exact h1
 ·exact R.envX X
 ·exact R.cellX X
end
section
variable {prog:Program}{K:World→Frag}{D:Nat}{cs:Scope}
theorem rq:∀ i,i<48→∀ j,j<48→attrName i=attrName j→i=j:=by
 have h:((List.range 48).all fun i=>(List.range 48).all fun j=>decide (i=j) || !(attrName i==attrName j))=true:=by decide +kernel
 intro i hi j hj e
 have h1:=List.all_eq_true.mp (List.all_eq_true.mp h i (List.mem_range.mpr hi)) j (List.mem_range.mpr hj)
 rw[e]at h1
 simpa using h1
noncomputable def rr:List (Nat×V)→Nat→Option V
 | [],_=>Option.none
 | f::r,i=>if f.1=i then some f.2 else if f.1<48 then rr r i else Option.none
structure jy (P:Params) (F:Addr→Obj→Prop) (rho:List (Addr×Addr)) (es:List DictEntry) (fs:List (Nat×V)):Prop where
 len:es.length=fs.length
 key:∀ (i:Nat) (e:DictEntry) (f:Nat×V),es[i]?=some e→fs[i]?=some f→∃ t,e.key=.str (attrName f.1) t
 val:∀ (i:Nat) (e:DictEntry) (f:Nat×V),es[i]?=some e→fs[i]?=some f→VR P F rho e.val f.2
theorem jy.tail {P F rho e es f fs}(h:jy P F rho (e::es) (f::fs)):jy P F rho es fs:=
 ⟨by have:=h.len;simpa using this,fun i e' f' a b=>h.key (i+1) e' f' (by simpa using a) (by simpa using b),fun i e' f' a b=>h.val (i+1) e' f' (by simpa using a) (by simpa using b)⟩
theorem j8 (x y:Str) (t:Tok):(Value.str x t).isStr y=(x==y):=rfl
theorem EP {P F rho}{i:Nat}(hi:i<48):∀ {es:List DictEntry}{fs:List (Nat×V)}{x:V},jy P F rho es fs→rr fs i=some x→∃ v,getL (attrName i) es=some (some v)∧VR P F rho v x
 | [],[],_,_,e=>by simp[rr]at e
 | [],_::_,_,h,_=>by have:=h.len;simp at this
 | _::_,[],_,h,_=>by have:=h.len;simp at this
 | e::es,f::fs,x,h,q=>by
  obtain⟨t,hk⟩:=h.key 0 e f rfl rfl
  unfold rr at q
  by_cases hf:f.1=i
  ·rw[if_pos hf]at q
   cases q
   refine⟨e.val,?_,h.val 0 e f rfl rfl⟩
   unfold getL
   rw[List.find?_cons,hk,j8,hf,beq_self_eq_true]
  ·rw[if_neg hf]at q
   split at q
   ·rename_i hl
    obtain⟨v,h1,h2⟩:=EP hi h.tail q
    refine⟨v,?_,h2⟩
    have hne:(attrName f.1==attrName i)=false:=beq_eq_false_iff_ne.mpr fun z=>hf (rq _ hl _ hi z)
    unfold getL at h1 ⊢
    rw[List.find?_cons,hk,j8,hne]
    dsimp only
    split at h1
    ·rename_i e' he';rw[he'];exact h1
    ·split at h1 <;> cases h1
   ·cases q
noncomputable def MW:Option MO→Option (Addr×List (Nat×V))
 | some (.inst C fs)=>some (C,fs)
 | _=>Option.none
theorem Ls {o:Option MO}{C:Addr}{fs:List (Nat×V)}(h:MW o=some (C,fs)):o=some (.inst C fs):=by
 cases o with
 | none=>exact ay h
 | some o=>cases o with
  | inst=>cases h;rfl
  | lst=>exact ay h
  | dct=>exact ay h
def f9 (x:V) (σ:S):Option (Addr×List (Nat×V)):=match x.un with
 | .inst C fs=>some (C,fs)
 | .loc k=>MW σ.st[k]?
 | _=>Option.none
theorem Rel.fz_at {c:Act}{h:Heap}{m W σ}(R:Rel c h m W σ) {a:Addr}{o:Obj}(x:FZ c.b W.fz a o):h.get? a=some o:=by
 rcases x with x | x
 ·exact R.F.keep a o x
 ·exact(R.N _ (R.fz _ x)).1
theorem Rel.at_st {c:Act}{h:Heap}{m W σ}(R:Rel c h m W σ) {k:Nat}{o:MO}{x d:Addr}(hk:σ.st[k]?=some o) (hr:W.rho[k]?=some (x,d)) {G:Prop}(g:∀ ro,(d,ro)∈W.nw→OR c.w.params (FZ c.b W.fz) W.rho x d ro o→G):G:=by
 obtain⟨x',d',ro,h1,h2⟩:=R.st k _ hk
 cases hr.symm.trans h1
 exact g ro h2.1 h2.2
theorem tu {c:Act}{h:Heap}{m W σ}(R:Rel c h m W σ) {v:Value}{x:V}(hv:RV c W v x) {C:Addr}{fs:List (Nat×V)}(e:f9 x σ=some (C,fs)):
  ∃ a dx es n,v=.ref a∧InstAt h a (instObj C dx) C (some (dictOf es n))∧jy c.w.params (FZ c.b W.fz) W.rho es fs:=by
 revert e
 exact VR.rec (motive:=fun v x _=>f9 x σ=some (C,fs)→∃ a dx es n,v=.ref a∧InstAt h a (instObj C dx) C (some (dictOf es n))∧jy c.w.params (FZ c.b W.fz) W.rho es fs) ay (fun _=>ay) (fun _ _=>ay) (fun _ _=>ay) (fun _ _=>ay) (fun _=>ay)
  (fun hr e=>R.at_st (Ls e) hr fun ro h2 h3=>h3.inv.elim fun es h=>h.elim fun n g=>
   ⟨_,_,es,n,rfl,⟨R.fz_at g.2.1,rfl,rfl,g.1▸(R.N _ h2).1⟩,⟨g.2.2.1,fun i e f a b=>(g.2.2.2.2 i e f a b).1,fun i e f a b=>(g.2.2.2.2 i e f a b).2⟩⟩) (fun _ _ _ _=>ay) (fun _ _ _ _=>ay)
  (fun h1 h2 h3 h4 h5 _ e=>(Prod.mk.inj (Option.some.inj e)).1▸(Prod.mk.inj (Option.some.inj e)).2▸⟨_,_,_,_,rfl,⟨R.fz_at h1,rfl,rfl,R.fz_at h2⟩,⟨h3,h4,h5⟩⟩) (fun _ _ _ _ _ _ _ _ _=>ay) (fun _ ih e=>ih e) hv
noncomputable def za:List (Addr×List Nat):=[(255,[2,3,4,5,6,7,8,9,10,11]),(346,[12,13]),(380,[12,14,2]),(421,[12,14,2]),(474,[12,15,16,17,14,7,18,2]),(525,[2,19,20]),(588,[2,12,10,7]),(764,[18,21,22,23,24]),(813,[25,26,27,28]),(869,[29,28,30,31,32,33,34,5,4,8,35,36,37,38,39,40,41,42]),(1159,[1,43,44,25]),(1330,[45,46,47])]
noncomputable def eU (C:Addr) (i:Nat):Bool:=match za.lookup C with
 | some l=>l.contains i
 | Option.none=>false
def j9 (K:Frag) (C:Addr) (i:Nat):Bool:=plainGet K C (attrName i)&&hasDictIn K C&&(findIn K (.ref C) (attrName i)==some Option.none)
def I0 (K:World→Frag):Prop:=∀ C i,eU C i=true→i<48∧∀ w,j9 (K w) C i=true
noncomputable def isExt (x:V):Bool:=match x.un with
 | .ext _=>true
 | .rv _ _=>true
 | _=>false
theorem DN {P F rho v x}(h:VR P F rho v x) (hx:isExt x=false):handedIn v=true:=by
 revert hx
 exact VR.rec (motive:=fun v x _=>isExt x=false→handedIn v=true) (fun _=>rfl) (fun _ _=>rfl) (fun _ _ _=>rfl) (fun _ _ _=>rfl) (fun _ _ _=>rfl) (fun _ e=>ZH e) (fun _ _=>rfl) (fun _ _ _ _ _=>rfl)
  (fun _ _ _ _ _=>rfl) (fun _ _ _ _ _ _ _=>rfl) (fun _ _ _ _ _ _ _ _ _ _=>rfl) (fun _ ih e=>ih e) h
def zb (cs:Scope) (value:PySem.Expr) (attr:Str) (pos:Pos):Prop:=∀ q L fn ccd r cl,eval (.Attribute value attr pos) (envG q cs L fn ccd r cl)=(do
 let o ← eval value (envG q cs L fn ccd r cl)
 standAt pos.atName
 let r ← holding [o] (getAttr o attr true)
 letTemporaryGo value o r
 pure r)
def ao (i:Nat) (w:W1):W1:=fun σ=>(w σ).bind fun x σ1=>match f9 x σ1 with
 | some (C,fs)=>if eU C i then match rr fs i with
  | some y=>if isExt y then .no else .ok y σ1
  | Option.none=>.no
  else .no
 | Option.none=>.no
theorem Vb {value p w}{i:Nat}(hK:I0 K) (hs:zb cs value (attrName i) p) (h:JE prog K D cs value w):JE prog K D cs (.Attribute value (attrName i) p) (ao i w):=fun c A rm fr k s m W σ R Q E hp=>by
 obtain⟨q,fn,ccd,r,e⟩:=id fr.env
 refine Attribute_any_ (h c A rm fr k s m W σ R _ E (aA.bind hp fun v x σ1 h1 tk1 m1 W1 R1 X1 ra p1=>?_)) (by rw[e];exact hs _ _ _ _ _ _)
 split at p1
 ·rename_i C fs hi
  split at p1
  ·rename_i hC
   split at p1
   ·rename_i y hy
    split at p1
    ·exact p1.elim
    ·rename_i hext
     obtain⟨a',dx,es,n,rfl,I,fr'⟩:=tu R1 ra hi
     obtain⟨hlt,hc⟩:=hK C i hC
     have hc:=hc c.w
     simp only[j9,Bool.and_eq_true,beq_iff_eq]at hc
     obtain⟨u,hu,hvr⟩:=EP hlt fr' hy
     refine get_own R1.F k.X I hc.1.1 hc.1.2 hc.2 rfl hu (DN hvr (by simpa using hext)) ?_
     exact p1 u h1 _ m1 W1 R1 (aJ.refl _) hvr
   ·exact p1.elim
  ·exact p1.elim
 ·exact p1.elim
end
section
variable {prog:Program}{K:World→Frag}{D:Nat}{cs:Scope}
def put (d:Addr) (o:Obj) (l:Led):Led:=l.map fun p=>if p.1=d then(d,o)else p
theorem BE {d:Addr}{o:Obj}:∀ {l:Led},d∉l.map (·.1)→put d o l=l
 | [],_=>rfl
 | p::l,h=>by
  rw[List.map_cons,List.mem_cons,not_or]at h
  show(if p.1=d then(d,o)else p)::put d o l=_
  rw[if_neg (Ne.symm h.1),BE h.2]
theorem tv {d:Addr}{o o':Obj}:∀ {l:Led},(d,o)∈l→(l.map (·.1)).Nodup→Upd d o o' l (put d o' l)
 | p::l,hm,hn=>by
  rw[List.map_cons,List.nodup_cons]at hn
  rcases List.mem_cons.mp hm with rfl | hm
  ·have e:put d o' ((d,o)::l)=(d,o')::l:=by
    show(if d=d then(d,o')else(d,o))::put d o' l=_
    rw[if_pos rfl,BE hn.1]
   rw[e]
   exact .head fun q hq e=>hn.1 (e▸List.mem_map_of_mem (f:=(·.1)) hq)
  ·have hne:p.1≠d:=fun e=>hn.1 (e▸List.mem_map_of_mem (f:=(·.1)) hm)
   have e:put d o' (p::l)=p::put d o' l:=by
    show(if p.1=d then(d,o')else p)::put d o' l=_
    rw[if_neg hne]
   rw[e]
   exact .tail hne (tv hm hn.2)
theorem ie {d:Addr}{o:Obj}{l:Led}:(put d o l).map (·.1)=l.map (·.1):=by
 unfold put
 rw[List.map_map]
 refine List.map_congr_left fun p _=>?_
 dsimp only[Function.comp]
 split
 ·rename_i h;exact h.symm
 ·rfl
theorem ir {d:Addr}{o:Obj}{l:Led}{p:Addr×Obj}(hp:p∈l) (h:p.1≠d):p∈put d o l:=List.mem_map.mpr ⟨p,hp,if_neg h⟩
theorem I1 {d:Addr}{o o':Obj}{l:Led}(hp:(d,o)∈l):(d,o')∈put d o' l:=List.mem_map.mpr ⟨_,hp,if_pos rfl⟩
theorem tw {d:Addr}{o:Obj}{l:Led}{p:Addr×Obj}(hp:p∈put d o l):(p.1≠d∧p∈l)∨p=(d,o):=by
 obtain⟨q,hq,e⟩:=List.mem_map.mp hp
 split at e
 ·exact .inr e.symm
 ·rename_i h;subst e;exact .inl ⟨h,hq⟩
theorem Rel.upd {c:Act}{h h':Heap}{m:Str→Option Value}{W:aV}{σ:S}{k:Nat}{x d:Addr}{ro ro':Obj}{o':MO}(R:Rel c h m W σ) (hr:W.rho[k]?=some (x,d)) (hm:(d,ro)∈W.nw)
  (F:Fr c.b c.L h' m) (N:News c.b c.L h' (put d ro' W.nw)) (ho:OR c.w.params (FZ c.b W.fz) W.rho x d ro' o'):
  Rel c h' m ⟨put d ro' W.nw,W.fz,W.rho,W.frs⟩ ⟨σ.env,σ.st.set k o'⟩∧aJ W ⟨put d ro' W.nw,W.fz,W.rho,W.frs⟩:=by
 have hin:=List.mem_of_getElem? hr
 have hk:k<σ.st.length:=R.len▸(List.getElem?_eq_some_iff.mp hr).1
 have X:aJ W ⟨put d ro' W.nw,W.fz,W.rho,W.frs⟩:=by
  refine⟨fun _ h=>h,fun _ _ h=>h,fun a ha=>?_,fun _ h=>.inl h,fun p hp ha _=>ir hp (ha _ hin),rfl,fun p hp _ ha=>⟨p.2.slots,ir hp (ha _ hin)⟩,fun _ h=>.inl h⟩
  show a∈(put d ro' W.nw).map (·.1)
  rw[ie];exact ha
 refine⟨⟨F,N,?_,fun p hp=>ir (R.fz p hp) (R.off _ hin p hp),R.off,R.rnd,R.fro,R.ffr,?_,?_,?_,?_,R.elen,R.env,R.cell,R.stk⟩,X⟩
 ·show((put d ro' W.nw).map (·.1)).Nodup
  rw[ie];exact R.nd
 ·intro a ha
  show a∈(put d ro' W.nw).map (·.1)
  rw[ie];exact R.fra a ha
 ·intro p hp hf
  rcases tw hp with⟨_,h1⟩ | rfl
  ·exact R.frd p h1 hf
  ·exact absurd hf (R.fro _ hin)
 ·show W.rho.length=(σ.st.set k o').length
  rw[List.length_set];exact R.len
 ·intro j o hj
  by_cases e:j=k
  ·subst e
   rw[List.getElem?_set_self hk]at hj
   cases hj
   exact⟨x,d,ro',hr,I1 hm,ho⟩
  ·rw[List.getElem?_set_ne (Ne.symm e)]at hj
   obtain⟨x',d',ro'',h1,h2,h3⟩:=R.st j o hj
   refine⟨x',d',ro'',h1,ir h2 fun q=>e ?_,h3⟩
   have q':d'=d:=q
   have e1:(W.rho.map (·.2))[j]?=some d:=by rw[List.getElem?_map,h1];exact congrArg some q'
   have e2:(W.rho.map (·.2))[k]?=some d:=by rw[List.getElem?_map,hr];rfl
   have q:=List.pairwise_iff_getElem.mp R.rnd
   obtain⟨a1,b1⟩:=List.getElem?_eq_some_iff.mp e1
   obtain⟨a2,b2⟩:=List.getElem?_eq_some_iff.mp e2
   rcases Nat.lt_trichotomy j k with l | l | l
   ·exact absurd (b1.trans b2.symm) (q j k a1 a2 l)
   ·exact l
   ·exact absurd (b2.trans b1.symm) (q k j a2 a1 l)
structure MethAt (K:World→Frag) (C:Addr) (name:Str) (f:Addr):Prop where
 hg:∀ w,plainGet (K w) C name=true
 hf:∀ w,findIn (K w) (.ref C) name=some (some (.ref f))
 ht:∀ w,isFn (K w) (.ref f)=true
 keep:∀ w,keepIn (K w) (.ref f)=true
noncomputable def noAttr (fs:List (Nat×V)):Bool:=fs.all fun f=>f.1<48
theorem rt {P F rho}{name:Str}(hn:∀ i,i<48→attrName i≠name):∀ {es:List DictEntry}{fs:List (Nat×V)},jy P F rho es fs→noAttr fs=true→getL name es=some Option.none
 | [],_,_,_=>rfl
 | _::_,[],h,_=>by have:=h.len;simp at this
 | e::es,f::fs,h,q=>by
  obtain⟨t,hk⟩:=h.key 0 e f rfl rfl
  simp only[noAttr,List.all_cons,Bool.and_eq_true,decide_eq_true_eq]at q
  have ih:=rt hn h.tail q.2
  have hne:(attrName f.1==name)=false:=beq_eq_false_iff_ne.mpr (hn _ q.1)
  have hrk:e.refKey=false:=by unfold DictEntry.refKey;rw[hk]
  unfold getL at ih ⊢
  rw[List.find?_cons,hk,j8,hne]
  dsimp only
  split at ih
  ·cases ih
  ·rename_i h1
   rw[h1]
   dsimp only
   split at ih
   ·cases ih
   ·rename_i h2
    rw[List.any_cons,hrk,Bool.false_or,if_neg h2]
def MethShape (cs:Scope) (o:PySem.Expr) (name:Str) (apos:Pos) (args:List PySem.Expr) (pos:Pos):Prop:=∀ q L fn ccd r cl,∃ pl,eval (.Call (.Attribute o name apos) args [] pos) (envG q cs L fn ccd r cl)=(do
 let ov ← eval o (envG q cs L fn ccd r cl)
 standAt apos.atName
 let (f,first) ← holding [ov] (getMethod ov name pl)
 callWith pos f first (backTo pos (starEach args (envG q cs L fn ccd r cl))) [])
def bq (tbl:List (Addr×FS)) (wo:W1) (wa:S→Rs (List V)):W1:=fun σ=>(wo σ).bind fun x σ1=>match f9 x σ1 with
 | some (C,fs)=>if noAttr fs then match tbl.lookup C with
  | some spec=>(wa σ1).bind fun xs σ2=>(spec (x::xs) σ2.st).rs σ2.env
  | Option.none=>.no
  else .no
 | Option.none=>.no
theorem lookup_mem {α:Type}{l:List (Addr×α)}{k:Addr}{y:α}(h:l.lookup k=some y):(k,y)∈l:=by
 induction l with
 | nil=>simp at h
 | cons q l ih=>
  obtain⟨a,b⟩:=q
  rw[List.lookup_cons]at h
  split at h
  ·rename_i e;cases h;rw[beq_iff_eq.mp e];exact .head _
  ·exact .tail _ (ih h)
theorem Vc {o name apos args pos tbl wo wa e es}(hs:MethShape cs o name apos args pos) (hn:∀ i,i<48→attrName i≠name) (ht:∀ C spec,(C,spec)∈tbl→∃ f,MethAt K C name f∧JF prog K D (.ref f) spec) (ho:JE prog K (D+1) cs o wo) (ha:JL prog K (D+1) cs args wa)
  (hargs:args=e::es) (he:∀ env,starEach (e::es) env=(false,eval e env)::starEach es env):JE prog K (D+1) cs (.Call (.Attribute o name apos) args [] pos) (bq tbl wo wa):=fun c A rm fr k s m W σ R Q E hp=>by
 subst hargs
 obtain⟨q,fn,ccd,r,ee⟩:=id fr.env
 obtain⟨pl,hsh⟩:=hs q c.L fn ccd r c.cl
 refine MethodCall_ (pl:=pl) (ho c A rm fr k s m W σ R _ E (aA.bind hp fun v x σ1 h1 tk1 m1 W1 R1 X1 ra p1=>?_)) (by rw[ee];exact hsh)
 split at p1
 ·rename_i C fs hi
  split at p1
  ·rename_i hno
   split at p1
   ·rename_i spec hl
    obtain⟨a',dx,es',n,rfl,I,fr'⟩:=tu R1 ra hi
    obtain⟨f,M,hf⟩:=ht C spec (lookup_mem hl)
    refine method_inst R1.F k.X I (M.hg c.w) (M.hf c.w) (M.ht c.w) (rt hn fr' hno) ?_
    dsimp only
    refine callWith_K k.X (M.keep c.w) (ha.2 c A rm fr k _ m1 W1 σ1 R1 pos _ E (aA.bind p1 fun vs xs σ2 h2 tk2 m2 W2 R2 X2 rb p2=>?_)) (he _) (dF (ha.1 _ _) (he _))
    exact⟨k.X.keeps R2.F.keep,wpAny_call (hf c A rm k _ m2 W2 σ2 R2 _ (x::xs) (VRs.cons (ra.ext X2) rb) Q E p2.toF)⟩
   ·exact p1.elim
  ·exact p1.elim
 ·exact p1.elim
theorem Ql {o name apos pos tbl wo}(hs:MethShape cs o name apos [] pos) (hn:∀ i,i<48→attrName i≠name) (ht:∀ C spec,(C,spec)∈tbl→∃ f,MethAt K C name f∧JF prog K D (.ref f) spec) (ho:JE prog K (D+1) cs o wo):
  JE prog K (D+1) cs (.Call (.Attribute o name apos) [] [] pos) (bq tbl wo ah):=fun c A rm fr k s m W σ R Q E hp=>by
 obtain⟨q,fn,ccd,r,ee⟩:=id fr.env
 obtain⟨pl,hsh⟩:=hs q c.L fn ccd r c.cl
 refine MethodCall_ (pl:=pl) (ho c A rm fr k s m W σ R _ E (aA.bind hp fun v x σ1 h1 tk1 m1 W1 R1 X1 ra p1=>?_)) (by rw[ee];exact hsh)
 split at p1
 ·rename_i C fs hi
  split at p1
  ·rename_i hno
   split at p1
   ·rename_i spec hl
    obtain⟨a',dx,es',n,rfl,I,fr'⟩:=tu R1 ra hi
    obtain⟨f,M,hf⟩:=ht C spec (lookup_mem hl)
    refine method_inst R1.F k.X I (M.hg c.w) (M.hf c.w) (M.ht c.w) (rt hn fr' hno) ?_
    dsimp only
    exact callWith_K0 (k.X.keeps R1.F.keep) (M.keep c.w) (wpAny_call (hf c A rm k _ m1 W1 σ1 R1 _ [x] (VRs.cons ra VRs.nil) Q E p1.toF))
   ·exact p1.elim
  ·exact p1.elim
 ·exact p1.elim
end
section
variable {prog:Program}{K:World→Frag}{D:Nat}{cs:Scope}
noncomputable def newSpec (C:Addr) (init:FS):FS:=fun xs st=>match init (.loc st.length::xs) (st++[.inst C []])with
 | .ok .none st'=>.ok (.loc st.length) st'
 | .exc c=>.exc c
 | _=>.no
theorem Gs {c:Act}{A:Around}{C:Addr}{vs:List Value}(rm:cA (D+1) c A):cA D c (A.under (.builtin "type.__call__" ⟨.ref C::vs,[]⟩)):=
 ⟨rm.handled,rm.frames,by have:=rm.depth;show A.depth+1+4 * D+4<recursionLimit;omega,by have:=rm.units;show A.units+1+12 * D+12<cLine;omega⟩
theorem fT {C fI:Addr}{init:FS}(hm:∀ w,makesIn (K w) C=true) (hi:∀ w,findIn (K w) (.ref C) "__init__"=some (some (.ref fI))) (ht:∀ w,typeIn (K w) (.ref fI)=some (.type "function")) (hf:JF prog K D (.ref fI) init):
  JF prog K (D+1) (.ref C) (newSpec C init):=by
 intro c A rm k s m W σ R vs xs hvs Q E hp
 refine make_K R.F R.N (k.X.keeps R.F.keep) (hm c.w) (hi c.w) (ht c.w) fun x dx h' F' N' l1 l2=>?_
 have hfresh:∀ p∈([(x,instObj C dx),(dx,emptyDict)]:Led),p.1∉W.nw.map (·.1):=by
  intro p hp hm'
  obtain⟨q,hq,e⟩:=List.mem_map.mp hm'
  have hlt:=l1 q hq
  rw[e]at hlt
  rcases List.mem_cons.mp hp with rfl | hp
  ·exact absurd (Nat.lt_trans hlt l2) (Nat.lt_irrefl _)
  ·rw[List.mem_singleton.mp hp]at hlt
   exact absurd hlt (Nat.lt_irrefl _)
 obtain⟨R1,X1⟩:=R.alloc (adds:=[(x,instObj C dx),(dx,emptyDict)]) (fadds:=[(x,instObj C dx)]) (rad:=[(x,dx)]) (robj:=[.inst C []]) F' N' (by
   simp only[List.map_cons,List.map_nil,List.nodup_cons,List.mem_singleton,List.not_mem_nil,not_false_eq_true,List.nodup_nil,and_true]
   exact Nat.ne_of_gt l2) hfresh (fun p hp=>by rw[List.mem_singleton.mp hp];exact .head _) rfl (fun q hq=>by
   rw[List.mem_singleton.mp hq]
   refine⟨.tail _ (.head _),fun p hp=>?_⟩
   rw[List.mem_singleton.mp hp]
   exact Nat.ne_of_gt l2) (by simp) (fun i o ho=>by
   cases i with
   | zero=>
    simp only[List.getElem?_cons_zero,Option.some.injEq]at ho
    subst ho
    refine⟨x,dx,emptyDict,rfl,.tail _ (.head _),?_⟩
    exact OR.inst (es:=[]) (n:=0) (.inr (.head _)) rfl (Nat.zero_le _) (fun i e f h=>by simp at h)
   | succ i=>simp at ho)
 have hx:(W.rho++[(x,dx)])[σ.st.length]?=some (x,dx):=by
  rw[List.getElem?_append_right (Nat.le_of_eq R.len),R.len,Nat.sub_self]
  rfl
 refine codeAny_mono (hf c _ (Gs rm) k { s with heap:=h' } m _ _ R1 (.ref x::vs) (.loc σ.st.length::xs) (VRs.cons (.loc hx) (X1.vrs hvs)) (fun v s'=>v=.none∧Q (.ref x) s') E ?_) fun r s' h=>?_
 ·unfold newSpec at hp
  dsimp only
  generalize init (.loc σ.st.length::xs) (σ.st++[.inst C []])=r at hp
  cases r with
  | no=>exact hp.elim
  | exc C'=>exact fun e h'' tk t tn=>hp e h'' tk (t.ext X1) tn
  | ok y st'=>
   cases y with
   | none=>
    intro v h'' tk W2 R2 X2 hv
    cases hv
    refine⟨rfl,hp (.ref x) h'' tk W2 R2 (X1.trans X2) (.loc (X2.rho _ _ hx))⟩
   | _=>exact hp.elim
 ·cases r with
  | error e=>exact h
  | ok f=>
   cases f with
   | ret v=>exact h
   | _=>exact h.elim
noncomputable def xQ:List (Nat×V)→Nat→V→List (Nat×V)
 | [],i,x=>[(i,x)]
 | f::r,i,x=>if f.1=i then(i,x)::r else f::xQ r i x
theorem jy.cons {P F rho e es f fs}(hk:∃ t,e.key=.str (attrName f.1) t) (hv:VR P F rho e.val f.2) (h:jy P F rho es fs):jy P F rho (e::es) (f::fs):=by
 refine⟨by simp[h.len],fun i e' f' a b=>?_,fun i e' f' a b=>?_⟩
 ·cases i with
  | zero=>simp at a b;subst a b;exact hk
  | succ i=>exact h.key i e' f' (by simpa using a) (by simpa using b)
 ·cases i with
  | zero=>simp at a b;subst a b;exact hv
  | succ i=>exact h.val i e' f' (by simpa using a) (by simpa using b)
theorem ER {P F rho}{i:Nat}(hi:i<48) {hsh:Int}{t:Tok}{v:Value}{x:V}(hv:VR P F rho v x):∀ {es:List DictEntry}{fs:List (Nat×V)},jy P F rho es fs→noAttr fs=true→
  jy P F rho (putL (attrName i) hsh (.str (attrName i) t) v es) (xQ fs i x)∧(putL (attrName i) hsh (.str (attrName i) t) v es).length≤es.length+1
 | [],[],h,_=>⟨jy.cons ⟨t,rfl⟩ hv h,Nat.le_refl _⟩
 | [],_::_,h,_=>by have:=h.len;simp at this
 | _::_,[],h,_=>by have:=h.len;simp at this
 | e::es,f::fs,h,q=>by
  obtain⟨t',hk⟩:=h.key 0 e f rfl rfl
  simp only[noAttr,List.all_cons,Bool.and_eq_true,decide_eq_true_eq]at q
  unfold putL xQ
  rw[hk,j8]
  by_cases hf:f.1=i
  ·rw[if_pos hf,hf,beq_self_eq_true,if_pos rfl]
   exact⟨jy.cons ⟨t',rfl⟩ hv h.tail,by simp⟩
  ·have hne:(attrName f.1==attrName i)=false:=beq_eq_false_iff_ne.mpr fun z=>hf (rq _ q.1 _ hi z)
   rw[if_neg hf,hne,if_neg (by decide)]
   obtain⟨h1,h2⟩:=ER hi hv h.tail q.2
   exact⟨jy.cons ⟨t',hk⟩ (h.val 0 e f rfl rfl) h1,by simp only[List.length_cons];omega⟩
theorem zc {P F rho}{i:Nat}(hi:i<48):∀ {es:List DictEntry}{fs:List (Nat×V)},jy P F rho es fs→noAttr fs=true→(getL (attrName i) es).isSome=true
 | [],_,_,_=>rfl
 | _::_,[],h,_=>by have:=h.len;simp at this
 | e::es,f::fs,h,q=>by
  obtain⟨t,hk⟩:=h.key 0 e f rfl rfl
  simp only[noAttr,List.all_cons,Bool.and_eq_true,decide_eq_true_eq]at q
  have ih:=zc hi h.tail q.2
  have hrk:e.refKey=false:=by unfold DictEntry.refKey;rw[hk]
  unfold getL at ih ⊢
  rw[List.find?_cons]
  split
  ·rfl
  ·rename_i h1
   split at h1
   ·cases h1
   ·rw[h1]at ih
    dsimp only at ih
    rw[List.any_cons,hrk,Bool.false_or]
    exact ih
def lV (K:Frag) (C:Addr) (i:Nat):Bool:=(findIn K (.ref C) "__setattr__"==some (some (.builtin "object.__setattr__")))&&plainOver K C&&(takerIn K C (attrName i)==some Option.none)&&hasDictIn K C
def AF (K:World→Frag):Prop:=∀ C i,eU C i=true→i<48∧∀ w,lV (K w) C i=true
def xR (i:Nat) (o x:V) (σ:S):Rs Fl:=match o.un with
 | .loc k=>match σ.st[k]? with
  | some (.inst C fs)=>if eU C i&&noAttr fs&&decide (fs.length<100)then .ok .next ⟨σ.env,σ.st.set k (.inst C (xQ fs i x))⟩else .no
  | _=>.no
 | _=>.no
theorem I2 {c:Act}{A:Around}{i:Nat}(hK:AF K) (kk:cg prog K c) {s:Shared}{m W σ}(R:Rel c s.heap m W σ) {o v:Value}{y x:V}(ho:RV c W o y) (hv:RV c W v x) {Q:Unit→Shared→Prop}{E:Value→Shared→Prop}
  (hp:aA c (fun _ _ f=>f=Fl.next) s W Q E (xR i y x σ)):wpAny (model prog c.w) A (setAttr o (attrName i) v) Q E s:=by
 have ho':=ho.un
 unfold xR at hp
 split at hp
 ·rename_i k hy
  rw[hy]at ho'
  split at hp
  ·rename_i C fs hk
   split at hp
   ·rename_i hc
    simp only[Bool.and_eq_true,decide_eq_true_eq]at hc
    obtain⟨_,_,ev,hr⟩:=ho'.inv
    refine R.at_st hk hr fun ro h2 h3=>?_
    obtain⟨es,n,rfl,g1,g2,gz,g3⟩:=h3.inv
    rw[ev]
    obtain⟨hlt,hch⟩:=hK C i hc.1.1
    have hch:=hch c.w
    simp only[lV,Bool.and_eq_true,beq_iff_eq]at hch
    have fsr:jy c.w.params (FZ c.b W.fz) W.rho es fs:=⟨g2,fun i e f a b=>(g3 i e f a b).1,fun i e f a b=>(g3 i e f a b).2⟩
    obtain⟨f1,f2⟩:=ER (hsh:=PyData.keyHash c.w.params (attrName i)) (t:=s.toks+1) hlt hv fsr hc.1.2
    have hz:(putL (attrName i) (PyData.keyHash c.w.params (attrName i)) (.str (attrName i) (s.toks+1)) v es).length≤1000:=by have:=hc.2;have:=g2;omega
    refine set_dict R.F kk.X R.N ⟨R.fz_at g1,rfl,rfl,(R.N _ h2).1⟩ rfl hch.1.1.1 hch.1.1.2 hch.1.2 hch.2 (zc hlt fsr hc.1.2) rfl (tv h2 R.nd) hz fun h' F' N'=>?_
    obtain⟨R1,X1⟩:=R.upd hr h2 F' N' (OR.inst (C:=C) g1 f1.len hz fun i e f a b=>⟨f1.key i e f a b,f1.val i e f a b⟩)
    exact hp () h' _ m _ R1 X1 rfl
   ·exact hp.elim
  ·exact hp.elim
 ·exact hp.elim
end
section
variable {prog:Program}{K:World→Frag}{D:Nat}{cs:Scope}
noncomputable def BF:Option MO→Option (List V)
 | some (.lst xs)=>some xs
 | _=>Option.none
theorem xS {o:Option MO}{xs:List V}(h:BF o=some xs):o=some (.lst xs):=by
 cases o with
 | none=>exact ay h
 | some o=>cases o with
  | lst=>exact congrArg (fun x=>some (MO.lst x)) (Option.some.inj h)
  | inst=>exact ay h
  | dct=>exact ay h
def cY (x:V) (σ:S):Option (List V):=match x.un with
 | .lst xs=>some xs
 | .loc k=>BF σ.st[k]?
 | _=>Option.none
theorem I3 {c:Act}{h:Heap}{m W σ}(R:Rel c h m W σ) {v:Value}{x:V}(hv:RV c W v x) {xs:List V}(e:cY x σ=some xs):
  ∃ a vs n,v=.ref a∧h.get? a=some (lstOf vs n)∧RVs c W vs xs:=by
 revert e
 exact VR.rec (motive:=fun v x _=>cY x σ=some xs→∃ a vs n,v=.ref a∧h.get? a=some (lstOf vs n)∧RVs c W vs xs) ay (fun _=>ay) (fun _ _=>ay) (fun _ _=>ay) (fun _ _=>ay) (fun _=>ay)
  (fun hr e=>R.at_st (xS e) hr fun ro h2 h3=>h3.inv.elim fun vs h=>h.elim fun n g=>⟨_,vs,n,congrArg Value.ref g.2.1,g.1▸(R.N _ h2).1,g.2.2⟩) (fun _ _ _ _=>ay) (fun h1 h2 h3 _ e=>Option.some.inj e▸⟨_,_,_,rfl,R.fz_at h1,⟨h2,h3⟩⟩)
  (fun _ _ _ _ _ _=>ay) (fun _ _ _ _ _ _ _ _ _=>ay) (fun _ ih e=>ih e) hv
theorem lst_is {c:Act}{h:Heap}{m W σ}(R:Rel c h m W σ) {v:Value}{x:V}(hv:RV c W v x) {xs:List V}(e:cY x σ=some xs):
  ∃ a vs,v=.ref a∧h.IsList a vs.toArray∧RVs c W vs xs:=by
 obtain⟨a,vs,n,rfl,h1,h2⟩:=I3 R hv e
 exact⟨a,vs,rfl,⟨_,h1,rfl,n,rfl⟩,h2⟩
noncomputable def dG (x:V):Option (List V):=match x.un with
 | .tup xs=>some xs
 | _=>Option.none
theorem tup_is {c:Act}{h:Heap}{m W σ}(R:Rel c h m W σ) {v:Value}{x:V}(hv:RV c W v x) {xs:List V}(e:dG x=some xs):
  ∃ a vs,v=.ref a∧IsTup h a vs.toArray∧RVs c W vs xs:=by
 revert e
 exact VR.rec (motive:=fun v x _=>dG x=some xs→∃ (a:Addr) (vs:List Value),v=.ref a∧IsTup h a vs.toArray∧RVs c W vs xs) ay (fun _=>ay) (fun _ _=>ay) (fun _ _=>ay) (fun _ _=>ay) (fun _=>ay)
  (fun _=>ay) (fun h1 h2 h3 _ e=>Option.some.inj e▸⟨_,_,rfl,⟨_,R.fz_at h1,rfl,_,rfl⟩,⟨h2,h3⟩⟩) (fun _ _ _ _=>ay) (fun _ _ _ _ _ _=>ay) (fun _ _ _ _ _ _ _ _ _=>ay) (fun _ ih e=>ih e) hv
def AG (xs:List V) (k:Int) (σ:S):Rs V:=dU (seqIndex? k xs.length) fun j=>dU xs[j]? fun y=>.ok y σ
def lG (x i:V) (σ:S):Rs V:=jx i.un fun k=>if -(2 ^ 63)≤k∧k<2 ^ 63 then
  qo (cY x σ) (fun xs=>AG xs k σ) (qo (dG x) (fun xs=>AG xs k σ) (qo (xK x.un) (fun b=>if 0≤k∧k<b.length∧b.length≤1099511627776 then .ok (.int (b.getD k.toNat 0).toNat) σ else .no)
   (Bz x.un fun s=>dU ((seqIndex? k s.length).bind (s.cps[·]?)) fun c=>.ok (.str ⟨#[c]⟩) σ)))else .no
def uZ (slice:PySem.Expr):Prop:=∀ o i,subscripted slice false o i=operate [o,i] (getItem o i)
theorem seqIndex_nonneg {k:Int}{n j:Nat}(h:seqIndex? k n=some j) (hk:0≤k):k.toNat=j:=by
 simp only[seqIndex?,if_neg (Int.not_lt.mpr hk),Option.ite_none_right_eq_some,Option.some.injEq]at h
 exact h.2
theorem seqIndex_neg {k:Int}{n j:Nat}(h:seqIndex? k n=some j) (hk:k<0):-(n:Int)≤k∧(k+n).toNat=j:=by
 simp only[seqIndex?,if_pos hk,Option.ite_none_right_eq_some,Option.some.injEq,Bool.and_eq_true,decide_eq_true_eq]at h
 exact⟨by omega,h.2⟩
theorem Vd {value slice:PySem.Expr}(hs:uZ slice):cH prog D (subscriptTail value slice) lG:=fun c A rm a b x y s m W σ R ra rb Q E hp=>by
 refine xN hp fun k hy hp=>?_
 obtain⟨tk,rfl⟩:=VR.int_e rb hy
 split at hp
 case isFalse=>exact hp.elim
 rename_i hk
 have ra':=ra.un
 refine oj hp (fun xs hx hp=>gP hp fun j hj hp=>gP hp fun z hz hp=>?_) fun hp=>oj hp (fun xs hx hp=>gP hp fun j hj hp=>gP hp fun z hz hp=>?_) fun hp=>oj hp (fun b hb hp=>?_) fun hp=>BA hp fun st hst hp=>gP hp fun ch hch hp=>?_
 ·obtain⟨l,vs,rfl,hl,hvs⟩:=lst_is R ra hx
  have hj':j<vs.length:=by rw[hvs.1];exact(List.getElem?_eq_some_iff.mp hz).1
  have hv:=hvs.2 j _ _ (List.getElem?_eq_getElem hj') hz
  have q:Q vs[j] s:=hp vs[j] s.heap s.toks m W R (aJ.refl _) hv
  rw[← hvs.1]at hj
  refine tail_any hl.typeIs slot_list_getitem.lookup ?_ (hs _ _)
  by_cases h0:0≤k
  ·exact wpAny_getItem_list hl h0 hk.2 (by rw[seqIndex_nonneg hj h0];simp[hj']) q
  ·obtain⟨h1,h2⟩:=seqIndex_neg hj (by omega)
   exact wpAny_getItem_list_neg hl (by omega) (by simpa using h1) hk.1 (by simp only[List.size_toArray];rw[h2];simp[hj']) q
 ·obtain⟨l,vs,rfl,hl,hvs⟩:=tup_is R ra hx
  have hj':j<vs.length:=by rw[hvs.1];exact(List.getElem?_eq_some_iff.mp hz).1
  have hv:=hvs.2 j _ _ (List.getElem?_eq_getElem hj') hz
  exact item_tupleT hl hk.1 hk.2 (by rw[hvs.1];exact hj) (List.getElem?_eq_getElem hj') (hp vs[j] s.heap s.toks m W R (aJ.refl _) hv) (hs _ _)
 ·rw[tm hb]at ra'
  split at hp
  ·rename_i hb'
   obtain⟨bb,t,rfl,rfl⟩:=ra'.inv
   refine tail_any (typeIs_bytes s _ t) FB.slot_bytes_getitem.lookup ?_ (hs _ _)
   exact PySem.W.getItem_bytes (l:=bb.toList) hb'.2.2 hb'.1 hb'.2.1 (ff R hp (.int _ _))
  ·exact hp.elim
 ·rw[hst]at ra'
  obtain⟨t,rfl⟩:=ra'.inv
  refine tail_any (typeIs_str s _ t) F.slot_str_getitem.lookup ?_ (hs _ _)
  exact PyProof.Rows.getItem_str (by simp only[Bool.or_eq_false_iff,decide_eq_false_iff_not];omega) hch (ff R hp (.str _ _))
theorem Ve {value slice p wl wr f}(hop:cH prog D (subscriptTail value slice) f) (hl:JE prog K D cs value wl) (hr:JE prog K D cs slice wr):JE prog K D cs (.Subscript value slice p) (ag f wl wr):=
 fun c A rm fr k s m W σ R Q E hp=>by
  refine Subscript_ (hl c A rm fr k s m W σ R _ E (aA.bind hp fun a x σ1 h1 tk1 m1 W1 R1 X1 ra p1=>?_))
  refine hr c A rm fr k _ m1 W1 σ1 R1 _ E (aA.bind p1 fun b y σ2 h2 tk2 m2 W2 R2 X2 rb p2=>?_)
  exact hop c A rm a b x y _ m2 W2 σ2 R2 (ra.ext X2) rb Q E p2
noncomputable def gU (xs:List V) (σ:S):Rs V:=if xs.length≤100000 then .ok (.loc σ.st.length) ⟨σ.env,σ.st++[.lst xs]⟩else .no
theorem Rel.newList {c:Act}{h h':Heap}{m W σ}(R:Rel c h m W σ) {l:Addr}{vs:List Value}{xs:List V}{n:Nat}(hvs:RVs c W vs xs) (F:Fr c.b c.L h' m) (N:News c.b c.L h' ((l,lstOf vs n)::W.nw)) (hl:∀ p∈W.nw,p.1<l):
  Rel c h' m ⟨(l,lstOf vs n)::W.nw,W.fz,W.rho++[(l,l)],W.frs⟩ ⟨σ.env,σ.st++[.lst xs]⟩∧aJ W ⟨(l,lstOf vs n)::W.nw,W.fz,W.rho++[(l,l)],W.frs⟩∧RV c ⟨(l,lstOf vs n)::W.nw,W.fz,W.rho++[(l,l)],W.frs⟩ (.ref l) (.loc σ.st.length):=by
 obtain⟨R1,X1⟩:=R.alloc (adds:=[(l,lstOf vs n)]) (fadds:=[]) (rad:=[(l,l)]) (robj:=[.lst xs]) F N (by simp) (fun p hp hm=>by
   rw[List.mem_singleton.mp hp]at hm
   obtain⟨q,hq,e⟩:=List.mem_map.mp hm
   exact absurd (e▸hl q hq) (Nat.lt_irrefl _)) (fun p hp=>by simp at hp) rfl (fun q hq=>by
   rw[List.mem_singleton.mp hq];exact⟨.head _,fun p hp=>by simp at hp⟩) (by simp) (fun i o ho=>by
   cases i with
   | zero=>
    simp only[List.getElem?_cons_zero,Option.some.injEq]at ho
    subst ho
    refine⟨l,l,lstOf vs n,rfl,.head _,.lst rfl (hvs.mono (FZ.mono fun p hp=>hp) fun k q hk=>?_)⟩
    rw[List.getElem?_append_left (List.getElem?_eq_some_iff.mp hk).1];exact hk
   | succ i=>simp at ho)
 refine⟨R1,X1,.loc (x:=l) (d:=l) ?_⟩
 show(W.rho++[(l,l)])[σ.st.length]?=_
 rw[List.getElem?_append_right (Nat.le_of_eq R.len),R.len,Nat.sub_self]
 rfl
theorem I6 {c:Act}{A:Around}{s:Shared}{m W σ}(R:Rel c s.heap m W σ) {vs:List Value}{xs:List V}(hvs:RVs c W vs xs) {Q:Value→Shared→Prop}{E:Value→Shared→Prop}(hp:aA c (RV c) s W Q E (gU xs σ)):
  wpAny (model prog c.w) A (newList vs) Q E s:=by
 unfold gU at hp
 split at hp
 ·rename_i hz
  refine newList_K R.F R.N (fun l h' F' N' l1=>?_) (by rw[hvs.1];exact Nat.le_trans hz (Nat.le_trans (by omega) bt))
  obtain⟨R1,X1,V1⟩:=R.newList hvs F' N' l1
  exact hp _ h' s.toks m _ R1 X1 V1
 ·exact hp.elim
def dH (wa:S→Rs (List V)):W1:=fun σ=>(wa σ).bind gU
theorem Vf {es p wa}(ha:JL prog K D cs es wa):JE prog K D cs (.List es p) (dH wa):=fun c A rm fr k s m W σ R Q E hp=>
 List_ (ha.2 c A rm fr k s m W σ R p _ E (aA.bind hp fun vs xs σ1 h1 tk1 m1 W1 R1 X1 ra p1=>I6 R1 ra p1))
noncomputable def Gu (xs:List V) (σ:S):Rs V:=if xs.length≤100000 then .ok (.tup xs) σ else .no
theorem Rel.freeze1 {c:Act}{h h':Heap}{m W σ}(R:Rel c h m W σ) {a:Addr}{o:Obj}(F:Fr c.b c.L h' m) (N:News c.b c.L h' ((a,o)::W.nw)) (hl:∀ p∈W.nw,p.1<a):
  Rel c h' m ⟨(a,o)::W.nw,(a,o)::W.fz,W.rho,W.frs⟩ σ∧aJ W ⟨(a,o)::W.nw,(a,o)::W.fz,W.rho,W.frs⟩:=by
 have z:=R.alloc (adds:=[(a,o)]) (fadds:=[(a,o)]) (rad:=[]) (robj:=[]) F N (by simp) (fun p hp hm=>by
   rw[List.mem_singleton.mp hp]at hm
   obtain⟨q,hq,e⟩:=List.mem_map.mp hm
   exact absurd (e▸hl q hq) (Nat.lt_irrefl _)) (fun p hp=>hp) rfl (fun q hq=>by simp at hq) (by simp) (fun i o ho=>by simp at ho)
 simpa only [List.append_nil,List.cons_append,List.nil_append]using z
theorem Lu {c:Act}{A:Around}{s:Shared}{m W σ}(R:Rel c s.heap m W σ) {vs:List Value}{xs:List V}(hvs:RVs c W vs xs) {Q:Value→Shared→Prop}{E:Value→Shared→Prop}(hp:aA c (RV c) s W Q E (Gu xs σ)):
  wpAny (model prog c.w) A (newTuple vs) Q E s:=by
 unfold Gu at hp
 split at hp
 ·rename_i hz
  refine newTuple_N R.F R.N (fun h' F' N'=>?_) (by rw[hvs.1];exact Nat.le_trans hz (Nat.le_trans (by omega) bt))
  obtain⟨R1,X1⟩:=R.freeze1 F' N' fun p hp=>Heap.lt_size (R.N p hp).1
  refine hp _ h' s.toks m _ R1 X1 (.tup (n:=0) (.inr (.head _)) hvs.1 (X1.vrs hvs).2)
 ·exact hp.elim
def bk (wa:S→Rs (List V)):W1:=fun σ=>(wa σ).bind Gu
theorem Xz {es k p wa}(ha:JL prog K D cs es wa):JE prog K D cs (.Tuple es k p) (bk wa):=fun c A rm fr kk s m W σ R Q E hp=>
 Tuple_ (ha.2 c A rm fr kk s m W σ R p _ E (aA.bind hp fun vs xs σ1 h1 tk1 m1 W1 R1 X1 ra p1=>Lu R1 ra p1))
def aQ (i:Nat) (we wo:W1):W2:=fun σ=>(we σ).bind fun x σ1=>(wo σ1).bind fun o σ2=>xR i o x σ2
theorem Qm {o p' e p wo we}{i:Nat}(hK:AF K) (he:JE prog K D cs e we) (ho:JE prog K D cs o wo) (hs:∀ env,swapsWith e (some (.Attribute o (attrName i) p')) p.line env=pure false):
  JX prog K D cs (.Assign [.Attribute o (attrName i) p'] e p) (aQ i we wo):=fun c A rm fr kk s m W σ R Q E hp=>by
 refine plainObj_wpAny_Assign_Attribute (he c A rm fr kk s m W σ R _ E (aA.bind hp fun v x σ1 h1 tk1 m1 W1 R1 X1 ra p1=>?_)) (hs _)
 refine ho c A rm fr kk _ m1 W1 σ1 R1 _ E (aA.bind p1 fun v' y σ2 h2 tk2 m2 W2 R2 X2 rb p2=>?_)
 refine I2 hK kk R2 rb (ra.ext X2) ?_
 revert p2
 cases hq:xR i y x σ2 with
 | ok f σ3=>
  intro p2 u h' tk m' W' R' X' hf
  subst hf
  exact p2 _ h' tk m' W' R' X' .next
 | exc C=>exact id
 | no=>exact id
noncomputable def bR (w:W1):W2:=fun σ=>(w σ).bind fun _ σ1=>.ok .next σ1
theorem Vg {e p w}(h:JE prog K D cs e w) (hi:∀ q L fn ccd r cl,interactive (envG q cs L fn ccd r cl)=false) (hs:∀ env,swapsWith e none p.line env=pure false):JX prog K D cs (.Expr e p) (bR w):=fun c A rm fr kk s m W σ R Q E hp=>by
 obtain⟨q,fn,ccd,r,ee⟩:=id fr.env
 exact wpAny_Expr_any (h c A rm fr kk s m W σ R _ E (aA.bind hp fun v x σ1 h1 tk1 m1 W1 R1 X1 ra p1=>p1 _ h1 tk1 m1 W1 R1 (aJ.refl _) .next)) (by rw[ee];exact hi _ _ _ _ _ _) (hs _)
end
section
variable {prog:Program}{K:World→Frag}{D:Nat}{cs:Scope}
noncomputable def eD (f:V→Option V):List V→Option (List V)
 | []=>some []
 | x::xs=>match f x with
  | some y=>match eD f xs with
   | some ys=>some (y::ys)
   | Option.none=>Option.none
  | Option.none=>Option.none
noncomputable def kO (f:V→Option V):List (Nat×V)→Option (List (Nat×V))
 | []=>some []
 | x::xs=>match f x.2 with
  | some y=>match kO f xs with
   | some ys=>some ((x.1,y)::ys)
   | Option.none=>Option.none
  | Option.none=>Option.none
noncomputable def iH (f:V→Option V):List (V×V)→Option (List (V×V))
 | []=>some []
 | x::xs=>match f x.2 with
  | some y=>match iH f xs with
   | some ys=>some ((x.1,y)::ys)
   | Option.none=>Option.none
  | Option.none=>Option.none
theorem Qn {α β:Type}{p:α→β→Prop}{a:α}{b:β}{as:List α}{bs:List β}(h:p a b) (hs:∀ (i:Nat) y,bs[i]?=some y→∃ x,as[i]?=some x∧p x y):∀ (i:Nat) y,(b::bs)[i]?=some y→∃ x,(a::as)[i]?=some x∧p x y
 | 0,_,e=>⟨a,rfl,Option.some.inj e▸h⟩
 | i+1,y,e=>hs i y e
theorem zd {f:V→Option V}{xs:List V}:∀ {ys:List V},eD f xs=some ys→xs.length=ys.length∧∀ (i:Nat) y,ys[i]?=some y→∃ x,xs[i]?=some x∧f x=some y:=by
 induction xs with
 | nil=>exact fun h=>Option.some.inj h▸⟨rfl,fun i y h=>nomatch h⟩
 | cons x xs ih=>
  intro ys h
  have h:(match f x with | some y=>(match eD f xs with | some zs=>some (y::zs) | Option.none=>Option.none) | Option.none=>Option.none)=some ys:=h
  cases hy:f x with
  | none=>rw[hy]at h;exact ay h
  | some y=>
   cases hz:eD f xs with
   | none=>rw[hy,hz]at h;exact ay h
   | some zs=>
    rw[hy,hz]at h
    have ih:=ih hz
    exact Option.some.inj h▸⟨congrArg (·+1) ih.1,Qn (p:=fun(x:V) (y:V)=>f x=some y) hy ih.2⟩
theorem I7 {f:V→Option V}{xs:List (Nat×V)}:∀ {ys:List (Nat×V)},kO f xs=some ys→xs.length=ys.length∧∀ (i:Nat) y,ys[i]?=some y→∃ x,xs[i]?=some x∧x.1=y.1∧f x.2=some y.2:=by
 induction xs with
 | nil=>exact fun h=>Option.some.inj h▸⟨rfl,fun i y h=>nomatch h⟩
 | cons x xs ih=>
  intro ys h
  have h:(match f x.2 with | some y=>(match kO f xs with | some zs=>some ((x.1,y)::zs) | Option.none=>Option.none) | Option.none=>Option.none)=some ys:=h
  cases hy:f x.2 with
  | none=>rw[hy]at h;exact ay h
  | some y=>
   cases hz:kO f xs with
   | none=>rw[hy,hz]at h;exact ay h
   | some zs=>
    rw[hy,hz]at h
    have ih:=ih hz
    exact Option.some.inj h▸⟨congrArg (·+1) ih.1,Qn (p:=fun(x:(Nat×V)) (y:(Nat×V))=>x.1=y.1∧f x.2=some y.2) ⟨rfl,hy⟩ ih.2⟩
theorem I8 {f:V→Option V}{xs:List (V×V)}:∀ {ys:List (V×V)},iH f xs=some ys→xs.length=ys.length∧(xs.map (·.1)=ys.map (·.1))∧∀ (i:Nat) y,ys[i]?=some y→∃ x,xs[i]?=some x∧x.1=y.1∧f x.2=some y.2:=by
 induction xs with
 | nil=>exact fun h=>Option.some.inj h▸⟨rfl,rfl,fun i y h=>nomatch h⟩
 | cons x xs ih=>
  intro ys h
  have h:(match f x.2 with | some y=>(match iH f xs with | some zs=>some ((x.1,y)::zs) | Option.none=>Option.none) | Option.none=>Option.none)=some ys:=h
  cases hy:f x.2 with
  | none=>rw[hy]at h;exact ay h
  | some y=>
   cases hz:iH f xs with
   | none=>rw[hy,hz]at h;exact ay h
   | some zs=>
    rw[hy,hz]at h
    have ih:=ih hz
    exact Option.some.inj h▸⟨congrArg (·+1) ih.1,(congrArg (x.1::·) ih.2.1),Qn (p:=fun(x:(V×V)) (y:(V×V))=>x.1=y.1∧f x.2=some y.2) ⟨rfl,hy⟩ ih.2.2⟩
def frz (n:Nat) (st:List MO):Nat→V→Option V
 | 0,_=>Option.none
 | k+1,x=>match x with
  | .loc j=>if j<n then some (.loc j)else match st[j]? with
   | some (.inst C fs)=>(kO (frz n st k) fs).map (V.inst C)
   | some (.lst xs)=>(eD (frz n st k) xs).map V.lst
   | some (.dct es)=>(iH (frz n st k) es).map V.dct
   | Option.none=>Option.none
  | .inst C fs=>(kO (frz n st k) fs).map (V.inst C)
  | .lst xs=>(eD (frz n st k) xs).map V.lst
  | .tup xs=>(eD (frz n st k) xs).map V.tup
  | .dct es=>(iH (frz n st k) es).map V.dct
  | .rv v x=>(frz n st k x).map (V.rv v)
  | x=>some x
theorem Gv {xs:List V}:∀ {ns:List Int},b0 xs=some ns→∀ (i:Nat) x,xs[i]?=some x→∃ n,x=.int n:=by
 induction xs with
 | nil=>exact fun _ i x h=>nomatch h
 | cons y xs ih=>
  exact fun {ns}=>V.casesOn (motive_1:=fun y=>b0 (y::xs)=some ns→∀ (i:Nat) x,(y::xs)[i]?=some x→∃ n,x=.int n) y ay ay (fun _=>ay) (fun n e=>by
   have e:(match b0 xs with | some r=>some (n::r) | Option.none=>Option.none)=some ns:=e
   cases hr:b0 xs with
   | none=>rw[hr]at e;exact ay e
   | some r=>exact fun i x h=>match i,h with
    | 0,h=>⟨n,(Option.some.inj h).symm⟩
    | i+1,h=>ih hr i x h) (fun _=>ay) (fun _=>ay) (fun _=>ay) (fun _=>ay) (fun _ _=>ay) (fun _=>ay) (fun _=>ay) (fun _=>ay) (fun _ _=>ay)
theorem VR.key {P:Params}{F F':Addr→Obj→Prop}{rho rho':List (Addr×Addr)}(hF:∀ a o,F a o→F' a o) {v:Value}{x:V}{h:Int}(e:hashOf P x=some h) (r:VR P F rho v x):VR P F' rho' v x:=by
 revert e
 exact VR.casesOn (motive:=fun v x _=>hashOf P x=some h→VR P F' rho' v x) r ay (fun _=>ay) (fun i t _=>.int i t) (fun i t _=>.str i t) (fun _ _=>ay) (fun _=>ay) (fun _=>ay)
  (fun {a vs n xs} h1 h2 h3 e=>by
   have e:(match b0 xs with | some ns=>some (reduceHash (Builtin.Tuple.tupleHashOf (ns.map hashInt))) | Option.none=>Option.none)=some h:=e
   cases hn:b0 xs with
   | none=>rw[hn]at e;exact ay e
   | some ns=>exact .tup (hF _ _ h1) h2 fun i u y hu hy=>(Gv hn i y hy).elim fun n q=>q▸(q▸h3 i u y hu hy:VR P F rho u (.int n)).inv.elim fun t e=>e▸.int _ t) (fun _ _ _=>ay) (fun _ _ _ _ _=>ay) (fun _ _ _ _ _ _ _=>ay) fun _=>ay
theorem I9 {P:Params}{F F':Addr→Obj→Prop}{rho:List (Addr×Addr)}{n:Nat}{st:List MO}(hF:∀ a o,F a o→F' a o)
  (hst:∀ (j:Nat) o,n≤j→st[j]?=some o→∃ x d ro,rho[j]?=some (x,d)∧F' d ro∧OR P F rho x d ro o):
  ∀ (k:Nat) (x y:V) (v:Value),frz n st k x=some y→VR P F rho v x→VR P F' (rho.take n) v y
 | 0,_,_,_,e,_=>ay e
 | k+1,x,y,v,e,hv=>by
  have ih:=I9 hF hst k
  have lst:∀ {a vs m xs z},F' a (lstOf vs m)→vs.length=xs.length→(∀ (i:Nat) v x,vs[i]?=some v→xs[i]?=some x→VR P F rho v x)→eD (frz n st k) xs=some z→VR P F' (rho.take n) (.ref a) (.lst z):=fun h1 h2 h3 hz=>
   have g:=zd hz
   .lst h1 (h2.trans g.1) fun i u w hu hw=>(g.2 i w hw).elim fun w0 g=>ih _ _ _ g.2 (h3 i u w0 hu g.1)
  have inst:∀ {a C dx es m fs z},F' a (instObj C dx)→F' dx (dictOf es m)→es.length=fs.length→(∀ (i:Nat) (e:DictEntry) (f:Nat×V),es[i]?=some e→fs[i]?=some f→∃ t,e.key=.str (attrName f.1) t)→
    (∀ (i:Nat) (e:DictEntry) (f:Nat×V),es[i]?=some e→fs[i]?=some f→VR P F rho e.val f.2)→kO (frz n st k) fs=some z→VR P F' (rho.take n) (.ref a) (.inst C z):=fun h1 h2 h3 h4 h5 hz=>
   have g:=I7 hz
   .inst h1 h2 (h3.trans g.1) (fun i u w hu hw=>(g.2 i w hw).elim fun w0 g=>g.2.1▸h4 i u w0 hu g.1) fun i u w hu hw=>(g.2 i w hw).elim fun w0 g=>ih _ _ _ g.2.2 (h5 i u w0 hu g.1)
  have dct:∀ {a es m fs z},F' a (dictOf es m)→(a==sysModules)=false→es.length=fs.length→(fs.map (·.1)).Nodup→(∀ (i:Nat) (e:DictEntry) (f:V×V),es[i]?=some e→fs[i]?=some f→hashOf P f.1=some e.hash∧VR P F rho e.key f.1∧VR P F rho e.val f.2)→
    iH (frz n st k) fs=some z→VR P F' (rho.take n) (.ref a) (.dct z):=fun h1 h2 h3 h4 h5 hz=>
   have g:=I8 hz
   .dct h1 h2 (h3.trans g.1) (fun i u w hu hw=>(g.2.2 i w hw).elim fun w0 q=>q.2.1▸(h5 i u w0 hu q.1).1) (g.2.1▸h4) (fun i u w hu hw=>(g.2.2 i w hw).elim fun w0 q=>q.2.1▸VR.key hF (h5 i u w0 hu q.1).1 (h5 i u w0 hu q.1).2.1) fun i u w hu hw=>(g.2.2 i w hw).elim fun w0 q=>ih _ _ _ q.2.2 (h5 i u w0 hu q.1).2.2
  revert e
  exact VR.casesOn (motive:=fun v x _=>frz n st (k+1) x=some y→VR P F' (rho.take n) v y) hv (fun e=>Option.some.inj e▸.none) (fun b e=>Option.some.inj e▸.bool b) (fun i t e=>Option.some.inj e▸.int i t) (fun i t e=>Option.some.inj e▸.str i t) (fun b t e=>Option.some.inj e▸.bytes b t) (fun v e=>Option.some.inj e▸.ext v)
   (fun {j x d} hr e=>by
    have e:(if j<n then some (V.loc j)else match st[j]? with
     | some (.inst C fs)=>(kO (Mine.frz n st k) fs).map (V.inst C)
     | some (.lst xs)=>(eD (Mine.frz n st k) xs).map V.lst
     | some (.dct es)=>(iH (Mine.frz n st k) es).map V.dct
     | Option.none=>Option.none)=some y:=e
    by_cases hj:j<n
    ·rw[if_pos hj]at e
     exact Option.some.inj e▸.loc (x:=x) (d:=d) (by rw[List.getElem?_take_of_lt hj];exact hr)
    ·rw[if_neg hj]at e
     cases ho:st[j]? with
     | none=>rw[ho]at e;exact ay e
     | some o=>
      rw[ho]at e
      refine(hst j _ (Nat.le_of_not_lt hj) ho).elim fun x' h=>h.elim fun d' h=>h.elim fun ro a=>?_
      cases hr.symm.trans a.1
      cases o with
      | inst C fs=>exact(Option.map_eq_some_iff.mp e).elim fun z hz=>a.2.2.inv.elim fun es h=>h.elim fun m g=>hz.2▸inst (hF _ _ g.2.1) (g.1▸a.2.1) g.2.2.1 (fun i e f h1 h2=>(g.2.2.2.2 i e f h1 h2).1) (fun i e f h1 h2=>(g.2.2.2.2 i e f h1 h2).2) hz.1
      | lst xs=>exact(Option.map_eq_some_iff.mp e).elim fun z hz=>a.2.2.inv.elim fun vs h=>h.elim fun m g=>hz.2▸g.2.1▸lst (g.1▸a.2.1) g.2.2.1 g.2.2.2 hz.1
      | dct es=>exact(Option.map_eq_some_iff.mp e).elim fun z hz=>a.2.2.inv.elim fun es h=>h.elim fun m g=>hz.2▸dct (g.2.1▸g.1▸a.2.1) g.2.2.1 g.2.2.2.1 g.2.2.2.2.1 g.2.2.2.2.2 hz.1)
   (fun h1 h2 h3 e=>(Option.map_eq_some_iff.mp e).elim fun z hz=>have g:=zd hz.1
    hz.2▸.tup (hF _ _ h1) (h2.trans g.1) fun i u w hu hw=>(g.2 i w hw).elim fun w0 g=>ih _ _ _ g.2 (h3 i u w0 hu g.1))
   (fun h1 h2 h3 e=>(Option.map_eq_some_iff.mp e).elim fun z hz=>hz.2▸lst (hF _ _ h1) h2 h3 hz.1)
   (fun h1 h2 h3 h4 h5 e=>(Option.map_eq_some_iff.mp e).elim fun z hz=>hz.2▸inst (hF _ _ h1) (hF _ _ h2) h3 h4 h5 hz.1)
   (fun h1 h2 h3 h4 h7 h5 h6 e=>(Option.map_eq_some_iff.mp e).elim fun z hz=>hz.2▸dct (hF _ _ h1) h2 h3 h7 (fun i e f a b=>⟨h4 i e f a b,h5 i e f a b,h6 i e f a b⟩) hz.1)
   fun hx e=>(Option.map_eq_some_iff.mp e).elim fun z hz=>hz.2▸.rv (ih _ _ _ hz.1 hx)
noncomputable def low (n:Nat):Nat→V→Bool
 | 0,_=>false
 | k+1,x=>match x with
  | .loc j=>decide (j<n)
  | .inst _ fs=>fs.all fun f=>low n k f.2
  | .lst xs=>xs.all (low n k)
  | .tup xs=>xs.all (low n k)
  | .dct es=>es.all fun e=>low n k e.2
  | .rv _ x=>low n k x
  | _=>true
theorem iI {α:Type}{p:α→Bool}{l:List α}(h:l.all p=true) {i:Nat}{x:α}(hx:l[i]?=some x):p x=true:=List.all_eq_true.mp h x (List.mem_of_getElem? hx)
theorem oA {P:Params}{F F':Addr→Obj→Prop}{rho rho':List (Addr×Addr)}{n:Nat}(hF:∀ a o,F a o→F' a o) (hr:∀ (j:Nat) q,j<n→rho[j]?=some q→rho'[j]?=some q):
  ∀ (k:Nat) (x:V) (v:Value),low n k x=true→VR P F rho v x→VR P F' rho' v x
 | 0,_,_,e,_=>nq e
 | k+1,x,v,e,hv=>
  have ih:=oA (P:=P) hF hr k
  VR.casesOn (motive:=fun v x _=>low n (k+1) x=true→VR P F' rho' v x) hv (fun _=>.none) (fun b _=>.bool b) (fun i t _=>.int i t) (fun s t _=>.str s t) (fun b t _=>.bytes b t) (fun v _=>.ext v) (fun h e=>.loc (hr _ _ (of_decide_eq_true e) h))
   (fun h1 h2 h3 e=>.tup (hF _ _ h1) h2 fun i u w hu hw=>ih _ _ (iI e hw) (h3 i u w hu hw)) (fun h1 h2 h3 e=>.lst (hF _ _ h1) h2 fun i u w hu hw=>ih _ _ (iI e hw) (h3 i u w hu hw))
   (fun h1 h2 h3 h4 h5 e=>.inst (hF _ _ h1) (hF _ _ h2) h3 h4 fun i u w hu hw=>ih _ _ (iI (p:=fun f:Nat×V=>low n k f.2) e hw) (h5 i u w hu hw))
   (fun h1 h2 h3 h4 h7 h5 h6 e=>.dct (hF _ _ h1) h2 h3 h4 h7 (fun i u w hu hw=>VR.key hF (h4 i u w hu hw) (h5 i u w hu hw)) fun i u w hu hw=>ih _ _ (iI (p:=fun e:V×V=>low n k e.2) e hw) (h6 i u w hu hw)) (fun hx e=>.rv (ih _ _ e hx)) e
def hV (n k:Nat):MO→Bool
 | .inst _ fs=>fs.all fun f=>low n k f.2
 | .lst xs=>xs.all (low n k)
 | .dct es=>es.all fun e=>low n k e.2
theorem Lv {P:Params}{F F':Addr→Obj→Prop}{rho rho':List (Addr×Addr)}{n k:Nat}(hF:∀ a o,F a o→F' a o) (hr:∀ (j:Nat) q,j<n→rho[j]?=some q→rho'[j]?=some q) {x d:Addr}{ro:Obj}{o:MO}
  (e:hV n k o=true) (h:OR P F rho x d ro o):OR P F' rho' x d ro o:=by
 cases h with
 | inst h1 h2 hz h3=>exact .inst (hF _ _ h1) h2 hz fun i u f a b=>⟨(h3 i u f a b).1,oA hF hr k _ _ (iI (p:=fun f:Nat×V=>low n k f.2) e b) (h3 i u f a b).2⟩
 | lst h1 h2=>exact .lst h1 ⟨h2.1,fun i u w hu hw=>oA hF hr k _ _ (iI e hw) (h2.2 i u w hu hw)⟩
 | dct h1 h2 h3 h5 h4=>
  exact .dct h1 h2 h3 h5 fun i u f a b=>⟨(h4 i u f a b).1,VR.key hF (h4 i u f a b).1 (h4 i u f a b).2.1,oA hF hr k _ _ (iI (p:=fun e:V×V=>low n k e.2) e b) (h4 i u f a b).2.2⟩
def cL (spec:FS):FS:=fun xs st=>match spec xs st with
 | .ok x st'=>match frz st.length st' 30 x with
  | some y=>if(st'.take st.length).all (hV st.length 30)then .ok y (st'.take st.length)else .no
  | Option.none=>.no
 | .exc C=>.exc C
 | .no=>.no
theorem BG {c:Act}{h h':Heap}{m m':Str→Option Value}{W W':aV}{σ σ':S}(R:Rel c h m W σ) (R':Rel c h' m' W' σ') (X:aJ W W') (hall:((σ'.st.take σ.st.length).all (hV σ.st.length 30))=true) {G:Prop}
  (k:∀ W1,aJ W W1→(∀ p∈W'.fz,p∈W1.fz)→(∀ w u,low σ.st.length 30 w=true→RV c W' u w→RV c W1 u w)→(∀ x y a,Mine.frz σ.st.length σ'.st 30 x=some y→RV c W' a x→RV c W1 a y)→
   (∀ env,env.length=c.ns.length+c.cn.length→(∀ (i:Nat) n v,c.ns[i]?=some n→env[i]?=some v→v=.unb∨∃ u,m' n=some u∧VR c.w.params (FZ c.b W1.fz) W1.rho u v)→
    (∀ (j:Nat) n v,c.cn[j]?=some n→env[c.ns.length+j]?=some v→v=.unb∨∃ a o u,c.cl.lookup n=some a∧(a,o)∈W1.fz∧o.data=.cell (some u)∧VR c.w.params (FZ c.b W1.fz) W1.rho u v)→Rel c h' m' W1 ⟨env,σ'.st.take σ.st.length⟩)→G):G:=by
 have hn:W.rho.length=σ.st.length:=R.len
 have hn':W'.rho.length=σ'.st.length:=R'.len
 generalize σ.st.length=n at hall k hn
 have hadd:∀ p∈W'.nw.filter (fun p=>decide (p.1∈(W'.rho.drop n).map (·.2))),p∈W'.nw∧∃ r∈W'.rho.drop n,p.1=r.2:=fun p hp=>
  have h:=List.mem_filter.mp hp
  ⟨h.1,(List.mem_map.mp (of_decide_eq_true h.2)).imp fun r g=>⟨g.1,g.2.symm⟩⟩
 have hmem:∀ p∈W'.nw,(∃ r∈W'.rho.drop n,p.1=r.2)→p∈W'.nw.filter (fun p=>decide (p.1∈(W'.rho.drop n).map (·.2))):=fun p hp h=>List.mem_filter.mpr ⟨hp,decide_eq_true (h.elim fun r g=>List.mem_map.mpr ⟨r,g.1,g.2.symm⟩)⟩
 generalize W'.nw.filter (fun p=>decide (p.1∈(W'.rho.drop n).map (·.2)))=add at hadd hmem
 have tk:∀ (j:Nat) q,j<n→W'.rho[j]?=some q→(W'.rho.take n)[j]?=some q:=fun j q hj hq=>by rw[List.getElem?_take_of_lt hj];exact hq
 have apart:∀ q∈W'.rho.take n,∀ r∈W'.rho.drop n,q.2≠r.2:=fun q hq r hr e=>by
  have rnd:=R'.rnd
  rw[(List.take_append_drop n W'.rho).symm,List.map_append,List.nodup_append]at rnd
  exact rnd.2.2 q.2 (List.mem_map_of_mem (f:=(·.2)) hq) r.2 (List.mem_map_of_mem (f:=(·.2)) hr) e
 have old:∀ (i:Nat) q,W.rho[i]?=some q→(W'.rho.take n)[i]?=some q:=fun i q hi=>tk i q (hn▸(List.getElem?_eq_some_iff.mp hi).1) (X.rho i q hi)
 have hF:∀ a o,FZ c.b W'.fz a o→FZ c.b (add++W'.fz) a o:=FZ.mono fun p hp=>List.mem_append_right _ hp
 refine k ⟨W'.nw,add++W'.fz,W'.rho.take n,W'.frs⟩ ⟨fun p hp=>List.mem_append_right _ (X.fz p hp),old,X.ad,fun q hq=>X.new q (List.mem_of_mem_take hq),X.nw,X.frs,X.fr,fun p hp=>(List.mem_append.mp hp).elim (fun h1=>.inr ?_) (X.fzn p)⟩ (fun p hp=>List.mem_append_right _ hp)
  (fun w u hl hu=>oA hF tk 30 _ _ hl hu) (fun x y a hy hv=>I9 hF (fun j o hj ho=>(R'.st j o ho).imp fun x' h=>h.imp fun d h=>h.imp fun ro g=>⟨g.1,.inr (List.mem_append_left _ (hmem _ g.2.1 ⟨(x',d),List.mem_of_getElem? (i:=j - n) ?_,rfl⟩)),g.2.2⟩) 30 x y a hy hv)
  fun env he h1 h2=>⟨R'.F,R'.N,R'.nd,fun p hp=>(List.mem_append.mp hp).elim (fun h=>(hadd p h).1) (R'.fz p),fun q hq p hp=>(List.mem_append.mp hp).elim (fun h=>(hadd p h).2.elim fun r g=>g.2▸(apart q hq r g.1).symm) (R'.off q (List.mem_of_mem_take hq) p),(List.Sublist.map _ (List.take_sublist _ _)).nodup R'.rnd,
   fun q hq=>R'.fro q (List.mem_of_mem_take hq),fun p hp=>(List.mem_append.mp hp).elim (fun h=>(hadd p h).2.elim fun r g=>g.2▸R'.fro r (List.mem_of_mem_drop g.1)) (R'.ffr p),R'.fra,R'.frd,?_,fun j o ho=>?_,he,h1,h2,R'.stk⟩
 ·exact(hadd p h1).2.elim fun r g=>(X.new r (List.mem_of_mem_drop g.1)).elim (fun h2=>absurd rfl ((List.mem_iff_getElem?.mp h2).elim fun i hi=>apart r (List.mem_of_getElem? (old i r hi)) r g.1)) fun h2=>g.2▸h2
 ·rw[List.getElem?_drop,Nat.add_sub_cancel' hj];exact g.1
 ·show(W'.rho.take n).length=(σ'.st.take n).length
  rw[List.length_take,List.length_take,hn']
 ·have hk:j<n:=by
   have:=(List.getElem?_eq_some_iff.mp ho).1
   rw[List.length_take]at this
   exact Nat.lt_of_lt_of_le this (Nat.min_le_left _ _)
  exact(R'.st j o (by rw[← ho,List.getElem?_take_of_lt hk])).imp fun x' h=>h.imp fun d h=>h.imp fun ro g=>⟨tk j _ hk g.1,g.2.1,Lv hF tk (iI hall ho) g.2.2⟩
theorem JF.frz {v spec}(h:JF prog K D v spec):JF prog K D v (cL spec):=by
 intro c A rm kk s m W σ R vs xs hvs Q E hp
 refine h c A rm kk s m W σ R vs xs hvs Q E ?_
 unfold cL at hp
 generalize spec xs σ.st=r at hp
 cases r with
 | no=>exact hp
 | exc C=>exact hp
 | ok x st'=>
  dsimp only at hp
  cases hy:Mine.frz σ.st.length st' 30 x with
  | none=>rw[hy]at hp;exact hp.elim
  | some y=>
   rw[hy]at hp
   dsimp only at hp
   by_cases hall:((st'.take σ.st.length).all (hV σ.st.length 30))=true
   ·rw[if_pos hall]at hp
    exact fun a h' tk W' R' X hv=>BG R R' X hall fun W1 X1 _ _ hfrz build=>hp a h' tk W1 (build σ.env R.elen (R.envX X1) (R.cellX X1)) X1 (hfrz x y a hy hv)
   ·rw[if_neg hall]at hp;exact hp.elim
def jL (spec:FS):FS:=fun xs st=>if xs.all (low 0 30)then match spec xs []with
 | .ok x []=>.ok x st
 | .exc C=>.exc C
 | _=>.no
 else .no
theorem JF.hide {v spec}(h:JF prog K D v spec):JF prog K D v (jL spec):=by
 intro c A rm kk s m W σ R vs xs hvs Q E hp
 unfold jL at hp
 split at hp
 case isFalse=>exact hp.elim
 rename_i hall
 let W0:aV:=⟨W.nw,W.fz,[],W.frs⟩
 let σ0:S:=⟨List.replicate (c.ns.length+c.cn.length) .unb,[]⟩
 have R0:Rel c s.heap m W0 σ0:=by
  refine⟨R.F,R.N,R.nd,R.fz,fun q hq=>(by cases hq),List.nodup_nil,fun q hq=>(by cases hq),R.ffr,R.fra,R.frd,rfl,fun k o ho=>by simp[σ0]at ho,by simp[σ0],fun i nm w hi hw=>?_,fun i nm w hi hw=>?_,R.stk⟩
  ·exact .inl (List.eq_of_mem_replicate (List.mem_of_getElem? hw))
  ·exact .inl (List.eq_of_mem_replicate (List.mem_of_getElem? hw))
 have hvs0:RVs c W0 vs xs:=⟨hvs.1,fun i u w hu hw=>oA (fun _ _ x=>x) (fun j q hj=>absurd hj (Nat.not_lt_zero _)) 30 _ _ (iI hall hw) (hvs.2 i u w hu hw)⟩
 refine h c A rm kk s m W0 σ0 R0 vs xs hvs0 Q E ?_
 show Gn c m s W0 Q E ((spec xs []).rs σ0.env)
 have lift:∀ h' W',Rel c h' m W' ⟨σ0.env,[]⟩→aJ W0 W'→Rel c h' m ⟨W'.nw,W'.fz,W.rho,W'.frs⟩ σ∧aJ W ⟨W'.nw,W'.fz,W.rho,W'.frs⟩:=by
  intro h' W' R' X
  have old:=R.old
  have X1:aJ W ⟨W'.nw,W'.fz,W.rho,W'.frs⟩:=
   ⟨X.fz,fun _ _ h=>h,X.ad,fun _ h=>.inl h,fun p hp h1 h2=>X.nw p hp (fun q hq=>(by cases hq)) h2,X.frs,fun p hp h1 h2=>X.fr p hp h1 fun q hq=>(by cases hq),X.fzn⟩
  refine⟨⟨R'.F,R'.N,R'.nd,R'.fz,fun q hq p hp=>?_,R.rnd,fun q hq=>X.frs▸R.fro q hq,R'.ffr,R'.fra,R'.frd,R.len,fun k o ho=>?_,R.elen,fun i nm w hi hw=>?_,fun i nm w hi hw=>?_,R'.stk⟩,X1⟩
  ·rcases X.fzn p hp with h1 | h1
   ·exact R.off q hq p h1
   ·exact fun e=>h1 (e▸old q hq)
  ·obtain⟨x,d,ro,h1,h2,h3⟩:=R.st k o ho
   exact⟨x,d,ro,h1,X.nw _ h2 (fun q hq=>(by cases hq)) (R.fro (x,d) (List.mem_of_getElem? h1)),h3.mono (FZ.mono X.fz) fun _ _ h=>h⟩
  ·exact R.envX X1 i nm w hi hw
  ·exact R.cellX X1 i nm w hi hw
 generalize spec xs []=r at hp
 cases r with
 | no=>exact hp
 | exc C=>
  intro e h' tk t tn
  obtain⟨B,a0,h1,h2,h3,h4,h5⟩:=t
  exact hp e h' tk ⟨B,a0,h1,fun p hp _ hf=>h2 p hp (fun q hq=>(by cases hq)) hf,h3,h4,fun p hp hf _=>h5 p hp hf fun q hq=>(by cases hq)⟩ tn
 | ok x st'=>
  cases st' with
  | cons o r=>exact hp.elim
  | nil=>
   intro a h' tk W' R' X hv
   obtain⟨R1,X1⟩:=lift h' W' R' X
   refine hp a h' tk _ R1 X1 ?_
   have e:W'.rho=[]:=List.eq_nil_of_length_eq_zero R'.len
   exact VR.mono (fun _ _ h=>h) (fun k q hq=>by rw[e]at hq;simp at hq) hv
def av (spec:FS):FS:=jL (cL spec)
theorem JF.pure {v spec}(h:JF prog K D v spec):JF prog K D v (av spec):=h.frz.hide
end
section
variable {prog:Program}{K:World→Frag}{D:Nat}{cs:Scope}
noncomputable def uniq:Led→Led
 | []=>[]
 | p::r=>if p.1∈(uniq r).map (·.1)then uniq r else p::uniq r
theorem pE:∀ {l:Led},((uniq l).map (·.1)).Nodup
 | []=>List.nodup_nil
 | p::r=>by
  unfold uniq
  split
  ·exact pE
  ·rename_i h
   rw[List.map_cons,List.nodup_cons]
   exact⟨h,pE⟩
theorem u0:∀ {l:Led}{p},p∈uniq l→p∈l
 | [],_,h=>h
 | q::r,p,h=>by
  unfold uniq at h
  split at h
  ·exact .tail _ (u0 h)
  ·rcases List.mem_cons.mp h with rfl | h
   ·exact .head _
   ·exact .tail _ (u0 h)
theorem u1:∀ {l:Led}{a},a∈l.map (·.1)→a∈(uniq l).map (·.1)
 | [],_,h=>h
 | q::r,a,h=>by
  rw[List.map_cons]at h
  unfold uniq
  split
  ·rename_i hm
   rcases List.mem_cons.mp h with rfl | h
   ·exact hm
   ·exact u1 h
  ·rw[List.map_cons]
   rcases List.mem_cons.mp h with rfl | h
   ·exact .head _
   ·exact .tail _ (u1 h)
theorem Rel.at {c:Act}{h h':Heap}{m:Str→Option Value}{W:aV}{σ:S}(R:Rel c h m W σ) (F:Fr c.b c.L h' m) (N:News c.b c.L h' W.nw):Rel c h' m W σ:=
 ⟨F,N,R.nd,R.fz,R.off,R.rnd,R.fro,R.ffr,R.fra,R.frd,R.len,R.st,R.elen,R.env,R.cell,R.stk⟩
theorem Rel.allocL {c:Act}{h h':Heap}{m:Str→Option Value}{W:aV}{σ:S}{adds:Led}(R:Rel c h m W σ) (F:Fr c.b c.L h' m) (N:News c.b c.L h' (adds++W.nw)) (hnd:(adds.map (·.1)).Nodup) (hfresh:∀ p∈adds,p.1∉W.nw.map (·.1)):
  Rel c h' m ⟨adds++W.nw,W.fz,W.rho,W.frs⟩ σ∧aJ W ⟨adds++W.nw,W.fz,W.rho,W.frs⟩:=by
 have q:=R.alloc (fadds:=[]) (rad:=[]) (robj:=[]) F N hnd hfresh (fun p hp=>nomatch hp) rfl (fun q hq=>nomatch hq) List.nodup_nil (fun k o h=>nomatch h)
 rw[List.append_nil,List.append_nil]at q
 exact q
theorem ES {c:Act}{h:Heap}{m:Str→Option Value}{W0 W1:aV}{σ1:S}{fp:List Addr}{own0:Led}(R1:Rel c h m W1 σ1) (Nown:News c.b c.L h own0) (hfr1:∀ b∈fp,b∈W1.nw.map (·.1)→b∈W0.nw.map (·.1)) (there:∀ b∈fp,∃ o,h.get? b=some o) (hall:∀ b∈fp,c.b.get? b=none→∀ o,h.get? b=some o→(b,o)∈own0) {G:Prop}
  (k:∀ own:Led,Rel c h m ⟨own++W1.nw,W1.fz,W1.rho,W1.frs⟩ σ1→aJ W1 ⟨own++W1.nw,W1.fz,W1.rho,W1.frs⟩→(∀ b∈fp,b∉W0.nw.map (·.1)→c.b.get? b=none→b∈(own++W1.nw).map (·.1))→
   (∀ b∈fp,b∉W1.nw.map (·.1)→c.b.get? b=none→∃ o,(b,o)∈own)→G):G:=by
 let own:Led:=(uniq own0).filter fun p=>decide (p.1∉W1.nw.map (·.1))
 have hown:∀ p∈own,p∈own0∧p.1∉W1.nw.map (·.1):=fun p hp=>by
  obtain⟨h1,h2⟩:=List.mem_filter.mp hp
  exact⟨u0 h1,of_decide_eq_true h2⟩
 have hna:News c.b c.L h (own++W1.nw):=fun p hp=>by
  rcases List.mem_append.mp hp with h1 | h1
  ·exact Nown p (hown p h1).1
  ·exact R1.N p h1
 have q:=R1.allocL (adds:=own) R1.F hna ((List.Sublist.map _ List.filter_sublist).nodup pE) (fun p hp=>(hown p hp).2)
 have hin:∀ b∈fp,b∉W1.nw.map (·.1)→c.b.get? b=none→∃ o,(b,o)∈own:=fun b g1 g2 g3=>by
  obtain⟨o,ho⟩:=there b g1
  have hm:=hall b g1 g3 o ho
  have hu:=u1 (List.mem_map_of_mem (f:=(·.1)) hm)
  obtain⟨p,hp,e⟩:=List.mem_map.mp hu
  have e':p.1=b:=e
  refine⟨p.2,List.mem_filter.mpr ⟨by rw[← e'];exact hp,decide_eq_true g2⟩⟩
 refine k own q.1 q.2 (fun b g1 g2 g3=>?_) hin
 by_cases g4:b∈W1.nw.map (·.1)
 ·exact absurd (hfr1 b g1 g4) g2
 ·obtain⟨o,ho⟩:=hin b g1 g4 g3
  rw[List.map_append,List.mem_append]
  exact .inl (List.mem_map_of_mem (f:=(·.1)) ho)
theorem xT {c:Act}{h h':Heap}{m m':Str→Option Value}{W0 W1 W':aV}{σ1 σ':S}{fp:List Addr}{own:Led}(R1:Rel c h m W1 σ1) (X1:aJ W0 W1) (hfr1:∀ b∈fp,b∈W1.nw.map (·.1)→b∈W0.nw.map (·.1))
  (fpOk:∀ b∈fp,b∈W0.nw.map (·.1)→∃ o,(b,o)∈W0.fz) (R2:Rel c h m ⟨own++W1.nw,W1.fz,W1.rho,W1.frs⟩ σ1) (X2:aJ W1 ⟨own++W1.nw,W1.fz,W1.rho,W1.frs⟩)
  (hcov:∀ b∈fp,b∉W0.nw.map (·.1)→c.b.get? b=none→b∈(own++W1.nw).map (·.1)) (hin:∀ b∈fp,b∉W1.nw.map (·.1)→c.b.get? b=none→∃ o,(b,o)∈own)
  (R':Rel c h' m' W' σ') (X':aJ ⟨own++W1.nw,W1.fz,W1.rho,W1.frs⟩ W') {G:Prop}
  (k:∀ nw3,Rel c h' m' ⟨nw3,W'.fz,W'.rho,W'.frs⟩ σ'→aJ W1 ⟨nw3,W'.fz,W'.rho,W'.frs⟩→(∀ b∈fp,b∈nw3.map (·.1)→b∈W0.nw.map (·.1))→(∀ b∈fp,∀ o,h.get? b=some o→h'.get? b=some o)→(∀ p∈W'.nw,p.1∉fp→p∈nw3)→G):G:=by
 let fresh:List Addr:=fp.filter fun b=>decide (b∉W0.nw.map (·.1))&&(c.b.get? b).isNone
 have hfresh:∀ b,b∈fresh↔b∈fp∧b∉W0.nw.map (·.1)∧c.b.get? b=none:=fun b=>by
  simp only[fresh,List.mem_filter,Bool.and_eq_true,decide_eq_true_eq,Option.isNone_iff_eq_none]
 have hcov':∀ b∈fresh,b∈(own++W1.nw).map (·.1):=fun b hb=>by
  obtain⟨g1,g2,g3⟩:=(hfresh b).mp hb
  exact hcov b g1 g2 g3
 let nw3:Led:=W'.nw.filter fun p=>decide (p.1∉fresh)
 have nofz:∀ p∈W'.fz,p.1∉fresh:=fun p hp hf=>by
  rcases X'.fzn p hp with h1 | h1
  ·have h2:=List.mem_map_of_mem (f:=(·.1)) (R1.fz p h1)
   obtain⟨g1,g2,g3⟩:=(hfresh _).mp hf
   exact g2 (hfr1 _ g1 h2)
  ·exact h1 (hcov' _ hf)
 have norho:∀ q∈W'.rho,q.2∉fresh:=fun q hq hf=>by
  rcases X'.new q hq with h1 | h1
  ·obtain⟨g1,g2,g3⟩:=(hfresh _).mp hf
   exact g2 (hfr1 _ g1 (R1.old q h1))
  ·exact h1 (hcov' _ hf)
 have nofrs:∀ a∈W'.frs,a∉fresh:=fun a ha hf=>by
  rw[X'.frs]at ha
  obtain⟨g1,g2,g3⟩:=(hfresh _).mp hf
  exact g2 (hfr1 _ g1 (R1.fra a ha))
 have sub:∀ p∈nw3,p∈W'.nw:=fun p hp=>(List.mem_filter.mp hp).1
 have keep:∀ p∈W'.nw,p.1∉fresh→p∈nw3:=fun p hp hf=>List.mem_filter.mpr ⟨hp,decide_eq_true hf⟩
 have XY:aJ W1 W':=X2.trans X'
 have old1:∀ a∈W1.nw.map (·.1),a∉fresh:=fun a ha hf=>by
  obtain⟨g1,g2,g3⟩:=(hfresh _).mp hf
  exact g2 (hfr1 _ g1 ha)
 refine k nw3 ⟨R'.F,fun p hp=>R'.N p (sub p hp),(List.Sublist.map _ List.filter_sublist).nodup R'.nd,fun p hp=>keep p (R'.fz p hp) (nofz p hp),R'.off,R'.rnd,R'.fro,R'.ffr,fun a ha=>?_,fun p hp=>R'.frd p (sub p hp),R'.len,fun k o ho=>?_,R'.elen,R'.env,R'.cell,R'.stk⟩ ?_ (fun b hb hm=>?_) (fun b hb o ho=>?_) fun p hp hf=>keep p hp fun hm=>hf ((hfresh _).mp hm).1
 ·obtain⟨p,hp,e⟩:=List.mem_map.mp (R'.fra a ha)
  exact List.mem_map.mpr ⟨p,keep p hp (by rw[show p.1=a from e];exact nofrs a ha),e⟩
 ·obtain⟨x,d,ro,h1,h2,h3⟩:=R'.st k o ho
  exact⟨x,d,ro,h1,keep _ h2 (norho (x,d) (List.mem_of_getElem? h1)),h3⟩
 ·refine⟨XY.fz,XY.rho,fun a ha=>?_,XY.new,fun p hp h1 h2=>keep p (XY.nw p hp h1 h2) (old1 _ (List.mem_map_of_mem (f:=(·.1)) hp)),XY.frs,fun p hp h1 h2=>?_,XY.fzn⟩
  ·obtain⟨p,hp,e⟩:=List.mem_map.mp (XY.ad a ha)
   exact List.mem_map.mpr ⟨p,keep p hp (by rw[show p.1=a from e];exact old1 a ha),e⟩
  ·obtain⟨sl,hsl⟩:=XY.fr p hp h1 h2
   exact⟨sl,keep _ hsl (old1 _ (List.mem_map_of_mem (f:=(·.1)) hp))⟩
 ·obtain⟨p,hp,e⟩:=List.mem_map.mp hm
  have e':p.1=b:=e
  have hp2:=List.mem_filter.mp hp
  have hnf:=of_decide_eq_true hp2.2
  rw[e']at hnf
  by_cases wB:b∈W0.nw.map (·.1)
  ·exact wB
  ·exact absurd ((hfresh b).mpr ⟨hb,wB,by rw[← e'];exact(R'.N p hp2.1).2.2⟩) hnf
 ·cases hn:c.b.get? b with
  | some o₀=>
   have:=R1.F.keep b o₀ hn
   rw[ho]at this
   cases this
   exact R'.F.keep b o hn
  | none=>
   by_cases h1:b∈W1.nw.map (·.1)
   ·obtain⟨o',hfz⟩:=fpOk b hb (hfr1 b hb h1)
    have hfz1:=X1.fz _ hfz
    have z:=(R1.N _ (R1.fz _ hfz1)).1
    rw[ho]at z
    cases z
    exact(R'.N _ (R'.fz _ (XY.fz _ hfz1))).1
   ·obtain⟨o',ho'⟩:=hin b hb h1 hn
    have z:=(R2.N _ (List.mem_append_left _ ho')).1
    rw[ho]at z
    cases z
    exact(R'.N _ (X'.nw _ (List.mem_append_left _ ho') (fun q hq e=>h1 (by rw[show b=q.2 from e];exact R1.old q hq)) fun hf=>h1 (R1.fra _ hf))).1
inductive vO (c:Act) (W:aV):PySem.Expr→Value→List Value→Heap→Prop
 | name {x p v h}:vO c W (.Name x p) v [v] h
 | tup {es k p v us h T}:v=.ref T→(IsTup h T us.toArray∨∃ n,FZ c.b W.fz T (tupOf us n))→vO c W (.Tuple es k p) v us h
theorem vO.ext {c:Act}{W W':aV}{tgt v us h}(u:vO c W tgt v us h) (X:aJ W W'):vO c W' tgt v us h:=
 vO.casesOn (motive:=fun tgt v us h _=>vO c W' tgt v us h) u .name fun e hT=>.tup e (hT.imp id fun h=>h.imp fun n h=>FZ.mono X.fz _ _ h)
structure rx (prog:Program) (c:Act) (A:Around) (W:aV) (tgt:PySem.Expr) (rows:List (List V)) (I:Addr) (fp wr:List Addr) (P Md:Nat→Value→Heap→Prop) (St:Nat→Heap→Prop):Prop where
 turns:KTurns prog c.w A tgt I fp wr rows.length P Md St
 noL:c.L∉fp
 wrOk:∀ b∈wr,c.b.get? b=none∧b∉W.nw.map (·.1)
 fpOk:∀ b∈fp,b∈W.nw.map (·.1)→∃ o,(b,o)∈W.fz
 there:∀ i h,St i h→∀ b∈fp,∃ o,h.get? b=some o
 row:∀ i v h,i<rows.length→P i v h→∃ us xs,rows[i]?=some xs∧RVs c W us xs∧vO c W tgt v us h
noncomputable def nx (c:Act) (A:Around) (prog:Program) (tgt:PySem.Expr) (s:Shared) (W:aV) (Q:Value→Shared→Prop) (E:Value→Shared→Prop):Rs (List (List V))→Prop
 | .ok rows σ'=>∀ I h' tk m' W' fp wr P Md St,Rel c h' m' W' σ'→aJ W W'→rx prog c A W' tgt rows I fp wr P Md St→St 0 h'→Q (.ref I) { s with heap:=h',toks:=tk }
 | .exc C=>∀ e h' tk,dE c W C e h'→E (.ref e) { s with heap:=h',toks:=tk }
 | .no=>False
def JI (prog:Program) (K:World→Frag) (D:Nat) (cs:Scope) (tgt e:PySem.Expr) (w:S→Rs (List (List V))):Prop:=
 ∀ (c:Act) (A:Around),cA D c A→cE c cs→cg prog K c→∀ s m W σ,Rel c s.heap m W σ→∀ Q E,nx c A prog tgt s W Q E (w σ)→
  wpAny (model prog c.w) A (eval e c.env) (fun xv s₁=>wpAny (model prog c.w) A (pyIter xv) Q E s₁) E s
noncomputable def c5 (env:List V):List Nat→List V→List V
 | i::is,x::xs=>c5 (env.set i x) is xs
 | _,_=>env
noncomputable def Wc (k:W2):Rs Fl→Rs Fl
 | .ok .next σ=>k σ
 | .ok .cont σ=>k σ
 | .ok .brk σ=>.ok .next σ
 | .ok (.ret x) σ=>.ok (.ret x) σ
 | _=>.no
def ny (sl:List Nat) (wb:W2):List (List V)→W2
 | []=>fun σ=>.ok .next σ
 | r::rs=>fun σ=>if r.length=sl.length then Wc (ny sl wb rs) (wb ⟨c5 σ.env sl r,σ.st⟩)else .no
section
variable {β α:Type}{c:Act}{rel:aV→α→β→Prop}{s:Shared}{W:aV}{E:Value→Shared→Prop}{G:Prop}
theorem aA.iteP {Q:α→Shared→Prop}{p:Prop} [Decidable p] {r:Rs β}(h:aA c rel s W Q E (if p then r else .no)) (k:p→aA c rel s W Q E r→G):G:=by
 by_cases hp:p
 ·rw[if_pos hp]at h;exact k hp h
 ·rw[if_neg hp]at h;exact h.elim
theorem aA.iteB {Q:α→Shared→Prop}{b:Bool}{r:Rs β}(h:aA c rel s W Q E (if b then r else .no)) (k:b=true→aA c rel s W Q E r→G):G:=aA.iteP h k
theorem aA.whR {W2:aV}{E':Value→Shared→Prop}{Q Q0:Flow→Shared→Prop}{k:S→Rs Fl}{r:Rs Fl}(hp:aA c (RF c) s W Q E (Mine.Wc k r)) (X0:aJ W W2) (kn:∀ h' tk m' W' σ',Rel c h' m' W' σ'→aJ W2 W'→aA c (RF c) s W Q E (k σ')→Q0 .next { s with heap:=h',toks:=tk }∧Q0 .cont { s with heap:=h',toks:=tk })
  (kb:∀ h' tk,Q .next { s with heap:=h',toks:=tk }→Q0 .brk { s with heap:=h',toks:=tk }) (kr:∀ v h' tk,Q (.ret v) { s with heap:=h',toks:=tk }→Q0 (.ret v) { s with heap:=h',toks:=tk }):aA c (RF c) s W2 Q0 E' r:=by
 cases r with
 | no=>exact hp.elim
 | exc C=>exact hp.elim
 | ok f σ'=>
  exact fun fv h' tk m' W' R X hf=>RF.casesOn (motive:=fun fv f _=>aA c (RF c) s W Q E (Mine.Wc k (.ok f σ'))→Q0 fv { s with heap:=h',toks:=tk }) hf (fun hp=>(kn h' tk m' W' σ' R X hp).1) (fun hp=>kb h' tk (hp _ h' tk m' W' R (X0.trans X) .next))
   (fun hp=>(kn h' tk m' W' σ' R X hp).2) (fun hv hp=>kr _ h' tk (hp _ h' tk m' W' R (X0.trans X) (.ret hv))) hp
end
def cZ (wi:S→Rs (List (List V))) (sl:List Nat) (wb:W2):W2:=fun σ=>(wi σ).bind fun rows σ1=>ny sl wb rows σ1
inductive gb (cs:Scope):List PySem.Expr→List Nat→Prop
 | nil:gb cs [] []
 | cons {x p es i is}:Slot cs x i→gb cs es is→gb cs (.Name x p::es) (i::is)
inductive Ja (cs:Scope):PySem.Expr→List Nat→Prop
 | name {x p i}:Slot cs x i→Ja cs (.Name x p) [i]
 | tup {es k p sl}:gb cs es sl→Ja cs (.Tuple es k p) sl
theorem j0 {c:Act}{A:Around}(fr:cE c cs) {s:Shared}{m W σ}(R:Rel c s.heap m W σ) {x:Str}{px:Pos}{i:Nat}(hx:Slot cs x i) {v:Value}{y:V}(hv:RV c W v y) {Q:Unit→Shared→Prop}{E:Value→Shared→Prop}
  (hq:∀ h' m' tk,Rel c h' m' W ⟨σ.env.set i y,σ.st⟩→Q () { s with heap:=h',toks:=tk }):wpAny (model prog c.w) A (assign (.Name x px) c.env v) Q E s:=by
 have hi:c.ns[i]?=some x:=fr.ns▸hx.at_
 obtain⟨q,fn,ccd,r,e⟩:=id fr.env
 rw[e]
 refine wpAny_assign_Name ?_
 exact xO R.F R.N (fun h' F' N'=>hq h' _ _ (R.store (fr.ns▸hx.nd) hi hv F' N')) fr.kind hx.kind
theorem xU {cs:Scope}{es:List PySem.Expr}{sl:List Nat}{env:Env}(h:gb cs es sl):(assignEach es env).length=sl.length∧(assignEach es env).findIdx? (·.1)=none:=by
 induction h with
 | nil=>exact⟨rfl,rfl⟩
 | @cons x p es i is h1 h2 ih=>
  have e:assignEach (.Name x p::es) env=(false,assign (.Name x p) env)::assignEach es env:=rfl
  rw[e]
  refine⟨by simp[ih.1],?_⟩
  rw[List.findIdx?_cons]
  simp[ih.2]
theorem BH {c:Act}{A:Around}(fr:cE c cs) {E:Value→Shared→Prop}{es:List PySem.Expr}{sl:List Nat}(ht:gb cs es sl):∀ (us:List Value) (xs:List V) (s:Shared) (m:Str→Option Value) (W:aV) (σ:S) (Q:Unit→Shared→Prop),us.length=sl.length→
  Rel c s.heap m W σ→RVs c W us xs→(∀ h' m' tk,Rel c h' m' W ⟨c5 σ.env sl xs,σ.st⟩→Q () { s with heap:=h',toks:=tk })→
  wpAny (model prog c.w) A (assignInOrder ((assignEach es c.env).map (·.2)) us) Q E s:=by
 induction ht with
 | nil=>
  intro us xs s m W σ Q hl R hv hq
  have hu:us=[]:=List.eq_nil_of_length_eq_zero hl
  subst hu
  have hx:xs=[]:=List.eq_nil_of_length_eq_zero hv.1.symm
  subst hx
  exact wpAny_pure (hq s.heap m s.toks R)
 | @cons x p es i is h1 h2 ih=>
  intro us xs s m W σ Q hl R hv hq
  cases us with
  | nil=>simp at hl
  | cons u us=>
   cases xs with
   | nil=>have:=hv.1;simp at this
   | cons y xs=>
    show wpAny _ _ (do holding us (assign (.Name x p) c.env u);assignInOrder ((assignEach es c.env).map (·.2)) us) _ _ _
    refine wpAny_bind (wpAny_holding (j0 fr R h1 (hv.2 0 u y rfl rfl) fun h' m' tk R'=>?_))
    exact ih us xs { s with heap:=h',toks:=tk } m' W _ Q (by simpa using hl) R' ⟨by have:=hv.1;simpa using this,fun j a b ha hb=>hv.2 (j+1) a b (by simpa using ha) (by simpa using hb)⟩ fun h'' m'' tk' R''=>hq h'' m'' tk' R''
theorem Gw {c:Act}{A:Around}(rm:A.handled=none) (fr:cE c cs) {E:Value→Shared→Prop}{tgt:PySem.Expr}{sl:List Nat}(ht:Ja cs tgt sl) {s:Shared}{m W σ}(R:Rel c s.heap m W σ) {v:Value}{us:List Value}{xs:List V}
  (hu:vO c W tgt v us s.heap) (hv:RVs c W us xs) (hl:xs.length=sl.length) {Q:Unit→Shared→Prop}(hq:∀ h' m' tk,Rel c h' m' W ⟨c5 σ.env sl xs,σ.st⟩→Q () { s with heap:=h',toks:=tk }):
  wpAny (model prog c.w) A (assign tgt c.env v) Q E s:=by
 cases ht with
 | name hx=>
  cases hu with
  | name=>
   exact(xP hl).elim fun y e=>by
    subst e
    exact j0 fr R hx (hv.2 0 v y rfl rfl) hq
 | tup ht=>
  cases hu with
  | @tup _ _ _ _ _ _ T e hT=>
   subst e
   have h:=xU (env:=c.env) ht
   refine unpackN_ R.F R.N (hT.elim id fun h=>h.elim fun n hT=>⟨_,R.fz_at hT,rfl,n,rfl⟩) rm (by rw[h.1,← hl,← hv.1];simp) h.2 fun h' F' N'=>?_
   exact BH fr ht us xs { s with heap:=h' } m W σ Q (hv.1.trans hl) (R.at F' N') hv hq
def Lw (c:Act) (W0:aV) (fp:List Addr) (s:Shared) (Q:Flow→Shared→Prop) (E:Value→Shared→Prop) (sl:List Nat) (wb:W2) (rows:List (List V)) (i:Nat) (m:Str→Option Value) (news:Led):Prop:=
 ∀ G:Prop,(∀ W1 σ1,news=W1.nw→(∀ h,Fr c.b c.L h m→News c.b c.L h W1.nw→Rel c h m W1 σ1)→aJ W0 W1→(∀ b∈fp,b∈W1.nw.map (·.1)→b∈W0.nw.map (·.1))→aA c (RF c) s W1 Q E (ny sl wb (rows.drop i) σ1)→G)→G
theorem Lx {tgt:PySem.Expr}{body:List PySem.Stmt}{sl:List Nat}{wb:W2}(ht:Ja cs tgt sl) (hb:JS prog K D cs body wb) {c:Act}{A:Around}(rm:cA D c A) (fr:cE c cs) (kk:cg prog K c) {s:Shared}{W0:aV}{rows:List (List V)}{I:Addr}{fp wr:List Addr}{P Md:Nat→Value→Heap→Prop}{St:Nat→Heap→Prop}
  (IT:rx prog c A W0 tgt rows I fp wr P Md St) {i:Nat}{v:Value}{m₁:Str→Option Value}{W1:aV}{σ1:S}{h₁:Heap}{tk₁:Nat}{own0:Led}{Q Q0:Flow→Shared→Prop}{E E':Value→Shared→Prop}{j:Nat}(hlt:i<rows.length) (hP:P i v h₁) (R1:Rel c h₁ m₁ W1 σ1) (X1:aJ W0 W1) (hfr1:∀ b∈fp,b∈W1.nw.map (·.1)→b∈W0.nw.map (·.1))
  (hp:aA c (RF c) s W1 Q E (ny sl wb (rows.drop i) σ1)) (Nown:News c.b c.L h₁ own0) (hall:∀ b∈fp,c.b.get? b=none→∀ o,h₁.get? b=some o→(b,o)∈own0) (hst:St j h₁)
  (kn:∀ h' tk m' nw3,Fr c.b c.L h' m'→News c.b c.L h' nw3→Lw c W0 fp s Q E sl wb rows (i+1) m' nw3→(∀ b∈fp,∀ o,h₁.get? b=some o→h'.get? b=some o)→(∀ b∈fp,b∈nw3.map (·.1)→b∈W0.nw.map (·.1))→Q0 .next { s with heap:=h',toks:=tk }∧Q0 .cont { s with heap:=h',toks:=tk })
  (kb:∀ h' tk,Q .next { s with heap:=h',toks:=tk }→Q0 .brk { s with heap:=h',toks:=tk }) (kr:∀ v h' tk,Q (.ret v) { s with heap:=h',toks:=tk }→Q0 (.ret v) { s with heap:=h',toks:=tk }):
  wpAny (model prog c.w) A (assign tgt c.env v) (fun _ s₂=>wpAny (model prog c.w) A (execs body c.env) Q0 E' s₂) E' { s with heap:=h₁,toks:=tk₁ }:=by
 refine(IT.row i v h₁ hlt hP).elim fun us h=>h.elim fun xs hrow=>?_
 have hp1:aA c (RF c) s W1 Q E (ny sl wb (xs::rows.drop (i+1)) σ1):=by
  rw[← Option.some.inj ((List.getElem?_eq_getElem hlt).symm.trans hrow.1),← List.drop_eq_getElem_cons hlt];exact hp
 refine aA.iteP hp1 fun hlen hp1=>?_
 refine ES (W0:=W0) R1 Nown hfr1 (IT.there _ _ hst) hall fun own R2 X2 hcov hin=>?_
 refine Gw rm.handled fr ht (s:={ s with heap:=h₁,toks:=tk₁ }) R2 (hrow.2.2.ext (X1.trans X2)) (hrow.2.1.ext (X1.trans X2)) hlen fun h2 m2 tk2 R3=>?_
 refine hb c A rm fr kk { s with heap:=h2,toks:=tk2 } m2 _ _ R3 _ _ ?_
 refine aA.ext (s:=s) (h':=h2) (tk:=tk2) (aA.whR hp1 X2 (fun h' tk' m' W' σ' R' X' hp'=>?_) kb kr) (aJ.refl _)
 refine xT R1 X1 hfr1 IT.fpOk R2 X2 hcov hin R' X' fun nw3 R5 X5 hfr5 hk5 hkp=>?_
 exact kn h' tk' m' nw3 R5.F R5.N (fun G k=>k ⟨nw3,W'.fz,W'.rho,W'.frs⟩ σ' rfl (fun h F N=>R5.at F N) (X1.trans X5) hfr5 (hp'.ext (h':=s.heap) (tk:=s.toks) X5)) hk5 hfr5
theorem Qo {tgt it:PySem.Expr}{body:List PySem.Stmt}{pos:Pos}{wi sl wb}(hi:JI prog K D cs tgt it wi) (ht:Ja cs tgt sl) (hb:JS prog K D cs body wb) (hs:∀ env x,foldedSetIterable it env x=pure x):
  JX prog K D cs (.For tgt it body [] pos) (cZ wi sl wb):=fun c A rm fr kk s m W σ R Q E hp=>by
 have hL:c.env.locals=c.L:=fr.env.elim fun q0 h=>h.elim fun fn0 h=>h.elim fun cd0 h=>h.elim fun r0 ee=>by rw[ee]
 refine wpAny_For (hi c A rm fr kk s m W σ R _ E ?_) (hs _)
 unfold cZ at hp
 generalize wi σ=ri at hp
 cases ri with
 | no=>exact hp
 | exc C=>exact hp
 | ok rows σ0=>
  have hp:aA c (RF c) s W Q E (ny sl wb rows σ0):=hp
  intro I h0 tk0 m0 W0 fp wr P Md St R0 X0 IT hst
  refine ktu_loop (h₀:=c.b) (env:=c.env) (R:=fun r s'=>match r with | .ok f=>Q f s' | .error e=>cameBackBy (model prog c.w) A c.env E e s') IT.turns (by rw[hL];exact IT.noL) (fun b hb=>(IT.wrOk b hb).1) (fun p hp hm=>(IT.wrOk _ hm).2 (List.mem_map_of_mem (f:=(·.1)) hp)) hst (hL.symm▸R0.F) (hL.symm▸R0.N)
   (Lw c W0 fp s Q E sl wb rows) (fun G k=>k W0 σ0 rfl (fun h F N=>R0.at F N) (aJ.refl _) (fun b _ h=>h) (hp.ext (h':=s.heap) (tk:=s.toks) X0)) (fun i v m₁ news₁ h₁ tk₁ own hlt hP hJ hnw hown hget hall hst₁ F₁ N₁=>hJ _ fun W1 σ1 e hR1 X1 hfr1 hp1=>?_) fun h' tk m' news' F' N' hnw hJ=>hJ _ fun W1 σ1 e hR1 X1 hfr1 hp1=>?_
  ·subst e
   rw[hL]at F₁ N₁
   have Nown:News c.b c.L h₁ own:=fun p hp=>N₁ p (List.mem_append_left _ hp)
   refine Lx (s:=s) ht hb rm fr kk IT hlt hP (hR1 h₁ F₁ fun p hp=>N₁ p (List.mem_append_right _ hp)) X1 hfr1 hp1 Nown hall hst₁ (fun h' tk m' nw3 F N J hk5 hfr5=>?_) (fun h' tk q=>.brk q) fun v h' tk q=>.ret q
   have q:LoopStepU c.b c.env.locals wr own (Lw c W0 fp s Q E sl wb rows (i+1)) { s with heap:=h₁,toks:=tk₁ } .next { s with heap:=h',toks:=tk }:=hL.symm▸.intro F (fun p hp=>(List.mem_append.mp hp).elim (fun h=>⟨hk5 _ (hown p h) _ (hget p h),(Nown p h).2⟩) (N p)) (fun p hp hw=>(IT.wrOk _ hw).2 (hfr5 _ (IT.turns.sub _ hw) (List.mem_map_of_mem (f:=(·.1)) hp))) J
   exact⟨.next q,.cont q⟩
  ·subst e
   rw[hL]at F' N'
   rw[List.drop_eq_nil_of_le (Nat.le_refl _)]at hp1
   exact hp1 _ h' tk m' W1 (hR1 h' F' N') (aJ.refl _) .next
theorem Vh {es it:_}{k p}{body:List PySem.Stmt}{pos:Pos}{wi sl wb}(hi:JI prog K D cs (.Tuple es k p) it wi) (ht:gb cs es sl) (hb:JS prog K D cs body wb) (hs:∀ env x,foldedSetIterable it env x=pure x):JX prog K D cs (.For (.Tuple es k p) it body [] pos) (cZ wi sl wb):=Qo hi (.tup ht) hb hs
end
section
variable {prog:Program}{K:World→Frag}{D:Nat}{cs:Scope}
structure pF (K:World→Frag) (cs:Scope) (x:Str) (v:Value):Prop where
 kind:cs.names.lookup x=some .globalImplicit
 at_:∀ w,nsIn (K w) mainGlobals x=some Option.none
 boot:bootBuiltins x=some v
 nn:x≠"__name__"
 nodebug:(x==("__debug__":Str))=false
theorem lH {x v p}(hx:pF K cs x v) {c:Act}{A:Around}(fr:cE c cs) (k:cg prog K c) {s:Shared}{m W σ}(R:Rel c s.heap m W σ) {Q:Value→Shared→Prop}{E}(h:Q v s):wpAny (model prog c.w) A (eval (.Name x p) c.env) Q E s:=by
 obtain⟨q,fn,ccd,r,e⟩:=fr.env
 obtain⟨p',loose',mg,mb,T⟩:=k.T
 rw[e]
 exact Name_function_global fr.kind hx.kind (loadGlobal_builtin (env:=envG q cs c.L fn ccd r c.cl) (T.g.keeps R.F.keep) (mg_none_of k.X T.g (hx.at_ c.w)) (T.b.keeps R.F.keep) ((T.builtins x hx.nn).trans hx.boot) h) hx.nodebug
def JB (prog:Program) (K:World→Frag) (D:Nat) (v:Value) (f:List V→S→Rs V):Prop:=
 ∀ (c:Act) (A:Around),cA D c A→cg prog K c→∀ s m W σ,Rel c s.heap m W σ→∀ vs xs,RVs c W vs xs→∀ Q E,aA c (RV c) s W Q E (f xs σ)→wpAny (model prog c.w) A (call v vs) Q E s
def Qp (v:Value):Prop:=(∃ id,v=.builtin id)∨∃ T,v=.type T
theorem gx {M:Model}{A:Around}{E:Value→Shared→Prop}{s:Shared}{pos:Pos}{v:Value}{e:PySem.Expr}{es:List PySem.Expr}{env:Env}{first:List Value}{Q:Value→Shared→Prop}(hv:Qp v)
  (he:starEach (e::es) env=(false,eval e env)::starEach es env) (hpl:(backTo pos (starEach es env)).any (·.1)=false)
  (h:wpAny M A (spliced (backTo pos (starEach (e::es) env))) (fun vs s₁=>wpAny M A (call v (first++vs)) Q E s₁) E s):wpAny M A (callWith pos v first (backTo pos (starEach (e::es) env)) []) Q E s:=by
 rw[he]at h ⊢
 rcases hv with⟨id,rfl⟩ | ⟨T,rfl⟩
 ·exact Calls.callWith_builtin (by show(false || (backTo pos (starEach es env)).any (·.1))=false;rw[hpl];rfl) (Calls.evalArgs_plain h)
 ·exact PyProof.Rows.callWith_type (by show(false || (backTo pos (starEach es env)).any (·.1))=false;rw[hpl];rfl) (Calls.evalArgs_plain h)
noncomputable def aF (f:List V→S→Rs V) (wa:S→Rs (List V)):W1:=fun σ=>(wa σ).bind f
theorem Qq {x v p args pos wa f e es}(hx:pF K cs x v) (hv:Qp v) (hf:JB prog K D v f) (hargs:args=e::es) (ha:JL prog K D cs args wa) (he:∀ env,starEach (e::es) env=(false,eval e env)::starEach es env):
  JE prog K D cs (.Call (.Name x p) args [] pos) (aF f wa):=fun c A rm fr k s m W σ R Q E hp=>by
 subst hargs
 refine Call_ (lH hx fr k R ?_)
 refine gx hv (he _) (dF (ha.1 _ _) (he _)) (ha.2 c A rm fr k s m W σ R pos _ E (aA.bind hp fun vs xs σ1 h1 tk1 m1 W1 R1 X1 ra p1=>?_))
 exact hf c A rm k _ m1 W1 σ1 R1 vs xs ra Q E p1
structure pG (prog:Program) (c:Act) (A:Around) (W:aV) (rows:List V) (I:Addr) (fp wr:List Addr) (P:Nat→Value→Prop) (St:Nat→Heap→Prop):Prop where
 walks:Walks prog c.w A I fp wr rows.length P St
 go:∀ tgt i v (s:Shared) (Q:Unit→Shared→Prop) (E:Value→Shared→Prop),St i s.heap→Q () s→wpAny (model prog c.w) A (letOwnedTupleGo tgt (.ref I) v) Q E s
 noL:c.L∉fp
 wrOk:∀ b∈wr,c.b.get? b=none∧b∉W.nw.map (·.1)
 fpOk:∀ b∈fp,b∈W.nw.map (·.1)→∃ o,(b,o)∈W.fz
 there:∀ i h,St i h→∀ b∈fp,∃ o,h.get? b=some o
 row:∀ i v,i<rows.length→P i v→∃ x,rows[i]?=some x∧RV c W v x
noncomputable def df (c:Act) (A:Around) (prog:Program) (s:Shared) (W:aV) (Q:Value→Shared→Prop) (E:Value→Shared→Prop):Rs (List V)→Prop
 | .ok rows σ'=>∀ I h' tk m' W' fp wr P St,Rel c h' m' W' σ'→aJ W W'→pG prog c A W' rows I fp wr P St→St 0 h'→Q (.ref I) { s with heap:=h',toks:=tk }
 | .exc C=>∀ e h' tk,dE c W C e h'→E (.ref e) { s with heap:=h',toks:=tk }
 | .no=>False
def ze (prog:Program) (K:World→Frag) (D:Nat) (cs:Scope) (e:PySem.Expr) (w:S→Rs (List V)):Prop:=
 ∀ (c:Act) (A:Around),cA D c A→cE c cs→cg prog K c→∀ s m W σ,Rel c s.heap m W σ→∀ Q E,df c A prog s W Q E (w σ)→
  wpAny (model prog c.w) A (eval e c.env) (fun xv s₁=>wpAny (model prog c.w) A (pyIter xv) Q E s₁) E s
theorem pG.name {c:Act}{A:Around}{W:aV}{rows:List V}{I fp wr P St}{x:Str}{p:Pos}(h:pG prog c A W rows I fp wr P St):
  rx prog c A W (.Name x p) (rows.map fun x=>[x]) I fp wr (fun i v _=>P i v) (fun i v h=>P i v∧St (i+1) h) St:=
 ⟨by rw[List.length_map];exact KTurns.ofWalks h.walks (h.go _),h.noL,h.wrOk,h.fpOk,h.there,fun i v hh hi hP=>by
  rw[List.length_map]at hi
  obtain⟨x,h1,h2⟩:=h.row i v hi hP
  exact⟨[v],[x],by rw[List.getElem?_map,h1];rfl,VRs.cons h2 VRs.nil,.name⟩⟩
noncomputable def dr (w:S→Rs (List V)):S→Rs (List (List V)):=fun σ=>(w σ).bind fun rows σ1=>.ok (rows.map fun x=>[x]) σ1
theorem Qr {x p e w}(h:ze prog K D cs e w):JI prog K D cs (.Name x p) e (dr w):=fun c A rm fr k s m W σ R Q E hp=>by
 refine h c A rm fr k s m W σ R Q E ?_
 unfold dr at hp
 generalize w σ=r at hp
 cases r with
 | no=>exact hp
 | exc C=>exact hp
 | ok rows σ'=>exact fun I h' tk m' W' fp wr P St R' X IT st=>hp I h' tk m' W' fp wr _ _ St R' X IT.name st
def pH:List V→Option (List (List V))
 | []=>some []
 | x::xs=>match dG x with
  | some ys=>match pH xs with
   | some r=>some (ys::r)
   | Option.none=>Option.none
  | Option.none=>Option.none
theorem zf:∀ {xs:List V}{r:List (List V)},pH xs=some r→xs.length=r.length∧∀ (i:Nat) x,xs[i]?=some x→∃ ys,r[i]?=some ys∧dG x=some ys
 | [],r,h=>by cases h;exact⟨rfl,fun i x h=>by simp at h⟩
 | x::xs,r,h=>by
  unfold pH at h
  split at h
  ·rename_i y hy
   split at h
   ·rename_i zs hz
    cases h
    obtain⟨h1,h2⟩:=zf hz
    refine⟨by simp[h1],fun i z hi=>?_⟩
    cases i with
    | zero=>simp at hi;subst hi;exact⟨y,rfl,hy⟩
    | succ i=>exact h2 i z (by simpa using hi)
   ·cases h
  ·cases h
noncomputable def ry {β:Type}(o:Option β) (σ:S):Rs β:=match o with
 | some r=>.ok r σ
 | Option.none=>.no
def vP (w:S→Rs (List V)):S→Rs (List (List V)):=fun σ=>(w σ).bind fun rows σ1=>ry (pH rows) σ1
theorem OO {x:V}{xs:List V}(e:dG x=some xs):x.un=.tup xs:=by
 have e:(match x.un with | .tup xs=>some xs | _=>Option.none)=some xs:=e
 generalize x.un=y at e
 exact V.casesOn (motive_1:=fun y=>(match y with | .tup xs=>some xs | _=>Option.none)=some xs→y=.tup xs) y ay ay (fun _=>ay) (fun _=>ay) (fun _=>ay) (fun _=>ay) (fun _=>ay) (fun _=>ay) (fun _ _=>ay) (fun _=>ay) (fun _ e=>congrArg V.tup (Option.some.inj e)) (fun _=>ay) (fun _ _=>ay) e
theorem Qs {c:Act}{W:aV}{v:Value}{x:V}(hv:RV c W v x) {xs:List V}(e:dG x=some xs):∃ us:List Value,RVs c W us xs∧∃ T,v=.ref T∧∃ n,FZ c.b W.fz T (tupOf us n):=by
 have q:=hv.un
 rw[OO e]at q
 exact q.inv.elim fun a h=>h.elim fun vs h=>h.elim fun n g=>⟨vs,g.2.2,a,g.1,n,g.2.1⟩
theorem Vi {es k p e w}(h:ze prog K D cs e w):JI prog K D cs (.Tuple es k p) e (vP w):=fun c A rm fr kk s m W σ R Q E hp=>by
 refine h c A rm fr kk s m W σ R Q E ?_
 unfold vP at hp
 generalize w σ=r at hp
 cases r with
 | no=>exact hp
 | exc C=>exact hp
 | ok rows σ'=>
  intro I h' tk m' W' fp wr P St R' X IT st
  have hp:nx c A prog (.Tuple es k p) s W Q E (ry (pH rows) σ'):=hp
  cases hrs:pH rows with
  | none=>rw[hrs]at hp;exact hp.elim
  | some rs=>
   rw[hrs]at hp
   have q:=zf hrs
   exact hp I h' tk m' W' fp wr (fun i v _=>P i v) (fun i v h=>P i v∧St (i+1) h) St R' X ⟨q.1▸KTurns.ofWalks IT.walks (IT.go _),IT.noL,IT.wrOk,IT.fpOk,IT.there,fun i v hh hi hP=>
    (IT.row i v (q.1▸hi) hP).elim fun x g=>(q.2 i x g.1).elim fun ys g'=>(Qs g.2 g'.2).elim fun us h=>⟨us,ys,g'.1,h.1,h.2.elim fun T g=>.tup g.1 (.inr g.2)⟩⟩ st
theorem Rel.grow {c:Act}{h h':Heap}{m:Str→Option Value}{W:aV}{σ:S}(R:Rel c h m W σ) (hk:∀ b o,h.get? b=some o→h'.get? b=some o):Rel c h' m W σ:=
 R.at (R.F.keeps hk) (R.N.grown hk)
noncomputable def lW (x:V):Option (List V):=match x.un with
 | .lst xs=>some xs
 | .tup xs=>some xs
 | _=>Option.none
theorem OP {x:V}{xs:List V}(e:lW x=some xs):x.un=.lst xs∨x.un=.tup xs:=by
 have e:(match x.un with | .lst xs=>some xs | .tup xs=>some xs | _=>Option.none)=some xs:=e
 generalize x.un=y at e
 exact V.casesOn (motive_1:=fun y=>(match y with | .lst xs=>some xs | .tup xs=>some xs | _=>Option.none)=some xs→y=.lst xs∨y=.tup xs) y ay ay (fun _=>ay) (fun _=>ay) (fun _=>ay) (fun _=>ay) (fun _=>ay) (fun _=>ay) (fun _ _=>ay)
  (fun _ e=>.inl (congrArg V.lst (Option.some.inj e))) (fun _ e=>.inr (congrArg V.tup (Option.some.inj e))) (fun _=>ay) (fun _ _=>ay) e
theorem RV.seq {c:Act}{W:aV}{v:Value}{x:V}{xs:List V}(hv:RV c W v x) (e:lW x=some xs) {G:Prop}(kl:∀ a vs n,v=.ref a→FZ c.b W.fz a (lstOf vs n)→RVs c W vs xs→G) (kt:∀ a vs n,v=.ref a→FZ c.b W.fz a (tupOf vs n)→RVs c W vs xs→G):G:=
 (OP e).elim (fun e=>(e▸hv.un:RV c W v (.lst xs)).inv.elim fun a h=>h.elim fun vs h=>h.elim fun n g=>kl a vs n g.1 g.2.1 g.2.2) fun e=>(e▸hv.un:RV c W v (.tup xs)).inv.elim fun a h=>h.elim fun vs h=>h.elim fun n g=>kt a vs n g.1 g.2.1 g.2.2
def cQ (w:W1):S→Rs (List V):=fun σ=>(w σ).bind fun x σ1=>ry (lW x) σ1
theorem Rel.lt {c:Act}{h:Heap}{m:Str→Option Value}{W:aV}{σ:S}(R:Rel c h m W σ):∀ a∈W.nw.map (·.1),a<h.objs.size:=fun a ha=>by
 obtain⟨p,hp,rfl⟩:=List.mem_map.mp ha
 exact Heap.lt_size (R.N p hp).1
theorem pI {c:Act}{h:Heap}{m:Str→Option Value}{W:aV}{σ:S}(R:Rel c h m W σ) {a:Addr}{o:Obj}(hf:FZ c.b W.fz a o):(a∈W.nw.map (·.1)→∃ o,(a,o)∈W.fz)∧a≠c.L:=by
 rcases hf with h1 | h1
 ·refine⟨fun hm=>?_,fun e=>?_⟩
  ·obtain⟨p,hp,e⟩:=List.mem_map.mp hm
   have:=(R.N p hp).2.2
   rw[show p.1=a from e,h1]at this
   cases this
  ·have:=R.F.above
   rw[← e]at this
   exact absurd (Heap.lt_size h1) (Nat.not_lt.mpr this)
 ·exact⟨fun _=>⟨o,h1⟩,(R.N _ (R.fz _ h1)).2.1⟩
theorem Jb {c:Act}{A:Around}{h1:Heap}{m1:Str→Option Value}{W1:aV}{σ1:S}{a:Addr}{o:Obj}{vs:List Value}{xs:List V}{P:Nat→Value→Prop}{St:Nat→Heap→Prop}(R1:Rel c h1 m1 W1 σ1) (hf:FZ c.b W1.fz a o) (hvs:RVs c W1 vs xs) (hP:∀ i v,P i v→vs.toArray[i]?=some v)
  (hSt:∀ i h,St i h→(∃ o,h.get? h1.objs.size=some o)∧∃ o,h.get? a=some o) (hw:Walks prog c.w A h1.objs.size [h1.objs.size,a] [h1.objs.size] vs.toArray.size P St)
  (go:∀ tgt i v (s:Shared) (Q:Unit→Shared→Prop) (E:Value→Shared→Prop),St i s.heap→Q () s→wpAny (model prog c.w) A (letOwnedTupleGo tgt (.ref h1.objs.size) v) Q E s):pG prog c A W1 xs h1.objs.size [h1.objs.size,a] [h1.objs.size] P St:=
 have hI:(h1.objs.size:Nat)∉W1.nw.map (·.1):=fun hm=>absurd (R1.lt _ hm) (Nat.lt_irrefl _)
 have hb:c.b.get? h1.objs.size=none:=Option.eq_none_iff_forall_ne_some.mpr fun o q=>absurd (Heap.lt_size (R1.F.keep _ _ q)) (Nat.lt_irrefl _)
 have hL:c.L≠h1.objs.size:=Nat.ne_of_lt R1.F.ns.lt
 have z:=pI R1 hf
 have two:∀ {b}{p:Addr→Prop},p h1.objs.size→p a→b∈[h1.objs.size,a]→p b:=fun h h' hb=>(List.mem_cons.mp hb).elim (fun e=>e▸h) fun hb=>List.mem_singleton.mp hb▸h'
 ⟨(show vs.toArray.size=xs.length from hvs.1)▸hw,go,fun hm=>two (p:=fun b=>c.L=b→False) hL (fun e=>z.2 e.symm) hm rfl,fun b hb'=>List.mem_singleton.mp hb'▸⟨hb,hI⟩,
  fun b hb'=>two (p:=fun b=>b∈W1.nw.map (·.1)→∃ o,(b,o)∈W1.fz) (fun hm=>absurd hm hI) z.1 hb',fun i h st b hb'=>two (p:=fun b=>∃ o,h.get? b=some o) (hSt i h st).1 (hSt i h st).2 hb',
  fun i v hi hp=>⟨_,List.getElem?_eq_getElem hi,hvs.2 i v _ (List.getElem?_toArray.symm.trans (hP i v hp)) (List.getElem?_eq_getElem hi)⟩⟩
theorem Vj {e w}(h:JE prog K D cs e w):ze prog K D cs e (cQ w):=fun c A rm fr k s m W σ R Q E hp=>by
 refine h c A rm fr k s m W σ R _ E ?_
 unfold cQ at hp
 generalize w σ=r at hp
 cases r with
 | no=>exact hp
 | exc C=>exact hp
 | ok x σ1=>
  intro v h1 tk1 m1 W1 R1 X1 hv
  have hp:df c A prog s W Q E (ry (lW x) σ1):=hp
  revert hp
  exact VR.rec (motive:=fun v x _=>df c A prog s W Q E (ry (lW x) σ1)→wpAny (model prog c.w) A (pyIter v) Q E { s with heap:=h1,toks:=tk1 }) False.elim (fun _=>False.elim) (fun _ _=>False.elim) (fun _ _=>False.elim) (fun _ _=>False.elim) (fun _=>False.elim) (fun _=>False.elim)
   (fun {a vs n xs} f1 f2 f3 _ hp=>
    have hol:=R1.fz_at f1
    have hl:h1.IsTuple a vs.toArray:=⟨_,hol,rfl,n,rfl⟩
    wpAny_pyIter_tuple hl (hp h1.objs.size (h1.push _) tk1 m1 W1 [h1.objs.size,a] [h1.objs.size] (fun i v=>vs.toArray[i]?=some v) (fun i h=>h.IsTupleIter h1.objs.size a i∧h.IsTuple a vs.toArray) (R1.grow fun b o e=>Heap.get?_push_of_some _ e) X1
     (Jb R1 f1 ⟨f2,f3⟩ (fun _ _ h=>h) (fun i h st=>⟨st.1.imp fun o h=>h.1,st.2.imp fun o h=>h.1⟩) (Walks.tuple rm.handled h1.objs.size a (Nat.ne_of_lt (Heap.lt_size hol)) vs.toArray) fun tgt i v s' Q' E' st q=>letGo_tupleiter st.1 q) ⟨⟨_,Heap.get?_push_size _ rfl,rfl,rfl⟩,hl.at fun o e=>Heap.get?_push_of_some _ e⟩))
   (fun {a vs n xs} f1 f2 f3 _ hp=>
    have hol:=R1.fz_at f1
    have hl:h1.IsList a vs.toArray:=⟨_,hol,rfl,n,rfl⟩
    wpAny_pyIter_list hl (hp h1.objs.size (h1.push _) tk1 m1 W1 [h1.objs.size,a] [h1.objs.size] (fun i v=>vs.toArray[i]?=some v) (fun i h=>h.IsListIter h1.objs.size a i∧h.IsList a vs.toArray) (R1.grow fun b o e=>Heap.get?_push_of_some _ e) X1
     (Jb R1 f1 ⟨f2,f3⟩ (fun _ _ h=>h) (fun i h st=>⟨st.1.imp fun o h=>h.1,st.2.imp fun o h=>h.1⟩) (Walks.list rm.handled h1.objs.size a (Nat.ne_of_lt (Heap.lt_size hol)) vs.toArray) fun tgt i v s' Q' E' st q=>letGo_listiter st.1 q) ⟨⟨_,Heap.get?_push_size _ rfl,rfl,rfl⟩,hl.at fun o e=>Heap.get?_push_of_some _ e⟩))
   (fun _ _ _ _ _ _=>False.elim) (fun _ _ _ _ _ _ _ _ _=>False.elim) (fun _ ih hp=>ih hp) hv
theorem DO {w:World}{A:Around}{E:Value→Shared→Prop}{target:PySem.Expr}{I:Addr}{x l st:Int}{v:Value}{Q':Unit→Shared→Prop}{s':Shared}(hit:IsRangeIter s'.heap I x l st) (h:Q' () s'):
    wpAny (model prog w) A (letOwnedTupleGo target (.ref I) v) Q' E s':=by
  unfold IsRangeIter at hit
  unfold letOwnedTupleGo
  cases target <;> first
    | exact wpAny_pure h
    | (cases v <;> first
        | exact wpAny_pure h
        | (refine wpAny_bind (wpAny_load hit ?_)
           exact wpAny_pure h))
noncomputable def rz (a c:Int) (n:Nat):List V:=(List.range n).map fun(i:Nat)=>V.int (a+(i:Int) * c)
theorem Ly {c:Act}{A:Around}(rm:A.handled=none) {s:Shared}{m W σ}(R:Rel c s.heap m W σ) {a b d:Int}{t u v:Tok}{r:Addr}(hr:IsRange s.heap r a b d t u v) (hs:Builtin.Range.small a b d=true) {n:Nat}(hn:Builtin.Range.rangeSize a b d=(n:Int)) {s0:Shared}{W0:aV}{Q:Value→Shared→Prop}{E:Value→Shared→Prop}
  (hs0:∃ h tk,s={ s0 with heap:=h,toks:=tk }) (X:aJ W0 W) (hp:df c A prog s0 W0 Q E (.ok (rz a d n) σ)):wpAny (model prog c.w) A (pyIter (.ref r)) Q E s:=by
 obtain⟨h,tk,rfl⟩:=hs0
 refine wpAny_pyIter_range hr hs ?_
 rw[hn]
 have hI:(h.objs.size:Nat)∉W.nw.map (·.1):=fun hm=>absurd (R.lt _ hm) (Nat.lt_irrefl _)
 have hb:c.b.get? h.objs.size=none:=by
  cases q:c.b.get? h.objs.size with
  | none=>rfl
  | some o=>exact absurd (Heap.lt_size (R.F.keep _ _ q)) (Nat.lt_irrefl _)
 have hL:c.L≠h.objs.size:=Nat.ne_of_lt R.F.ns.lt
 refine hp h.objs.size (h.push _) tk m W [h.objs.size] [h.objs.size] (fun i v=>∃ t,v=.int (a+i * d) t) (fun i h'=>IsRangeIter h' h.objs.size (a+(i:Nat) * d) ((n:Int) - (i:Nat)) d) (R.grow fun b o e=>Heap.get?_push_of_some _ e) X
  ⟨by simp only[rz,List.length_map,List.length_range];exact Walks.range rm h.objs.size a d n,fun tgt i v s' Q' E' st q=>?_,?_,?_,?_,?_,?_⟩ (by show IsRangeIter _ _ _ _ _;simpa using Heap.get?_push_size _ rfl)
 ·exact DO st q
 ·simp only[List.mem_cons,List.not_mem_nil,or_false];exact hL
 ·intro b hb';rw[List.mem_singleton.mp hb'];exact⟨hb,hI⟩
 ·intro b hb' hm;rw[List.mem_singleton.mp hb']at hm;exact absurd hm hI
 ·intro i h' st b hb';rw[List.mem_singleton.mp hb'];exact⟨_,st⟩
 ·intro i v hi hP
  obtain⟨t,rfl⟩:=hP
  refine⟨.int (a+i * d),?_,.int _ _⟩
  simp only[rz,List.length_map,List.length_range]at hi
  simp[rz,hi]
end
section
variable {prog:Program}{K:World→Frag}{D:Nat}{cs:Scope}
def gc (a b c:Int) (σ:S):Rs (List V):=
 if Builtin.Range.small a b c=true∧c≠0∧Builtin.divisionGoesByPylong (b - a) c=false∧0≤Builtin.Range.rangeSize a b c then .ok (rz a c (Builtin.Range.rangeSize a b c).toNat) σ else .no
def kR (xs:List V) (σ1:S):Rs (List V):=match xs with
 | [x]=>jx x.un fun n=>gc 0 n 1 σ1
 | [x,y]=>jx x.un fun a=>jx y.un fun b=>gc a b 1 σ1
 | [x,y,z]=>jx x.un fun a=>jx y.un fun b=>jx z.un fun c=>gc a b c σ1
 | _=>.no
def eV (wa:S→Rs (List V)):S→Rs (List V):=fun σ=>(wa σ).bind kR
theorem df.bind {c:Act}{A:Around}{s:Shared}{W:aV}{Q:Value→Shared→Prop}{E:Value→Shared→Prop}{α β:Type}{rel:aV→α→β→Prop}{r:Rs β}{g:β→S→Rs (List V)}{Q0:α→Shared→Prop}(p:df c A prog s W Q E (r.bind g))
  (k:∀ a y σ' h' tk m' W',Rel c h' m' W' σ'→aJ W W'→rel W' a y→df c A prog { s with heap:=h',toks:=tk } W' Q E (g y σ')→Q0 a { s with heap:=h',toks:=tk }):aA c rel s W Q0 E r:=by
 cases r with
 | ok y σ=>
  intro a h' tk m' W' R X ra
  refine k a y σ h' tk m' W' R X ra ?_
  have p':df c A prog s W Q E (g y σ):=p
  generalize g y σ=q at p'
  cases q with
  | ok rows σ'=>exact fun I h'' tk' m'' W'' fp wr P St R'' X'' IT st=>p' I h'' tk' m'' W'' fp wr P St R'' (X.trans X'') IT st
  | exc C=>exact fun e h'' tk' t=>p' e h'' tk' (t.ext X)
  | no=>exact p'
 | exc C=>exact p
 | no=>exact p
theorem VRs.get {P F rho vs xs}(h:VRs P F rho vs xs) {i:Nat}{v:Value}{x:V}(a:vs[i]?=some v) (b:xs[i]?=some x):VR P F rho v x:=h.2 i v x a b
theorem OQ {x v p args pos wa e es}(hx:pF K cs x v) (hv:v=.type "range") (hargs:args=e::es) (ha:JL prog K D cs args wa) (he:∀ env,starEach (e::es) env=(false,eval e env)::starEach es env):
  ze prog K D cs (.Call (.Name x p) args [] pos) (eV wa):=fun c A rm fr k s m W σ R Q E hp=>by
 subst hargs hv
 refine Call_ (lH hx fr k R ?_)
 refine gx (.inr ⟨_,rfl⟩) (he _) (dF (ha.1 _ _) (he _)) (ha.2 c A rm fr k s m W σ R pos _ E (df.bind hp fun vs xs σ1 h1 tk1 m1 W1 R1 X1 ra p1=>?_))
 have go:∀ (a b d:Int) (t u v:Tok) tk2,df c A prog { s with heap:=h1,toks:=tk1 } W1 Q E (gc a b d σ1)→
   wpAny (model prog c.w) A (pyIter (.ref h1.objs.size)) Q E { s with heap:=h1.push { cls:=.type "range",data:=.fields #[.int a t,.int b u,.int d v] },toks:=tk2 }:=by
  intro a b d t u v tk2 p2
  unfold gc at p2
  split at p2
  ·rename_i hc
   refine Ly (s0:={ s with heap:=h1,toks:=tk1 }) (W0:=W1) rm.handled (R1.grow fun b o e=>Heap.get?_push_of_some _ e) (Heap.get?_push_size _ rfl) hc.1 (Int.toNat_of_nonneg hc.2.2.2).symm ⟨_,_,rfl⟩ (aJ.refl _) p2
  ·exact p2.elim
 show wpAny _ _ (call (.type "range") ([]++vs)) _ _ _
 rcases xs with _ | ⟨x1,_ | ⟨x2,_ | ⟨x3,_ | ⟨x4,xs⟩⟩⟩⟩
 ·exact p1.elim
 ·obtain⟨v1,rfl⟩:∃ v,vs=[v]:=xP ra.1
  refine pC (P:=df c A prog _ W1 Q E) p1 id fun n hn p1=>?_
  obtain⟨t,rfl⟩:=(ra.get (i:=0) rfl rfl).int_e hn
  exact call_range_1 (go 0 n 1 _ _ _ _ p1)
 ·obtain⟨v1,v2,rfl⟩:∃ v u,vs=[v,u]:=uY ra.1
  refine pC (P:=df c A prog _ W1 Q E) p1 id fun a ha p1=>pC (P:=df c A prog _ W1 Q E) p1 id fun b hb p1=>?_
  obtain⟨t,rfl⟩:=(ra.get (i:=0) rfl rfl).int_e ha
  obtain⟨u,rfl⟩:=(ra.get (i:=1) rfl rfl).int_e hb
  exact call_range_2 (go a b 1 _ _ _ _ p1)
 ·obtain⟨v1,v2,v3,rfl⟩:∃ v u z,vs=[v,u,z]:=Qi ra.1
  refine pC (P:=df c A prog _ W1 Q E) p1 id fun a ha p1=>pC (P:=df c A prog _ W1 Q E) p1 id fun b hb p1=>pC (P:=df c A prog _ W1 Q E) p1 id fun d hd p1=>?_
  obtain⟨t,rfl⟩:=(ra.get (i:=0) rfl rfl).int_e ha
  obtain⟨u,rfl⟩:=(ra.get (i:=1) rfl rfl).int_e hb
  obtain⟨z,rfl⟩:=(ra.get (i:=2) rfl rfl).int_e hd
  have hc:d≠0∧Builtin.divisionGoesByPylong (b - a) d=false:=by
   unfold gc at p1
   split at p1
   ·rename_i hc;exact⟨hc.2.1,hc.2.2.1⟩
   ·exact p1.elim
  exact call_range_3 hc.1 (go a b d _ _ _ _ p1) (.inl hc.2)
 ·exact p1.elim
def xV (w:W1):S→Rs (List V):=fun σ=>(w σ).bind fun x σ1=>ML x.un fun b=>.ok (b.map fun o=>.int o.toNat) σ1
theorem vQ {w:World}{A:Around}{E:Value→Shared→Prop}{target:PySem.Expr}{I:Addr}{b:Array UInt8}{t:Tok}{i:Nat}{v:Value}{Q':Unit→Shared→Prop}{s':Shared}(hit:KBw.IsBytesIter s'.heap I b t i) (h:Q' () s'):
    wpAny (model prog w) A (letOwnedTupleGo target (.ref I) v) Q' E s':=by
  obtain⟨o,ho,hc,hd⟩:=hit
  unfold letOwnedTupleGo
  cases target <;> first
    | exact wpAny_pure h
    | (cases v <;> first
        | exact wpAny_pure h
        | (refine wpAny_bind (wpAny_load ho ?_)
           rw[hc,hd]
           exact wpAny_pure h))
theorem OS {e w}(h:JE prog K D cs e w):ze prog K D cs e (xV w):=fun c A rm fr k s m W σ R Q E hp=>by
 refine h c A rm fr k s m W σ R _ E (df.bind hp fun v x σ1 h1 tk1 m1 W1 R1 X1 hv p1=>?_)
 have hv':=hv.un
 have hI:(h1.objs.size:Nat)∉W1.nw.map (·.1):=fun hm=>absurd (R1.lt _ hm) (Nat.lt_irrefl _)
 have hb:c.b.get? h1.objs.size=none:=by
  cases q:c.b.get? h1.objs.size with
  | none=>rfl
  | some o=>exact absurd (Heap.lt_size (R1.F.keep _ _ q)) (Nat.lt_irrefl _)
 have hL:c.L≠h1.objs.size:=Nat.ne_of_lt R1.F.ns.lt
 refine MR (P:=df c A prog _ W1 Q E) p1 id fun b hb' p1=>?_
 obtain⟨bb,t,rfl,rfl⟩:=(hb'▸hv':RV c W1 v (.bytes b)).inv
 refine KBw.pyIter_bytes ?_
 refine p1 h1.objs.size (h1.push _) tk1 m1 W1 [h1.objs.size] [h1.objs.size] (fun i v=>∃ c u,bb[i]?=some c∧v=.int (c.toNat:Int) u) (fun i h=>KBw.IsBytesIter h h1.objs.size bb t i) (R1.grow fun b o e=>Heap.get?_push_of_some _ e) (aJ.refl _)
  ⟨by simp only[List.length_map,Array.length_toList];exact KBw.walks rm.handled h1.objs.size bb t,fun tgt i v s' Q' E' st q=>vQ st q,?_,?_,?_,?_,?_⟩ ⟨_,Heap.get?_push_size _ rfl,rfl,rfl⟩
 ·simp only[List.mem_cons,List.not_mem_nil,or_false];exact hL
 ·intro b hb';rw[List.mem_singleton.mp hb'];exact⟨hb,hI⟩
 ·intro b hb' hm;rw[List.mem_singleton.mp hb']at hm;exact absurd hm hI
 ·intro i h' st b hb';rw[List.mem_singleton.mp hb'];obtain⟨o,ho,_⟩:=st;exact⟨o,ho⟩
 ·intro i v hi hP
  obtain⟨c,u,hc,rfl⟩:=hP
  exact⟨.int c.toNat,by rw[List.getElem?_map,Array.getElem?_toList,hc];rfl,.int _ _⟩
def ZK (k b:W2):Rs Bool→Rs Fl
 | .ok true σ=>Wc k (b σ)
 | .ok false σ=>.ok .next σ
 | _=>.no
def dp (t:S→Rs Bool) (b:W2):Nat→W2
 | 0=>fun _=>.no
 | n+1=>fun σ=>ZK (dp t b n) b (t σ)
theorem aA.whT {c:Act}{s:Shared}{W:aV}{E E':Value→Shared→Prop}{Q:Flow→Shared→Prop}{Q0:Bool→Shared→Prop}{k b:W2}{r:Rs Bool}{h0:Heap}{tk0:Nat}(hp:aA c (RF c) s W Q E (Mine.ZK k b r)) (kt:∀ h' tk m' W' σ',Rel c h' m' W' σ'→aJ W W'→aA c (RF c) s W Q E (Mine.Wc k (b σ'))→Q0 true { s with heap:=h',toks:=tk })
  (kf:∀ h' tk,Q .next { s with heap:=h',toks:=tk }→Q0 false { s with heap:=h',toks:=tk }):aA c (fun _ a x=>a=x) { s with heap:=h0,toks:=tk0 } W Q0 E' r:=by
 cases r with
 | no=>exact hp.elim
 | exc C=>exact hp.elim
 | ok f σ'=>
  cases f with
  | true=>exact fun fv h' tk m' W' R X e=>e.symm▸kt h' tk m' W' σ' R X hp
  | false=>exact fun fv h' tk m' W' R X e=>e.symm▸kf h' tk (hp _ h' tk m' W' R X .next)
theorem Qt {test:PySem.Expr}{body:List PySem.Stmt}{pos:Pos}{t b}(N:Nat) (ht:JT prog K D cs test t) (hb:JS prog K D cs body b):JX prog K D cs (.While test body [] pos) (dp t b N):=fun c A rm fr kk s m W σ R Q E hp=>by
 refine wpAny_While (codeAny_whileLoop (fun n s'=>∀ G:Prop,(∀ h tk m1 W1 σ1,s'={ s with heap:=h,toks:=tk }→Rel c h m1 W1 σ1→aA c (RF c) s W1 Q E (dp t b n σ1)→G)→G) (fun n s' I=>I _ fun h tk m1 W1 σ1 e R1 hp1=>?_) N fun G k=>k s.heap s.toks m W σ rfl R hp)
 cases n with
 | zero=>exact hp1.elim
 | succ n=>
  rw[e]
  refine ht c A rm fr kk _ m1 W1 σ1 R1 _ _ (aA.whT hp1 (fun h2 tk2 m2 W2 σ2 R2 X2 hp2=>?_) fun h2 tk2 q=>wpAny_execs_nil q)
  exact hb c A rm fr kk { s with heap:=h2,toks:=tk2 } m2 W2 σ2 R2 _ _ (aA.ext (s:=s) (h':=h2) (tk:=tk2) (aA.whR hp2 X2 (fun h3 tk3 m3 W3 σ3 R3 X3 hp3=>
   have I:∀ G:Prop,(∀ h tk m1 W1 σ1,({ s with heap:=h3,toks:=tk3 }:Shared)={ s with heap:=h,toks:=tk }→Rel c h m1 W1 σ1→aA c (RF c) s W1 Q E (dp t b n σ1)→G)→G:=fun G k=>k h3 tk3 m3 W3 σ3 rfl R3 (hp3.ext (h':=s.heap) (tk:=s.toks) (X2.trans X3))
   ⟨⟨n,Nat.lt_succ_self n,I⟩,n,Nat.lt_succ_self n,I⟩) (fun h' tk q=>q) fun v h' tk q=>q) (aJ.refl _))
end
section
variable {prog:Program}{K:World→Frag}{D:Nat}{cs:Scope}
theorem Qu {c:Act}{h:Heap}{m:Str→Option Value}{W0 W1:aV}{σ1:S}{fp:List Addr}(R1:Rel c h m W1 σ1) (noL:c.L∉fp) (hfr1:∀ b∈fp,b∈W1.nw.map (·.1)→b∈W0.nw.map (·.1)) (there:∀ b∈fp,∃ o,h.get? b=some o) {G:Prop}
  (k:∀ own:Led,Rel c h m ⟨own++W1.nw,W1.fz,W1.rho,W1.frs⟩ σ1→aJ W1 ⟨own++W1.nw,W1.fz,W1.rho,W1.frs⟩→(∀ b∈fp,b∉W0.nw.map (·.1)→c.b.get? b=none→b∈(own++W1.nw).map (·.1))→
   (∀ b∈fp,b∉W1.nw.map (·.1)→c.b.get? b=none→∃ o,(b,o)∈own)→G):G:=ES R1 (news_ownOf noL) hfr1 there (fun b g1 g3 o ho=>mem_ownOf g1 g3 ho) k
theorem Rel.chg {c:Act}{h h':Heap}{m:Str→Option Value}{W:aV}{σ:S}{d:Addr}{ro':Obj}(R:Rel c h m W σ) (h1:∀ q∈W.rho,d≠q.2) (h2:d∉W.frs) (h3:∀ p∈W.fz,p.1≠d)
  (F:Fr c.b c.L h' m) (N:News c.b c.L h' (put d ro' W.nw)):Rel c h' m ⟨put d ro' W.nw,W.fz,W.rho,W.frs⟩ σ:=by
 refine⟨F,N,?_,fun p hp=>ir (R.fz p hp) (h3 p hp),R.off,R.rnd,R.fro,R.ffr,?_,?_,R.len,?_,R.elen,R.env,R.cell,R.stk⟩
 ·show((put d ro' W.nw).map (·.1)).Nodup
  rw[ie];exact R.nd
 ·intro a ha
  show a∈(put d ro' W.nw).map (·.1)
  rw[ie];exact R.fra a ha
 ·intro p hp hf
  rcases tw hp with⟨_,h1⟩ | rfl
  ·exact R.frd p h1 hf
  ·exact absurd hf h2
 ·intro k o ho
  obtain⟨x,d',ro,g1,g2,g3⟩:=R.st k o ho
  exact⟨x,d',ro,g1,ir g2 fun e=>h1 _ (List.mem_of_getElem? g1) e.symm,g3⟩
theorem aJ.chg {W W':aV}{d:Addr}{ro':Obj}(X:aJ W W') (hd:d∉W.nw.map (·.1)):aJ W ⟨put d ro' W'.nw,W'.fz,W'.rho,W'.frs⟩:=by
 have ne:∀ p∈W.nw,p.1≠d:=fun p hp e=>hd (e▸List.mem_map_of_mem (f:=(·.1)) hp)
 refine⟨X.fz,X.rho,fun a ha=>?_,X.new,fun p hp g1 g2=>ir (X.nw p hp g1 g2) (ne p hp),X.frs,fun p hp g1 g2=>?_,X.fzn⟩
 ·show a∈(put d ro' W'.nw).map (·.1)
  rw[ie];exact X.ad a ha
 ·obtain⟨sl,hsl⟩:=X.fr p hp g1 g2
  exact⟨sl,ir hsl (ne p hp)⟩
theorem RVs.snoc {c:Act}{W:aV}{vs:List Value}{xs:List V}{v:Value}{x:V}(h:RVs c W vs xs) (hv:RV c W v x):RVs c W (vs++[v]) (xs++[x]):=by
 refine⟨by simp[h.1],fun j a b ha hb=>?_⟩
 by_cases hj:j<vs.length
 ·rw[List.getElem?_append_left hj]at ha
  rw[List.getElem?_append_left (h.1▸hj)]at hb
  exact h.2 j a b ha hb
 ·rw[List.getElem?_append_right (Nat.le_of_not_lt hj)]at ha
  rw[List.getElem?_append_right (h.1▸Nat.le_of_not_lt hj)]at hb
  have hj0:j - vs.length=0:=by
   have:=(List.getElem?_eq_some_iff.mp ha).1
   simpa using this
  rw[hj0]at ha
  rw[← h.1,hj0]at hb
  cases ha
  cases hb
  exact hv
end
section
variable {prog:Program}{K:World→Frag}{D:Nat}{cs:Scope}
noncomputable def b6 (scope cs:Scope):Scope:=
 { scope with names:=scope.names.map fun(n,k)=>if(k==.free&&cs.kind==.function&&cs.names.lookup n==some .cell)then(n,.cell)else(n,k) }
noncomputable def Cel (scope:Scope):List Str:=(scope.names.filter fun y=>y.2==.cell).map (·.1)
def Jc (scope cs:Scope) (ci:List Nat):Prop:=
 ∀ q L fn ccd r (cl:List (Str×Addr)) (cn:List Str),cn=Cel cs→(∀ (j:Nat),j∈ci→∃ n a,cn[j]?=some n∧cl.lookup n=some a)→
  ∃ cl',closureFor scope (envG q cs L fn ccd r cl)=pure cl'∧∀ (i:Nat) n,(Cel (b6 scope cs))[i]?=some n→∃ j,ci[i]?=some j∧cn[j]?=some n∧cl'.lookup n=cl.lookup n
noncomputable def bz (slot:Nat) (t:S→Rs Bool) (we:W1):List V→List V→S→Rs (List V)
 | [],acc=>fun σ=>.ok acc σ
 | x::xs,acc=>fun σ=>match t ⟨σ.env.set slot x,σ.st⟩with
  | .ok true σ1=>match we σ1 with
   | .ok y σ2=>bz slot t we xs (acc++[y]) σ2
   | _=>.no
  | .ok false σ1=>bz slot t we xs acc σ1
  | _=>.no
noncomputable def lN (env:List V) (j:Nat):Bool:=match env[j]? with
 | some .unb=>false
 | some _=>true
 | Option.none=>false
noncomputable def ET (env:List V):Rs (List V)→Rs V
 | .ok ys σ2=>.ok (.lst ys) ⟨env,σ2.st⟩
 | _=>.no
def du (wi:S→Rs (List V)) (slot k:Nat) (cj:List Nat) (t:S→Rs Bool) (we:W1):W1:=fun σ=>if cj.all (lN σ.env)then(wi σ).bind fun rows σ1=>
 if cj.all (lN σ1.env)&&decide (rows.length≤100000)then ET σ1.env (bz slot t we rows [] ⟨List.replicate k .unb++cj.map (fun i=>σ1.env.getD i .unb),σ1.st⟩)
 else .no
 else .no
def u2 (prog:Program) (K:World→Frag) (D:Nat) (cs:Scope) (ifs:List PySem.Expr) (t:S→Rs Bool):Prop:=
 ∀ (c:Act) (A:Around),cA D c A→cE c cs→cg prog K c→∀ s m W σ,Rel c s.heap m W σ→∀ Q E,aA c (fun _ a x=>a=x) s W Q E (t σ)→
  wpAny (model prog c.w) A (forIn ifs true fun e r=>if r=true then do let ok ← isTrue e c.env (eval e c.env);pure (ForInStep.yield ok)else pure (ForInStep.yield r)) Q E s
theorem Vk:u2 prog K D cs [] (fun σ=>.ok true σ):=fun c A _ _ _ s m W σ R Q E hp=>by
 rw[List.forIn_nil]
 exact wpAny_pure (hp true s.heap s.toks m W R (aJ.refl _) rfl)
theorem Vl {e t}(h:JT prog K D cs e t):u2 prog K D cs [e] t:=fun c A rm fr k s m W σ R Q E hp=>by
 rw[List.forIn_cons]
 simp only[if_true,List.forIn_nil]
 refine wpAny_bind (wpAny_bind (wpAny_mono (h c A rm fr k s m W σ R Q E hp) (fun b s' hb=>wpAny_pure (wpAny_pure hb)) fun _ _ x=>x))
theorem BI {env:List V}{j:Nat}(h:lN env j=true):∃ v,env[j]?=some v∧v≠.unb:=by
 unfold lN at h
 split at h
 ·cases h
 ·rename_i v hne hv;exact⟨v,hv,hne⟩
 ·cases h
theorem Rel.withCells {w:World}{b:Heap}{ns:List Str}{L:Addr}{env env':Env}{stk:List Env}{cn:List Str}{cl:List (Str×Addr)}{h:Heap}{m W σ}(R:Rel ⟨w,b,ns,L,env,stk,[],[]⟩ h m W σ) (ys:List V) (hl:ys.length=cn.length)
  (hc:∀ (j:Nat) n v,cn[j]?=some n→ys[j]?=some v→v=.unb∨∃ a o u,cl.lookup n=some a∧(a,o)∈W.fz∧o.data=.cell (some u)∧VR w.params (FZ b W.fz) W.rho u v):
  Rel ⟨w,b,ns,L,env',stk,cn,cl⟩ h m W ⟨σ.env++ys,σ.st⟩:=by
 have hl0:σ.env.length=ns.length:=R.elen
 refine⟨R.F,R.N,R.nd,R.fz,R.off,R.rnd,R.fro,R.ffr,R.fra,R.frd,R.len,R.st,by simp[hl0,hl],fun i n v hi hv=>?_,fun j n v hj hv=>?_,R.stk⟩
 ·have hlt:i<σ.env.length:=hl0▸(List.getElem?_eq_some_iff.mp hi).1
  dsimp only at hv
  rw[List.getElem?_append_left hlt]at hv
  exact R.env i n v hi hv
 ·dsimp only at hv
  rw[List.getElem?_append_right (by rw[hl0];exact Nat.le_add_right _ _),hl0,Nat.add_sub_cancel_left]at hv
  exact hc j n v hj hv
theorem Rel.frzLed {c:Act}{h:Heap}{m:Str→Option Value}{W:aV}{σ:S}{d:Addr}{ro:Obj}(R:Rel c h m W σ) (hm:(d,ro)∈W.nw) (h1:∀ q∈W.rho,d≠q.2) (h2:d∉W.frs):
  Rel c h m ⟨W.nw,(d,ro)::W.fz,W.rho,W.frs⟩ σ:=by
 have hF:∀ a o,FZ c.b W.fz a o→FZ c.b ((d,ro)::W.fz) a o:=FZ.mono fun p hp=>.tail _ hp
 refine⟨R.F,R.N,R.nd,fun p hp=>?_,fun q hq p hp=>?_,R.rnd,R.fro,fun p hp=>?_,R.fra,R.frd,R.len,fun k o ho=>?_,R.elen,fun i n v hi hv=>?_,fun i n v hi hv=>?_,R.stk⟩
 ·rcases List.mem_cons.mp hp with rfl | hp
  ·exact hm
  ·exact R.fz p hp
 ·rcases List.mem_cons.mp hp with rfl | hp
  ·exact h1 q hq
  ·exact R.off q hq p hp
 ·rcases List.mem_cons.mp hp with rfl | hp
  ·exact h2
  ·exact R.ffr p hp
 ·obtain⟨x,d',ro',g1,g2,g3⟩:=R.st k o ho
  exact⟨x,d',ro',g1,g2,g3.mono hF fun _ _ h=>h⟩
 ·rcases R.env i n v hi hv with g1 | ⟨u,hu,g2⟩
  ·exact .inl g1
  ·exact .inr ⟨u,hu,g2.mono hF fun _ _ h=>h⟩
 ·rcases R.cell i n v hi hv with g1 | ⟨a,o,u,g1,g2,g3,g4⟩
  ·exact .inl g1
  ·exact .inr ⟨a,o,u,g1,.tail _ g2,g3,g4.mono hF fun _ _ h=>h⟩
structure Off (d:Addr) (o:Obj) (W:aV):Prop where
 mem:(d,o)∈W.nw
 rho:∀ q∈W.rho,d≠q.2
 frs:d∉W.frs
 fz:∀ p∈W.fz,p.1≠d
theorem Off.ext {d:Addr}{o:Obj}{W W':aV}(O:Off d o W) (X:aJ W W'):Off d o W':=
 ⟨X.nw _ O.mem O.rho O.frs,fun q hq e=>(X.new q hq).elim (fun g=>O.rho q g e) fun g=>g (e▸List.mem_map_of_mem (f:=(·.1)) O.mem),X.frs▸O.frs,
  fun p hp e=>(X.fzn p hp).elim (fun g=>O.fz p g e) fun g=>g (e▸List.mem_map_of_mem (f:=(·.1)) O.mem)⟩
theorem Gx {c:Act}{A:Around}{h:Heap}{m:Str→Option Value}{W:aV}{σ:S}{d:Addr}{vs:List Value}{n tk:Nat}{v:Value}{s:Shared}{Q E:Value→Shared→Prop}(R:Rel c h m W σ) (O:Off d (lstOf vs n) W) (hl:vs.length≤100000)
  (k:∀ h',Rel c h' m ⟨put d (lstOf (vs++[v]) (n+1)) W.nw,W.fz,W.rho,W.frs⟩ σ→Heap.SameBut d h h'→Q .none { s with heap:=h',toks:=tk }):wpAny (model prog c.w) A (call (.builtin "list.append") [.ref d,v]) Q E { s with heap:=h,toks:=tk }:=
 have z:=R.N _ O.mem
 append_at (hsz:=Nat.le_trans hl (Nat.le_trans (by decide) bt)) z.1 fun h' hs ho=>k h' (R.chg (ro':=lstOf (vs++[v]) (n+1)) O.rho O.frs O.fz (R.F.change hs z.2.1 z.2.2) fun p hp=>
  (tw hp).elim (fun g=>⟨hs.extBut _ _ g.1 (R.N p g.2).1,(R.N p g.2).2⟩) fun g=>g▸⟨(congrArg (fun a=>h'.get? d=some { cls:=.type "list",data:=.seq a (n+1) }) (List.push_toArray vs v)).mp ho,z.2⟩) hs
theorem Gy {slot:Nat}{t:S→Rs Bool}{we:W1}{x:V}{r acc zs:List V}{σ σF:S}{G:Prop}(h:bz slot t we (x::r) acc σ=.ok zs σF)
  (k1:∀ σt,t ⟨σ.env.set slot x,σ.st⟩=.ok false σt→bz slot t we r acc σt=.ok zs σF→G) (k2:∀ σt y σe,t ⟨σ.env.set slot x,σ.st⟩=.ok true σt→we σt=.ok y σe→bz slot t we r (acc++[y]) σe=.ok zs σF→G):G:=by
 revert h k1 k2
 show(match t ⟨σ.env.set slot x,σ.st⟩with | .ok true σ1=>(match we σ1 with | .ok y σ2=>bz slot t we r (acc++[y]) σ2 | _=>.no) | .ok false σ1=>bz slot t we r acc σ1 | _=>.no)=_→_
 generalize t ⟨σ.env.set slot x,σ.st⟩=a
 intro h k1 k2
 cases a with
 | no=>exact Rs.noK h
 | exc C=>exact Rs.noK h
 | ok b σt=>
  cases b with
  | false=>exact k1 σt rfl h
  | true=>
   have h:(match we σt with | .ok y σ2=>bz slot t we r (acc++[y]) σ2 | _=>.no)=Rs.ok zs σF:=h
   generalize e:we σt=a at h
   cases a with
   | no=>exact Rs.noK h
   | exc C=>exact Rs.noK h
   | ok y σe=>exact k2 σt y σe rfl e h
theorem Jd {cs':Scope}{c:Act}{A:Around}(rm:cA D c A) (fr:cE c cs') (kk:cg prog K c) {elt:PySem.Expr}{ifs:List PySem.Expr}{x:Str}{px:Pos}{slot:Nat}{t:S→Rs Bool}{we:W1}(ht:u2 prog K D cs' ifs t) (he:JE prog K D cs' elt we) (hx:Slot cs' x slot)
  {h:Heap}{m:Str→Option Value}{W:aV}{σ σF:S}{v acc:Value}{y:V}{r ys zs:List V}{s:Shared}{tk:Nat}{J:Shared→Prop}{E:Value→Shared→Prop}(R:Rel c h m W σ) (hv:RV c W v y) (hgo:bz slot t we (y::r) ys σ=.ok zs σF)
  (k1:∀ h' tk m' W' σ',Rel c h' m' W' σ'→aJ W W'→bz slot t we r ys σ'=.ok zs σF→J { s with heap:=h',toks:=tk })
  (k2:∀ h' tk m' W' σ' v' y',Rel c h' m' W' σ'→aJ W W'→RV c W' v' y'→bz slot t we r (ys++[y']) σ'=.ok zs σF→wpAny (model prog c.w) A (call (.builtin "list.append") [acc,v']) (fun _ s5=>J s5) E { s with heap:=h',toks:=tk }):
  wpAny (model prog c.w) A (assign (.Name x px) c.env v) (fun _ s2=>wpAny (model prog c.w) A (forIn ifs true fun e r=>if r=true then do let ok ← isTrue e c.env (eval e c.env);pure (ForInStep.yield ok)else pure (ForInStep.yield r)) (fun ok s3=>
   if ok=true then wpAny (model prog c.w) A (eval elt c.env) (fun x s4=>wpAny (model prog c.w) A (call (.builtin "list.append") [acc,x]) (fun _ s5=>J s5) E s4) E s3 else J s3) E s2) E { s with heap:=h,toks:=tk }:=
 j0 (s:={ s with heap:=h,toks:=tk }) fr R hx hv fun h2 m2 tk2 R3=>ht c A rm fr kk _ m2 _ _ R3 _ _ (Gy hgo (fun σt e1 e2=>e1.symm▸fun b h3 tk3 m3 W3 R4 X4 e=>e.symm▸k1 h3 tk3 m3 W3 σt R4 X4 e2)
  fun σt y' σe e1 e2 e3=>e1.symm▸fun b h3 tk3 m3 W3 R4 X4 e=>e.symm▸he c A rm fr kk { s with heap:=h3,toks:=tk3 } m3 W3 σt R4 _ _ (e2.symm▸fun v' h4 tk4 m4 W4 R6 X6 hv4=>k2 h4 tk4 m4 W4 σe v' y' R6 (X4.trans X6) hv4 e3))
theorem Gz {c:Act}{s:Shared}{W W0 W1:aV}{Q E:Value→Shared→Prop}{h0 h h':Heap}{m0 m1:Str→Option Value}{σ0 σ1:S}{zs:List V}{vs:List Value}{n tk:Nat}{ns cn:List Str}{cl:List (Str×Addr)}{env':Env}{stk':List Env}{C d:Addr}{oL:Obj}
  (R0:Rel c h0 m0 W0 σ0) (X0:aJ W W0) (hL0:h0.get? c.L=some oL) (hLC:c.L≠C) (hCb:∀ b o,c.b.get? b=some o→b≠C) (hDL:d≠c.L) (hDW:d∉W0.nw.map (·.1)) (hp:aA c (RV c) s W Q E (.ok (.lst zs) ⟨σ0.env,σ1.st⟩))
  (R1:Rel ⟨c.w,c.b,ns,C,env',stk',cn,cl⟩ h m1 W1 σ1) (X1:aJ ⟨(c.L,oL)::W0.nw,W0.fz,W0.rho,c.L::W0.frs⟩ W1) (O:Off d (lstOf vs n) W1) (hv:RVs c W1 vs zs) (hs':Heap.SameBut C h h'):Q (.ref d) { s with heap:=h',toks:=tk }:=
 (R0.leave hL0 R1 X1).elim fun RL XL=>
 have RL':=RL.at (h':=h') ⟨RL.F.ns.sameBut hs' hLC,fun b o e=>hs'.extBut b o (hCb b o e) (RL.F.keep b o e),RL.F.above⟩ fun p hp=>⟨hs'.extBut _ _ (R1.N p (List.mem_filter.mp hp).1).2.1 (RL.N p hp).1,(RL.N p hp).2⟩
 have RF:=RL'.frzLed (d:=d) (ro:=lstOf vs n) (List.mem_filter.mpr ⟨O.mem,decide_eq_true hDL⟩) O.rho fun hm=>O.frs (X1.frs▸(List.Mem.tail _ hm:d∈c.L::W0.frs))
 hp (.ref d) h' tk m0 _ RF (X0.trans ⟨fun p hp=>.tail _ (XL.fz p hp),XL.rho,XL.ad,XL.new,XL.nw,XL.frs,XL.fr,fun p hp=>(List.mem_cons.mp hp).elim (fun(e:p=(d,lstOf vs n))=>.inr (e▸hDW)) (XL.fzn p)⟩)
  (.lst (n:=n) (.inr (.head _)) hv.1 fun i u y hu hy=>(hv.2 i u y hu hy).mono (FZ.mono fun p hp=>.tail _ hp) fun _ _ h=>h)
def rA (c:Act) (B0:aV) (d:Addr) (fp:List Addr) (St:Nat→Heap→Prop) (N:Nat) (go:Nat→List V→S→Prop) (s:Shared) (k:Nat) (s':Shared):Prop:=
 ∀ G:Prop,(∀ h tk m W σ i vs ys n,s'={ s with heap:=h,toks:=tk }→Rel c h m W σ→aJ B0 W→Off d (lstOf vs n) W→RVs c W vs ys→vs.length≤i→i≤N→k=N+1 - i→St i h→(∀ b∈fp,b∈W.nw.map (·.1)→b∈B0.nw.map (·.1))→go i ys σ→G)→G
theorem rA.mk {c:Act}{B0 W:aV}{d:Addr}{fp:List Addr}{St:Nat→Heap→Prop}{N k i n tk:Nat}{go:Nat→List V→S→Prop}{s:Shared}{h:Heap}{m:Str→Option Value}{σ:S}{vs:List Value}{ys:List V}(R:Rel c h m W σ) (X:aJ B0 W) (O:Off d (lstOf vs n) W) (hv:RVs c W vs ys) (h1:vs.length≤i) (h2:i≤N) (h3:k=N+1 - i) (h4:St i h) (h5:∀ b∈fp,b∈W.nw.map (·.1)→b∈B0.nw.map (·.1)) (h6:go i ys σ):
  rA c B0 d fp St N go s k { s with heap:=h,toks:=tk }:=fun _ g=>g h tk m W σ i vs ys n rfl R X O hv h1 h2 h3 h4 h5 h6
theorem EU {c:Act}{h:Heap}{m:Str→Option Value}{W:aV}{σ:S}{ci:List Nat}{kl:Nat}(R:Rel c h m W σ) (hkl:c.ns.length=kl) (hb:((ci.map (kl+·)).all (lN σ.env))=true) {j:Nat}(hj:j∈ci) {n:Str}(hn:c.cn[j]?=some n) {G:Prop}
  (k:∀ v a o u,σ.env[kl+j]?=some v→c.cl.lookup n=some a→(a,o)∈W.fz→o.data=.cell (some u)→VR c.w.params (FZ c.b W.fz) W.rho u v→G):G:=
 (BI (List.all_eq_true.mp hb (kl+j) (List.mem_map.mpr ⟨j,hj,rfl⟩))).elim fun v hv=>
  (R.cell j n v hn (hkl▸hv.1)).elim (fun h1=>absurd h1 hv.2) fun⟨a,o,u,h1,h2,h3,h4⟩=>k v a o u hv.1 h1 h2 h3 h4
theorem Je {cs':Scope}{c c0:Act}{A:Around}(rm:cA D c A) (fr:cE c cs') (kk:cg prog K c) {elt:PySem.Expr}{ifs:List PySem.Expr}{x:Str}{px:Pos}{slot:Nat}{t:S→Rs Bool}{we:W1}(ht:u2 prog K D cs' ifs t) (he:JE prog K D cs' elt we) (hx:Slot cs' x slot)
  {rows zs:List V}{σF:S}{s s':Shared}{B0 W0:aV}{I d:Addr}{fp wr:List Addr}{P:Nat→Value→Prop}{St:Nat→Heap→Prop}{kk0:Nat}(hcb:c0.b=c.b) (hcw:c0.w=c.w) (IT:pG prog c0 A W0 rows I fp wr P St) (hfz:W0.fz=B0.fz) (hrho:W0.rho=B0.rho)
  (hCfp:c.L∉fp) (hDfp:d∉fp) (hDB:d∉B0.nw.map (·.1)) (hfpB:∀ b∈fp,b∈B0.nw.map (·.1)→b∈W0.nw.map (·.1)) (hsz:rows.length≤100000)
  (inv:rA c B0 d fp St rows.length (fun i ys σ=>bz slot t we (rows.drop i) ys σ=.ok zs σF) s kk0 s') {J:Shared→Prop}{E:Value→Shared→Prop}{Q:Option Value→Shared→Prop}
  (hJ:∀ s5,(∃ m,m<kk0∧rA c B0 d fp St rows.length (fun i ys σ=>bz slot t we (rows.drop i) ys σ=.ok zs σF) s m s5)→J s5)
  (final:∀ h tk m W vs n,Rel c h m W σF→aJ B0 W→Off d (lstOf vs n) W→RVs c W vs zs→Q none { s with heap:=h,toks:=tk })
  (hs:∀ v s1,wpAny (model prog c.w) A (assign (.Name x px) c.env v) (fun _ s2=>wpAny (model prog c.w) A (forIn ifs true fun e r=>if r=true then do let ok ← isTrue e c.env (eval e c.env);pure (ForInStep.yield ok)else pure (ForInStep.yield r)) (fun ok s3=>
   if ok=true then wpAny (model prog c.w) A (eval elt c.env) (fun x s4=>wpAny (model prog c.w) A (call (.builtin "list.append") [.ref d,x]) (fun _ s5=>J s5) E s4) E s3 else J s3) E s2) E s1→Q (some v) s1):
  wpAny (model prog c.w) A (pyNext (.ref I)) Q E s':=by
 have wk:Walks prog c.w A I fp wr rows.length P St:=hcw▸IT.walks
 refine inv _ fun h tk m1 W1 σ1 i vs ys n e1 R1 X1 O hys hvl hil e2 hSt hfr1 hgo1=>e1.symm▸?_
 clear inv e1
 have hsw:=wk.sub
 have hnow:∀ h':Heap,(∀ b o,b∉wr→h.get? b=some o→h'.get? b=some o)→Rel c h' m1 W1 σ1:=fun h' hk=>
  R1.at ⟨R1.F.ns.at' fun o e=>hk _ o (fun hm=>hCfp (hsw _ hm)) e,fun b o e=>hk b o (fun hm=>nomatch (hcb▸(IT.wrOk b hm).1:c.b.get? b=none).symm.trans e) (R1.F.keep b o e),R1.F.above⟩
   fun p hp=>⟨hk _ _ (fun hw=>(IT.wrOk _ hw).2 (hfpB _ (hsw _ hw) (hfr1 _ (hsw _ hw) (List.mem_map_of_mem (f:=(·.1)) hp)))) (R1.N p hp).1,(R1.N p hp).2⟩
 refine(Nat.lt_or_ge i rows.length).elim (fun hlt=>?_) fun hge=>?_
 ·refine wk.item i _ _ _ hlt hSt fun v h1 tk1 hP hSt1 hk1=>(IT.row i v hlt hP).elim fun y0 hy=>?_
  refine Qu (W0:=B0) (hnow h1 hk1) hCfp hfr1 (IT.there _ _ hSt1) fun own R2 X2 hcov hin=>?_
  have hgo2:bz slot t we (y0::rows.drop (i+1)) ys σ1=.ok zs σF:=by
   rw[← hgo1,List.drop_eq_getElem_cons hlt,Option.some.inj ((List.getElem?_eq_getElem hlt).symm.trans hy.1)]
  have fo:∀ b∈fp,b∈B0.nw.map (·.1)→∃ o,(b,o)∈B0.fz:=fun b hb hm=>hfz▸IT.fpOk b hb (hfpB b hb hm)
  have hm:rows.length+1 - (i+1)<kk0:=e2▸Nat.sub_lt_sub_left (Nat.lt_succ_of_lt hlt) (Nat.lt_succ_self i)
  refine hs v _ (Jd rm fr kk ht he hx R2 (X1.vr (hcw▸hcb▸hfz▸hrho▸hy.2)) hgo2 (fun h' tk' m' W' σ' R3 X3 hgo3=>?_) fun h' tk' m' W' σ' v' y' R3 X3 hv' hgo3=>?_)
  ·refine xT (hnow h1 hk1) X1 hfr1 fo R2 X2 hcov hin R3 X3 fun nw3 R5 X5 hfr5 hk5 hkp=>hJ _ ?_
   have O':Off d (lstOf vs n) W':=Off.ext (W:=⟨own++W1.nw,W1.fz,W1.rho,W1.frs⟩) (O.ext X2) X3
   exact⟨_,hm,rA.mk R5 (X1.trans X5) ⟨hkp _ O'.mem hDfp,O'.rho,O'.frs,O'.fz⟩ (hys.ext X5) (Nat.le_succ_of_le hvl) hlt rfl (wk.frame _ _ _ hSt1 hk5) hfr5 hgo3⟩
  ·refine xT (hnow h1 hk1) X1 hfr1 fo R2 X2 hcov hin R3 X3 fun nw3 R5 X5 hfr5 hk5 hkp=>?_
   have O':Off d (lstOf vs n) W':=Off.ext (W:=⟨own++W1.nw,W1.fz,W1.rho,W1.frs⟩) (O.ext X2) X3
   have O5:Off d (lstOf vs n) ⟨nw3,W'.fz,W'.rho,W'.frs⟩:=⟨hkp _ O'.mem hDfp,O'.rho,O'.frs,O'.fz⟩
   refine Gx (s:=s) R5 O5 (Nat.le_trans hvl (Nat.le_trans hil hsz)) fun h5 R7 hs5=>hJ _ ?_
   exact⟨_,hm,rA.mk R7 ((X1.trans X5).chg hDB) ⟨I1 O5.mem,O5.rho,O5.frs,O5.fz⟩ (RVs.snoc (W:=⟨nw3,W'.fz,W'.rho,W'.frs⟩) (hys.ext X5) hv') (by rw[List.length_append];exact Nat.succ_le_succ hvl) hlt rfl
    (wk.frame _ _ _ hSt1 fun b hb o e=>hs5.extBut b o (fun q=>hDfp (q▸hb)) (hk5 b hb o e)) (fun b hb hm=>hfr5 b hb (ie.subst (motive:=fun l=>b∈l) hm)) hgo3⟩
 ·have hi:i=rows.length:=Nat.le_antisymm hil hge
  have hgo1:bz slot t we (rows.drop i) ys σ1=.ok zs σF:=hgo1
  rw[hi,List.drop_eq_nil_of_le (Nat.le_refl _)]at hgo1
  have ⟨e3,e4⟩:=Rs.ok.inj hgo1
  exact wk.done _ _ _ (hi▸hSt) fun h1 tk1 hk1=>final h1 tk1 m1 W1 vs n (e4▸hnow h1 hk1) X1 O (e3▸hys)
theorem GA {c:Act}{W0:aV}{σ0:S}{h0 H2:Heap}{m0:Str→Option Value}(R0:Rel c h0 m0 W0 σ0) (hH2:h0.push { cls:=.type "list",dict:=Option.none,data:=.seq ([]:List Value).toArray }=H2) {G:Prop}
  (k:H2.objs.size=h0.objs.size+1→(∀ b o,h0.get? b=some o→H2.get? b=some o)→h0.objs.size∉W0.nw.map (·.1)→c.b.get? h0.objs.size=Option.none→h0.objs.size≠c.L→
   Rel c H2 m0 ⟨(h0.objs.size,lstOf [] 0)::W0.nw,W0.fz,W0.rho,W0.frs⟩ σ0→G):G:=
 have up2:∀ b o,h0.get? b=some o→H2.get? b=some o:=fun b o e=>hH2▸Heap.get?_push_of_some _ e
 have hDW:h0.objs.size∉W0.nw.map (·.1):=fun hm=>absurd (R0.lt _ hm) (Nat.lt_irrefl _)
 have hDb:c.b.get? h0.objs.size=Option.none:=Option.eq_none_iff_forall_ne_some.mpr fun o q=>absurd (Heap.lt_size (R0.F.keep _ _ q)) (Nat.lt_irrefl _)
 have hDL:h0.objs.size≠c.L:=Nat.ne_of_gt R0.F.ns.lt
 have R0':Rel c H2 m0 W0 σ0:=R0.grow up2
 k (hH2▸Heap.size_push ..) up2 hDW hDb hDL (R0'.allocL (adds:=[(h0.objs.size,lstOf [] 0)]) R0'.F (fun p hp=>(List.mem_append.mp hp).elim
  (fun h1=>List.mem_singleton.mp h1▸⟨hH2▸Heap.get?_push_size _ rfl,hDL,hDb⟩) (R0'.N p)) (List.pairwise_singleton _ _) (fun p hp=>List.mem_singleton.mp hp▸hDW)).1
theorem aJ.ins {x y:Addr×Obj}{l fz:Led}{rho:List (Addr×Addr)}{frs:List Addr}:aJ ⟨x::l,fz,rho,frs⟩ ⟨x::y::l,fz,rho,frs⟩:=
 have s:∀ p∈x::l,p∈x::y::l:=fun p hp=>(List.mem_cons.mp hp).elim (fun e=>e▸.head _) fun h=>.tail _ (.tail _ h)
 ⟨fun _ h=>h,fun _ _ h=>h,fun a ha=>(List.mem_map.mp ha).elim fun p h=>List.mem_map.mpr ⟨p,s p h.1,h.2⟩,fun _ h=>.inl h,fun p hp _ _=>s p hp,rfl,fun p hp _ _=>⟨p.2.slots,s p hp⟩,fun _ h=>.inl h⟩
theorem GB {c:Act}{W0:aV}{σ0:S}{h0 H2 h₁:Heap}{m0 m₁:Str→Option Value}{ci:List Nat}{kl k:Nat}{ns cn:List Str}{cl:List (Str×Addr)}{env':Env}{x:Addr×Obj}{oL:Obj}(R0:Rel c h0 m0 W0 σ0) (hkl:c.ns.length=kl) (hb:((ci.map (kl+·)).all (lN σ0.env))=true)
  (hcil:ci.length=cn.length) (hcl:∀ (i:Nat) n,cn[i]?=some n→∃ j,ci[i]?=some j∧c.cn[j]?=some n∧cl.lookup n=c.cl.lookup n) (hlen:ns.length=k) (RD:Rel c H2 m0 ⟨x::W0.nw,W0.fz,W0.rho,W0.frs⟩ σ0) (hL:H2.get? c.L=some oL) (hLd:∀ vs,oL.data≠.fields vs)
  (hns:h₁.Ns H2.objs.size m₁) (up1:∀ b o,H2.get? b=some o→h₁.get? b=some o):
  Rel ⟨c.w,c.b,ns,H2.objs.size,env',c.stk,cn,cl⟩ h₁ m₁ ⟨(c.L,oL)::x::W0.nw,W0.fz,W0.rho,c.L::W0.frs⟩ ⟨List.replicate k .unb++(ci.map (kl+·)).map (fun i=>σ0.env.getD i .unb),σ0.st⟩:=
 (RD.enter (ns:=ns) (env':=c.env) (stk':=c.stk) (xs:=[]) (k:=k) hL hLd hns up1 (hlen.trans (Nat.zero_add k).symm) (fun i n v hi hv=>nomatch hv) (fun e he=>let ⟨a1,a,a2,a3⟩:=RD.stk e he;⟨a1,a,a2,.inr (List.mem_cons.mpr a3)⟩)).withCells _ (by rw[List.length_map,List.length_map];exact hcil) fun j n v hj hv=>
  (hcl j n hj).elim fun j' g=>EU R0 hkl hb (List.mem_of_getElem? g.1) g.2.1 fun v' a o u g1 g2 g3 g4 g5=>by
   rw[List.getElem?_map,List.getElem?_map,g.1]at hv
   have e:v=v':=(Option.some.inj hv).symm.trans (by show σ0.env.getD (kl+j') .unb=v';rw[List.getD_eq_getElem?_getD,g1];rfl)
   exact .inr ⟨a,o,u,g.2.2.trans g2,g3,g4,e▸g5⟩
theorem Jf {cs':Scope}{c c0:Act}{A:Around}(rm:cA D c A) (fr:cE c cs') (kk:cg prog K c) {elt iter:PySem.Expr}{ifs:List PySem.Expr}{x:Str}{px pos:Pos}{scope:Scope}{slot:Nat}{t:S→Rs Bool}{we:W1}(ht:u2 prog K D cs' ifs t) (he:JE prog K D cs' elt we) (hx:Slot cs' x slot)
  {rows zs:List V}{σF:S}{s:Shared}{B0 W0:aV}{I d:Addr}{fp wr:List Addr}{P:Nat→Value→Prop}{St:Nat→Heap→Prop}{RR:Result→Shared→Prop}{n0:Nat}{s0:Shared}(hcb:c0.b=c.b) (hcw:c0.w=c.w) (IT:pG prog c0 A W0 rows I fp wr P St) (hfz:W0.fz=B0.fz) (hrho:W0.rho=B0.rho)
  (hCfp:c.L∉fp) (hDfp:d∉fp) (hDB:d∉B0.nw.map (·.1)) (hfpB:∀ b∈fp,b∈B0.nw.map (·.1)→b∈W0.nw.map (·.1)) (hsz:rows.length≤100000)
  (final:∀ h tk m W vs n,Rel c h m W σF→aJ B0 W→Off d (lstOf vs n) W→RVs c W vs zs→RR (.ok .next) { s with heap:=h,toks:=tk })
  (hi:rA c B0 d fp St rows.length (fun i ys σ=>bz slot t we (rows.drop i) ys σ=.ok zs σF) s n0 s0):
  codeAny (model prog c.w) A (.compLoop (.ListComp elt [⟨.Name x px,iter,ifs,0⟩] scope pos) 0 (.ref I) (.ref d) c.env) RR s0:=
 codeAny_compLoop_tests _ (fun kk0 s' inv=>Je rm fr kk ht he hx hcb hcw IT hfz hrho hCfp hDfp hDB hfpB hsz inv (fun _ h=>h) final (fun _ _ h=>h)) n0 hi
section
variable {α β δ:Type}{c:Act}{rel:aV→α→β→Prop}{s:Shared}{W:aV}{Q:α→Shared→Prop}{E:Value→Shared→Prop}{G:Prop}
theorem aA.iteK {b:Bool}{r:Rs β}(h:aA c rel s W Q E (if b then r else .no)) (k:b=true→aA c rel s W Q E r→G):G:=by
 cases b with
 | true=>exact k rfl h
 | false=>exact h.elim
theorem df.bindK {A:Around}{r:Rs (List V)}{g:List V→S→Rs β}{Q2:Value→Shared→Prop}(p:aA c rel s W Q E (r.bind g))
  (k:∀ rows σ' I h' tk m' W' fp wr P St,Rel c h' m' W' σ'→aJ W W'→pG prog c A W' rows I fp wr P St→St 0 h'→aA c rel s W Q E (g rows σ')→Q2 (.ref I) { s with heap:=h',toks:=tk }):df c A prog s W Q2 E r:=by
 cases r with
 | ok rows σ=>exact fun I h' tk m' W' fp wr P St R X IT h0=>k rows σ I h' tk m' W' fp wr P St R X IT h0 p
 | exc C=>exact p
 | no=>exact p
theorem DP {env:List V}{r:Rs (List V)}{Q:Value→Shared→Prop}(h:aA c (RV c) s W Q E (ET env r)) (k:∀ ys σF,r=.ok ys σF→aA c (RV c) s W Q E (.ok (.lst ys) ⟨env,σF.st⟩)→G):G:=by
 cases r with
 | ok ys σ=>exact k ys σ rfl h
 | exc C=>exact h.elim
 | no=>exact h.elim
end
theorem Vm {elt iter:PySem.Expr}{x:Str}{px pos:Pos}{ifs:List PySem.Expr}{scope:Scope}{wi slot k kl ci t we}(hi:ze prog K D cs iter wi) (hx:Slot (b6 scope cs) x slot)
  (hlen:(Loc (b6 scope cs)).length=k) (hkl:(Loc cs).length=kl) (hclos:Jc scope cs ci) (hcil:ci.length=(Cel (b6 scope cs)).length) (hkind:scope.kind=.function) (hcell:∀ x∈scope.names,x.2≠.cell)
  (hnames:∀ x∈scope.names,x.2=.local→scope.names.lookup x.1=some .local) (ht:u2 prog K D (b6 scope cs) ifs t) (he:JE prog K D (b6 scope cs) elt we) (hs:∀ env x,foldedSetIterable iter env x=pure x):
  JE prog K D cs (.ListComp elt [⟨.Name x px,iter,ifs,0⟩] scope pos) (du wi slot k (ci.map (kl+·)) t we):=fun c A rm fr kk s m W σ R Q E hp=>by
 rw[eval_ListComp]
 refine fr.env.elim fun q0 h=>h.elim fun fn0 h=>h.elim fun cd0 h=>h.elim fun r0 ee=>?_
 have hkl':c.ns.length=kl:=by rw[fr.ns];exact hkl
 refine aA.iteK hp fun hbound hp=>?_
 refine(hclos q0 c.L fn0 cd0 r0 c.cl c.cn fr.cn fun j hj=>?_).elim fun cl' hc=>?_
 ·have hj':j<c.cn.length:=(BI (List.all_eq_true.mp hbound (kl+j) (List.mem_map.mpr ⟨j,hj,rfl⟩))).elim fun v hv=>by
   have hlt:=(List.getElem?_eq_some_iff.mp hv.1).1
   rw[R.elen,hkl']at hlt
   exact Nat.lt_of_add_lt_add_left hlt
  exact EU R hkl' hbound hj (List.getElem?_eq_getElem hj') fun v a o u h1 h2 h3 h4 h5=>⟨_,a,List.getElem?_eq_getElem hj',h2⟩
 refine wpAny_comprehension_free (use:=Option.none) rfl (hs _) (ee▸hc.1) hkind hnames (hi c A rm fr kk s m W σ R _ E (df.bindK hp fun rows σ0 I h0 tk0 m0 W0 fp wr P St R0 X0 IT hst hp=>?_))
 refine aA.iteK hp fun cT hp=>DP hp fun zs σF hgo hp=>?_
 have cT:=(Bool.and_eq_true _ _).mp cT
 have hIs:∀ b∈fp,b<h0.objs.size:=fun b hb=>(IT.there _ _ hst b hb).elim fun o ho=>Heap.lt_size ho
 refine wpAny_newObj_type (wpAny_newFunctionEnv hcell (fun y hy=>nomatch hy) (fun h₁ hns₁ hsb₁=>?_) hkind) (by size_fits)
 refine GA R0 rfl fun hC up2 hDW hDb hDL RD=>?_
 refine RD.F.ns.elim fun oL h=>h.elim fun esL h=>h.elim fun epL hL=>?_
 have up1:∀ b o,(h0.push { cls:=.type "list",dict:=Option.none,data:=.seq ([]:List Value).toArray }).get? b=some o→h₁.get? b=some o:=fun b o e=>hsb₁.extBut b o (Nat.ne_of_lt (Heap.lt_size e)) (Heap.get?_push_of_some _ e)
 have RC:=GB (ns:=Loc (b6 scope cs)) (env':=compEnvC scope cl' (h0.push { cls:=.type "list",dict:=Option.none,data:=.seq ([]:List Value).toArray }).objs.size c.env) R0 hkl' cT.1 hcil hc.2 hlen RD hL.1 (fun vs e=>nomatch hL.2.1.symm.trans e) hns₁ up1
 have hst1:St 0 h₁:=IT.walks.frame _ _ _ hst fun b hb o e=>up1 b o (up2 b o e)
 have hDfp:h0.objs.size∉fp:=fun hm=>Nat.lt_irrefl _ (hIs _ hm)
 have hL0:h0.get? c.L=some oL:=by
  cases q:h0.get? c.L with
  | none=>exact R0.F.ns.elim fun o h=>h.elim fun _ h=>h.elim fun _ h=>nomatch q.symm.trans h.1
  | some o=>exact((up2 _ _ q).symm.trans hL.1)▸rfl
 have hlt:∀ a,a<h0.objs.size→a≠(h0.push { cls:=.type "list",dict:=Option.none,data:=.seq ([]:List Value).toArray }).objs.size:=fun a h=>hC▸Nat.ne_of_lt (Nat.lt_succ_of_lt h)
 have hloop:=Jf (c:=⟨c.w,c.b,Loc (b6 scope cs),(h0.push { cls:=.type "list",dict:=Option.none,data:=.seq ([]:List Value).toArray }).objs.size,compEnvC scope cl' (h0.push { cls:=.type "list",dict:=Option.none,data:=.seq ([]:List Value).toArray }).objs.size c.env,c.stk,Cel (b6 scope cs),cl'⟩) (cs':=b6 scope cs) (c0:=c) (s:=s) (scope:=scope) (pos:=pos) (px:=px) (iter:=iter) (n0:=rows.length+1) ⟨rm.handled,rm.frames,rm.depth,rm.units⟩ ⟨⟨q0,Option.none,cd0,r0,by rw[ee];rfl⟩,hkind,rfl,rfl⟩ ⟨kk.X,kk.T⟩ ht he hx rfl rfl IT (B0:=⟨(c.L,oL)::W0.nw,W0.fz,W0.rho,c.L::W0.frs⟩) rfl rfl
  (fun hm=>hlt _ (hIs _ hm) rfl) hDfp (fun hm=>(List.mem_cons.mp hm).elim hDL hDW) (fun b hb hm=>(List.mem_cons.mp hm).elim (fun(e:b=c.L)=>absurd (e▸hb) IT.noL) id) (of_decide_eq_true cT.2)
  (RR:=compPost (model prog c.w) A E Option.none Q (.ref h0.objs.size) (h0.push { cls:=.type "list",dict:=Option.none,data:=.seq ([]:List Value).toArray }).objs.size) (fun h tk m1 W1 vs n R1 X1 O hv=>⟨m1,R1.F.ns,fun h' hs'=>Gz (s:=s) (tk:=tk) (E:=E) R0 X0 hL0 (hlt _ R0.F.ns.lt) (fun b o e=>hlt _ (Heap.lt_size (R0.F.keep b o e))) hDL hDW hp R1 X1 O hv hs'⟩)
  (rA.mk (tk:=tk0+([]:List (Str×Value)).length) RC aJ.ins (vs:=[]) (n:=0) ⟨.tail _ (.head _),fun q hq e=>hDW (e▸R0.old q hq),fun hm=>(List.mem_cons.mp hm).elim hDL fun hm=>hDW (R0.fra _ hm),fun p hp e=>hDW (e▸List.mem_map_of_mem (f:=(·.1)) (R0.fz p hp))⟩ VRs.nil (Nat.le_refl _) (Nat.zero_le _) rfl hst1
   (fun b hb hm=>(List.mem_cons.mp hm).elim (fun(e:b=c.L)=>e▸.head _) fun hm=>(List.mem_cons.mp hm).elim (fun(e:b=h0.objs.size)=>absurd (e▸hb) hDfp) (.tail _)) hgo)
 exact codeAny_compStart_list hloop (IT.walks.self 0 _ _ _ hst1 hloop)
end
section
variable {prog:Program}{K:World→Frag}{D:Nat}{cs:Scope}
theorem XB {i k p}:JE prog K D cs (.Constant (.int i) k p) (aj i):=fun c A _ _ _ s m W σ R Q E hp=>
 wpAny_Constant_int (hp _ s.heap _ m W R (aJ.refl W) (.int _ _))
theorem Qv {x k p}:JE prog K D cs (.Constant (.str x) k p) (au x):=fun c A _ _ _ s m W σ R Q E hp=>
 wpAny_Constant_str (hp _ s.heap _ m W R (aJ.refl W) (.str _ _))
noncomputable def one (f:V→S→Rs V):List V→S→Rs V:=fun xs σ=>match xs with
 | [x]=>f x σ
 | _=>.no
def oB (prog:Program) (K:World→Frag) (D:Nat) (b:Value) (f:V→S→Rs V):Prop:=
 ∀ (c:Act) (A:Around),cA D c A→∀ s m W σ,Rel c s.heap m W σ→∀ v x,RV c W v x→∀ Q E,aA c (RV c) s W Q E (f x σ)→wpAny (model prog c.w) A (call b [v]) Q E s
theorem bJ {b f}(h:oB prog K D b f):JB prog K D b (one f):=fun c A rm k s m W σ R vs xs hvs Q E hp=>by
 unfold one at hp
 split at hp
 ·rename_i x
  obtain⟨v,rfl⟩:∃ v,vs=[v]:=xP hvs.1
  exact h c A rm s m W σ R v x (hvs.get (i:=0) rfl rfl) Q E hp
 ·exact hp.elim
def bA (x:V) (σ:S):Rs V:=match cY x σ with
 | some xs=>if xs.length<2 ^ 40 then .ok (.int xs.length) σ else .no
 | Option.none=>match dG x with
  | some xs=>if xs.length<2 ^ 40 then .ok (.int xs.length) σ else .no
  | Option.none=>match x.un with
   | .str t=>if(t.length:Int)<2 ^ 63 then .ok (.int t.length) σ else .no
   | .bytes b=>if b.length≤1099511627776 then .ok (.int b.length) σ else .no
   | _=>.no
theorem c6:oB prog K D (.builtin "len") bA:=fun c A rm s m W σ R v x hv Q E hp=>by
 unfold bA at hp
 split at hp
 ·rename_i xs hx
  split at hp
  ·rename_i hz
   obtain⟨l,vs,rfl,hl,hvs⟩:=lst_is R hv hx
   have e:vs.toArray.size=xs.length:=by simpa using hvs.1
   refine Calls.call_len_list hl (by rw[e];omega) ?_
   rw[e]
   exact hp _ s.heap _ m W R (aJ.refl _) (.int _ _)
  ·exact hp.elim
 ·split at hp
  ·rename_i xs hx
   split at hp
   ·rename_i hz
    obtain⟨l,vs,rfl,hl,hvs⟩:=tup_is R hv hx
    have e:vs.toArray.size=xs.length:=by simpa using hvs.1
    refine len_tuple hl (by rw[e];omega) ?_
    rw[e]
    exact hp _ s.heap _ m W R (aJ.refl _) (.int _ _)
   ·exact hp.elim
  ·have hv':=hv.un
   split at hp
   ·rename_i t ht
    rw[ht]at hv'
    split at hp
    ·rename_i hz
     obtain⟨u,rfl⟩:=hv'.inv
     exact len_str (by omega) (hp _ s.heap _ m W R (aJ.refl _) (.int _ _))
    ·exact hp.elim
   ·rename_i b hb
    rw[hb]at hv'
    split at hp
    ·rename_i hz
     obtain⟨bb,u,rfl,rfl⟩:=hv'.inv
     refine PySem.W.len_bytes (by simpa using hz) ?_
     have:=hp _ s.heap (s.toks+1+1) m W R (aJ.refl _) (.int _ (s.toks+1))
     simpa using this
    ·exact hp.elim
   ·exact hp.elim
noncomputable def dh (x:V) (σ:S):Rs V:=match x.un with
 | .int n=>.ok (.int n) σ
 | .str t=>match PySem.intText? t with
  | some n=>if t.length≤640 then .ok (.int n) σ else .no
  | Option.none=>.no
 | _=>.no
theorem jM:oB prog K D (.type "int") dh:=fun c A rm s m W σ R v x hv Q E hp=>by
 have hv':=hv.un
 unfold dh at hp
 split at hp
 ·rename_i n hn
  rw[hn]at hv'
  obtain⟨t,rfl⟩:=hv'.inv
  exact call_int_int (hp _ s.heap _ m W R (aJ.refl _) (.int _ _))
 ·rename_i t ht
  rw[ht]at hv'
  split at hp
  ·rename_i n hn
   split at hp
   ·rename_i hl
    obtain⟨u,rfl⟩:=hv'.inv
    exact KIN.call_text hn hl (hp _ s.heap _ m W R (aJ.refl _) (.int _ _))
   ·exact hp.elim
  ·exact hp.elim
 ·exact hp.elim
noncomputable def BJ (x:V) (σ:S):Rs V:=match x.un with
 | .int n=>if n.natAbs.log2<1920 then .ok (.str (toString n)) σ else .no
 | _=>.no
theorem Lz:oB prog K D (.type "str") BJ:=fun c A rm s m W σ R v x hv Q E hp=>by
 have hv':=hv.un
 unfold BJ at hp
 split at hp
 ·rename_i n hn
  rw[hn]at hv'
  split at hp
  ·rename_i hl
   obtain⟨t,rfl⟩:=hv'.inv
   exact P.str_of_int hl (hp _ s.heap _ m W R (aJ.refl _) (.str _ _))
  ·exact hp.elim
 ·exact hp.elim
noncomputable def pJ (x:V) (σ:S):Rs V:=match x.un with
 | .int n=>.ok (.int (if n<0 then -n else n)) σ
 | _=>.no
theorem Qw:oB prog K D (.builtin "abs") pJ:=fun c A rm s m W σ R v x hv Q E hp=>by
 have hv':=hv.un
 unfold pJ at hp
 split at hp
 ·rename_i n hn
  rw[hn]at hv'
  obtain⟨t,rfl⟩:=hv'.inv
  exact call_abs_int fun u tk=>hp _ s.heap _ m W R (aJ.refl _) (.int _ _)
 ·exact hp.elim
noncomputable def intsOf:List V→Option (List Int)
 | []=>some []
 | x::xs=>match x.un with
  | .int n=>match intsOf xs with
   | some r=>some (n::r)
   | Option.none=>Option.none
  | _=>Option.none
theorem nA {c:Act}{W:aV}:∀ {xs:List V}{ns:List Int}{vs:List Value},intsOf xs=some ns→RVs c W vs xs→IntsAre vs ns
 | [],ns,vs,e,h=>by
  cases e
  have:vs=[]:=List.eq_nil_of_length_eq_zero h.1
  subst this
  exact .nil
 | x::xs,ns,vs,e,h=>by
  unfold intsOf at e
  split at e
  ·rename_i n hn
   split at e
   ·rename_i r hr
    cases e
    cases vs with
    | nil=>have:=h.1;simp at this
    | cons v vs=>
     have hv:=(h.2 0 v x rfl rfl).un
     rw[hn]at hv
     obtain⟨t,rfl⟩:=hv.inv
     exact .cons n t (nA hr ⟨by have:=h.1;simpa using this,fun i a b ha hb=>h.2 (i+1) a b (by simpa using ha) (by simpa using hb)⟩)
   ·cases e
  ·cases e
noncomputable def boolsOf:List V→Option (List Bool)
 | []=>some []
 | x::xs=>match x.un with
  | .bool n=>match boolsOf xs with
   | some r=>some (n::r)
   | Option.none=>Option.none
  | _=>Option.none
theorem vR {c:Act}{W:aV}:∀ {xs:List V}{ns:List Bool}{vs:List Value},boolsOf xs=some ns→RVs c W vs xs→LSm.BoolsAre vs ns
 | [],ns,vs,e,h=>by
  cases e
  have:vs=[]:=List.eq_nil_of_length_eq_zero h.1
  subst this
  exact .nil
 | x::xs,ns,vs,e,h=>by
  unfold boolsOf at e
  split at e
  ·rename_i n hn
   split at e
   ·rename_i r hr
    cases e
    cases vs with
    | nil=>have:=h.1;simp at this
    | cons v vs=>
     have hv:=(h.2 0 v x rfl rfl).un
     rw[hn]at hv
     obtain rfl:=hv.inv
     exact .cons n (vR hr ⟨by have:=h.1;simpa using this,fun i a b ha hb=>h.2 (i+1) a b (by simpa using ha) (by simpa using hb)⟩)
   ·cases e
  ·cases e
noncomputable def strsOf:List V→Option (List Str)
 | []=>some []
 | x::xs=>match x.un with
  | .str n=>match strsOf xs with
   | some r=>some (n::r)
   | Option.none=>Option.none
  | _=>Option.none
theorem nB {c:Act}{W:aV}:∀ {xs:List V}{ns:List Str}{vs:List Value},strsOf xs=some ns→RVs c W vs xs→StrsAre vs ns
 | [],ns,vs,e,h=>by
  cases e
  have:vs=[]:=List.eq_nil_of_length_eq_zero h.1
  subst this
  exact .nil
 | x::xs,ns,vs,e,h=>by
  unfold strsOf at e
  split at e
  ·rename_i n hn
   split at e
   ·rename_i r hr
    cases e
    cases vs with
    | nil=>have:=h.1;simp at this
    | cons v vs=>
     have hv:=(h.2 0 v x rfl rfl).un
     rw[hn]at hv
     obtain⟨t,rfl⟩:=hv.inv
     exact .cons n t (nB hr ⟨by have:=h.1;simpa using this,fun i a b ha hb=>h.2 (i+1) a b (by simpa using ha) (by simpa using hb)⟩)
   ·cases e
  ·cases e
def BK (x:V) (σ:S):Rs V:=match cY x σ with
 | some xs=>match intsOf xs with
  | some ns=>.ok (.int ns.sum) σ
  | Option.none=>.no
 | Option.none=>.no
theorem XC:oB prog K D (.builtin "sum") BK:=fun c A rm s m W σ R v x hv Q E hp=>by
 unfold BK at hp
 split at hp
 ·rename_i xs hx
  split at hp
  ·rename_i ns hn
   obtain⟨l,vs,rfl,hl,hvs⟩:=lst_is R hv hx
   exact sumK rm.handled R.F R.N hl (nA hn hvs) fun h' tk t' F' N'=>hp _ h' tk m W (R.at F' N') (aJ.refl _) (.int _ _)
  ·exact hp.elim
 ·exact hp.elim
def rB (x:V) (σ:S):Rs V:=match cY x σ with
 | some xs=>match boolsOf xs with
  | some ns=>.ok (.bool (ns.any id)) σ
  | Option.none=>.no
 | Option.none=>.no
theorem LA:oB prog K D (.builtin "any") rB:=fun c A rm s m W σ R v x hv Q E hp=>by
 unfold rB at hp
 split at hp
 ·rename_i xs hx
  split at hp
  ·rename_i ns hn
   obtain⟨l,vs,rfl,hl,hvs⟩:=lst_is R hv hx
   exact LSm.any_bools R.F R.N rm.handled hl (vR hn hvs) fun h' tk F' N'=>hp _ h' tk m W (R.at F' N') (aJ.refl _) (.bool _)
  ·exact hp.elim
 ·exact hp.elim
def xW (x:V) (σ:S):Rs V:=match cY x σ with
 | some xs=>if xs.length≤16384 then .ok (.tup xs) σ else .no
 | Option.none=>match dG x with
  | some _=>.ok x σ
  | Option.none=>.no
theorem GC:oB prog K D (.type "tuple") xW:=fun c A rm s m W σ R v x hv Q E hp=>by
 unfold xW at hp
 split at hp
 ·rename_i xs hx
  split at hp
  ·rename_i hz
   obtain⟨l,vs,rfl,hl,hvs⟩:=lst_is R hv hx
   refine kde_tupleOf R.F R.N hl (by simpa[hvs.1]using hz) rfl fun D h' F' N' l1=>?_
   obtain⟨R1,X1⟩:=R.freeze1 F' N' l1
   exact hp _ h' _ m _ R1 X1 (.tup (n:=0) (.inr (.head _)) hvs.1 (X1.vrs hvs).2)
  ·exact hp.elim
 ·split at hp
  ·rename_i xs hx
   obtain⟨l,vs,rfl,hl,hvs⟩:=tup_is R hv hx
   exact call_tuple_tup hl (hp _ s.heap s.toks m W R (aJ.refl _) hv)
  ·exact hp.elim
def GD (x:V) (σ:S):Rs V:=match cY x σ with
 | some xs=>gU xs σ
 | Option.none=>match dG x with
  | some xs=>gU xs σ
  | Option.none=>.no
theorem Vn:oB prog K D (.type "list") GD:=fun c A rm s m W σ R v x hv Q E hp=>by
 have go:∀ {vs:List Value}{xs:List V},RVs c W vs xs→aA c (RV c) s W Q E (gU xs σ)→vs.length≤sizeLine∧∀ Dd cc h',Fr c.b c.L h' m→News c.b c.L h' ((Dd,lstOf vs cc)::W.nw)→(∀ q∈W.nw,q.1<Dd)→Q (.ref Dd) { s with heap:=h' }:=fun {vs xs} hvs hp=>by
  unfold gU at hp
  split at hp
  ·rename_i hz
   refine⟨by rw[hvs.1];exact Nat.le_trans hz (Nat.le_trans (by omega) bt),fun Dd cc h' F' N' l1=>?_⟩
   obtain⟨R1,X1,V1⟩:=R.newList hvs F' N' l1
   exact hp _ h' s.toks m _ R1 X1 V1
  ·exact hp.elim
 unfold GD at hp
 split at hp
 ·rename_i xs hx
  obtain⟨l,vs,rfl,hl,hvs⟩:=lst_is R hv hx
  obtain⟨g1,g2⟩:=go hvs hp
  exact list_copyK R.F R.N hl g2 (by simpa using g1)
 ·split at hp
  ·rename_i xs hx
   obtain⟨l,vs,rfl,hl,hvs⟩:=tup_is R hv hx
   obtain⟨g1,g2⟩:=go hvs hp
   exact list_copyKT R.F R.N hl g2 (by simpa using g1)
  ·exact hp.elim
noncomputable def fO (xs:List V) (σ:S):Rs V:=if xs.length≤100000 then .ok (.lst xs) σ else .no
def rC (x:V) (σ:S):Rs V:=match cY x σ with
 | some xs=>fO xs σ
 | Option.none=>match dG x with
  | some xs=>fO xs σ
  | Option.none=>.no
theorem BL:oB prog K D (.type "list") rC:=fun c A rm s m W σ R v x hv Q E hp=>by
 have go:∀ {vs:List Value}{xs:List V},RVs c W vs xs→aA c (RV c) s W Q E (fO xs σ)→vs.length≤sizeLine∧∀ Dd cc h',Fr c.b c.L h' m→News c.b c.L h' ((Dd,lstOf vs cc)::W.nw)→(∀ q∈W.nw,q.1<Dd)→Q (.ref Dd) { s with heap:=h' }:=fun {vs xs} hvs hp=>by
  unfold fO at hp
  split at hp
  ·rename_i hz
   refine⟨by rw[hvs.1];exact Nat.le_trans hz (Nat.le_trans (by omega) bt),fun Dd cc h' F' N' l1=>?_⟩
   obtain⟨R1,X1⟩:=R.freeze1 F' N' l1
   exact hp _ h' s.toks m _ R1 X1 (.lst (n:=cc) (.inr (.head _)) hvs.1 (X1.vrs hvs).2)
  ·exact hp.elim
 unfold rC at hp
 split at hp
 ·rename_i xs hx
  obtain⟨l,vs,rfl,hl,hvs⟩:=lst_is R hv hx
  obtain⟨g1,g2⟩:=go hvs hp
  exact list_copyK R.F R.N hl g2 (by simpa using g1)
 ·split at hp
  ·rename_i xs hx
   obtain⟨l,vs,rfl,hl,hvs⟩:=tup_is R hv hx
   obtain⟨g1,g2⟩:=go hvs hp
   exact list_copyKT R.F R.N hl g2 (by simpa using g1)
  ·exact hp.elim
def aY (wa:S→Rs (List V)):W1:=fun σ=>(wa σ).bind fO
theorem Qx {es p wa}(ha:JL prog K D cs es wa):JE prog K D cs (.List es p) (aY wa):=fun c A rm fr k s m W σ R Q E hp=>
 List_ (ha.2 c A rm fr k s m W σ R p _ E (aA.bind hp fun vs xs σ1 h1 tk1 m1 W1 R1 X1 ra p1=>by
  unfold fO at p1
  split at p1
  ·rename_i hz
   refine newList_K R1.F R1.N (fun l h' F' N' l1=>?_) (by rw[ra.1];exact Nat.le_trans hz (Nat.le_trans (by omega) bt))
   obtain⟨R2,X2⟩:=R1.freeze1 F' N' l1
   exact p1 _ h' tk1 m1 _ R2 X2 (.lst (n:=_) (.inr (.head _)) ra.1 (X2.vrs ra).2)
  ·exact p1.elim))
def gd (x:V) (σ:S):Rs V:=match cY x σ with
 | some xs=>match intsOf xs with
  | some ns=>if(ns.all fun n=>decide (0≤n)&&decide (n<256))&&decide (xs.length≤100000)then .ok (.bytes (ns.map fun n=>n.toNat.toUInt8)) σ else .no
  | Option.none=>.no
 | Option.none=>match x.un with
  | .bytes b=>.ok (.bytes b) σ
  | _=>.no
end
section
variable {prog:Program}{K:World→Frag}{D:Nat}{cs:Scope}
theorem GE:typeLookup (.type "bytes") "__bytes__"=pure (some (.builtin "bytes.__bytes__")):=by rw[typeLookup_type,builtinLookup_eq_fast];kernel_rfl
theorem Jg {prog:Program}{w:World}{A:Around}{E:Value→Shared→Prop}{s:Shared}{b:Array UInt8}{t:Tok}{Q:Value→Shared→Prop}(hQ:Q (.bytes b t) s):
  codeAny (model prog w) A (.call (.builtin "bytes.__new__") ⟨[.type "bytes",.bytes b t],[]⟩) (wants Q E) s:=by
 refine codeAny_of_tree ?_
 show wpAny _ A.in1 (do checkBuiltinCall "bytes.__new__" ⟨[.type "bytes",.bytes b t],[]⟩;again (.builtin "bytes.__new__" ⟨[.type "bytes",.bytes b t],[]⟩)) _ _ s
 refine wpAny_bind (wpAny_of_eq (F.bm_newCall _) (wpAny_pure ⟨plainId_quiet F.bm_plain _,codeAny_builtin F.bm_entry ?_⟩))
 rw[Around.under_plainId F.bm_plain _]
 have hT:s.TypeIs (.bytes b t) "bytes":=typeIs_bytes s b t
 unfold Builtin.«bytes.__new__»
 refine wpAny_bind (wpAny_of_eq (a:=true) rfl ?_)
 refine bm_if_false rfl ?_
 refine wpAny_bind (wpAny_of_eq F.bm_sub ?_)
 refine bm_if_false rfl ?_
 refine wpAny_bind (wpAny_of_eq (F.bm_bind _) ?_)
 refine wpAny_bind (wpAny_of_eq (a:=()) rfl ?_)
 refine wpAny_bind (wpAny_of_eq (a:=()) rfl ?_)
 refine bm_if_false rfl ?_
 refine wpAny_bind (wpAny_specialOf hT GE ?_)
 refine wpAny_bind (wpAny_rule ?_)
 refine wpAny_bind (wpAny_of_eq (a:=Value.type "bytes") rfl ?_)
 refine bm_if_true (by decide) ?_
 exact wpAny_pure hQ
theorem u3 {prog:Program}{w:World}{A:Around}{E:Value→Shared→Prop}{s:Shared}{b:Array UInt8}{t:Tok}{Q:Value→Shared→Prop}(hQ:Q (.bytes b t) s):wpAny (model prog w) A (call (.type "bytes") [.bytes b t]) Q E s:=by
 refine callType_codes (Q₁:=fun obj s₁=>s₁.TypeIs obj "bytes"∧Q obj s₁) F.bm_called (F.bm_typeCall _) F.entry_object_init
  (Jg ⟨PySem.W.typeIs_bytes _ _ _,hQ⟩) fun obj s₁ h₁=>?_
 exact⟨h₁.1,F.args_object_init_2 obj _,object_init_meets F.bm_called.init.lookup F.bm_called.made (by decide) prog w A.in1 _ s₁ ⟨h₁.1,rfl,h₁.2⟩⟩
theorem rD:oB prog K D (.type "bytes") gd:=fun c A rm s m W σ R v x hv Q E hp=>by
 unfold gd at hp
 split at hp
 ·rename_i xs hx
  split at hp
  ·rename_i ns hn
   split at hp
   ·rename_i hc
    obtain⟨l,vs,rfl,hl,hvs⟩:=lst_is R hv hx
    rw[Bool.and_eq_true]at hc
    refine bytes_K R.F R.N hl (nA hn hvs) (fun n hn'=>?_) (by rw[hvs.1];exact Nat.le_trans (of_decide_eq_true hc.2) (Nat.le_trans (by omega) bt)) rm.handled fun h' t k F' N' _=>?_
    ·have:=List.all_eq_true.mp hc.1 n hn'
     simpa using this
    ·exact hp _ h' k m W (R.at F' N') (aJ.refl _) (VR.bytes (List.map (fun n:Int=>n.toNat.toUInt8) ns).toArray t)
   ·exact hp.elim
  ·exact hp.elim
 ·have hv':=hv.un
  split at hp
  ·rename_i b hb
   rw[hb]at hv'
   obtain⟨bb,t,rfl,rfl⟩:=hv'.inv
   exact u3 (hp _ s.heap _ m W R (aJ.refl _) (.bytes _ _))
  ·exact hp.elim
def Qy (o x:V) (σ:S):Rs V:=MP o.un fun k=>dU (BF σ.st[k]?) fun xs=>if xs.length≤100000 then .ok .none ⟨σ.env,σ.st.set k (.lst (xs++[x]))⟩else .no
theorem Qz {c:Act}{A:Around}{s:Shared}{m W σ}(R:Rel c s.heap m W σ) {o v:Value}{y x:V}(ho:RV c W o y) (hv:RV c W v x) {Q:Value→Shared→Prop}{E:Value→Shared→Prop}(hp:aA c (RV c) s W Q E (Qy y x σ)):
  ∃ Dd,o=.ref Dd∧wpAny (model prog c.w) A (call (.builtin "list.append") [.ref Dd,v]) Q E s:=by
 have ho':=ho.un
 refine P5 hp fun k hy hp=>gP hp fun xs hk hp=>?_
 rw[hy]at ho'
 split at hp
 ·rename_i hz
  obtain⟨_,_,rfl,hr⟩:=ho'.inv
  obtain⟨x',d,ro,h1,h2,h3⟩:=R.st k _ (xS hk)
  rw[hr]at h1
  cases h1
  cases h3 with
  | @lst vs n _ g1 g2=>
   subst g1
   refine⟨_,rfl,?_⟩
   have U:=tv (o':=lstOf (vs++[v]) (n+1)) h2 R.nd
   have e:lstOf (vs++[v]) (n+1)=PySem.W.listOf (vs.toArray.push v) (n+1):=by simp[PySem.W.listOf]
   refine append_K (its:=vs.toArray) (n:=n) R.F R.N (news':=put _ (lstOf (vs++[v]) (n+1)) W.nw) (by rw[← e];exact U) (fun h' F' N'=>?_) (by simp only[List.size_toArray];rw[g2.1];exact Nat.le_trans hz (Nat.le_trans (by omega) bt))
   obtain⟨R1,X1⟩:=R.upd hr h2 F' N' (OR.lst rfl (RVs.snoc g2 hv))
   exact hp _ h' s.toks m _ R1 X1 .none
 ·exact hp.elim
end
section
variable {prog:Program}{K:World→Frag}{D:Nat}{cs:Scope}
def lX (T:String) (ok:V→S→Bool):Prop:=∀ (c:Act) (h:Heap) (m:Str→Option Value) W σ (s:Shared),s.heap=h→Rel c h m W σ→∀ v x,RV c W v x→ok x σ=true→s.TypeIs v T∧∀ a,v=.ref a→∃ o,h.get? a=some o∧o.dict=Option.none
noncomputable def fm (x:V) (σ:S):Bool:=match x.un with
 | .str _=>true
 | _=>false
theorem ei:lX "str" fm:=fun c h m W σ s hs R v x hv e=>by
 have hv':=hv.un
 unfold fm at e
 split at e
 ·rename_i t ht
  rw[ht]at hv'
  obtain⟨u,rfl⟩:=hv'.inv
  exact⟨typeIs_str s _ u,fun a h=>by cases h⟩
 ·cases e
def cI (x:V) (σ:S):Bool:=(cY x σ).isSome
theorem OT:lX "list" cI:=fun c h m W σ s hs R v x hv e=>by
 obtain⟨xs,hx⟩:=Option.isSome_iff_exists.mp e
 obtain⟨a,vs,n,rfl,h1,h2⟩:=I3 R hv hx
 refine⟨⟨_,by rw[hs];exact h1,rfl⟩,fun a' e=>?_⟩
 cases e
 exact⟨_,h1,rfl⟩
noncomputable def bf (ok:V→S→Bool) (f:List V→S→Rs V) (wo:W1) (wa:S→Rs (List V)):W1:=fun σ=>(wo σ).bind fun x σ1=>if ok x σ1 then(wa σ1).bind fun xs σ2=>f (x::xs) σ2 else .no
theorem QA {T:String}{idn:String}{o name apos args pos ok f wo wa e es}(hs:MethShape cs o name apos args pos) (hT:lX T ok) (pa:PlainAttrs T) (slot:PySem.Slot T name idn) (hty:typeOf (.builtin idn)=pure (.type "method_descriptor"))
  (ho:JE prog K D cs o wo) (ha:JL prog K D cs args wa) (hf:JB prog K D (.builtin idn) f) (hargs:args=e::es) (he:∀ env,starEach (e::es) env=(false,eval e env)::starEach es env):
  JE prog K D cs (.Call (.Attribute o name apos) args [] pos) (bf ok f wo wa):=fun c A rm fr k s m W σ R Q E hp=>by
 subst hargs
 obtain⟨q,fn,ccd,r,ee⟩:=id fr.env
 obtain⟨pl,hsh⟩:=hs q c.L fn ccd r c.cl
 refine MethodCall_ (pl:=pl) (ho c A rm fr k s m W σ R _ E (aA.bind hp fun v x σ1 h1 tk1 m1 W1 R1 X1 ra p1=>?_)) (by rw[ee];exact hsh)
 split at p1
 ·rename_i hok
  obtain⟨t1,t2⟩:=hT c h1 m1 W1 σ1 { s with heap:=h1,toks:=tk1 } rfl R1 v x ra hok
  refine getMethod_builtin t1 pa slot hty t2 ?_
  dsimp only
  refine gx (.inl ⟨_,rfl⟩) (he _) (dF (ha.1 _ _) (he _)) (ha.2 c A rm fr k _ m1 W1 σ1 R1 pos _ E (aA.bind p1 fun vs xs σ2 h2 tk2 m2 W2 R2 X2 rb p2=>?_))
  exact hf c A rm k _ m2 W2 σ2 R2 _ (x::xs) (VRs.cons (ra.ext X2) rb) Q E p2
 ·exact p1.elim
theorem OU {T:String}{idn:String}{o name apos pos ok f wo}(hs:MethShape cs o name apos [] pos) (hT:lX T ok) (pa:PlainAttrs T) (slot:PySem.Slot T name idn) (hty:typeOf (.builtin idn)=pure (.type "method_descriptor"))
  (ho:JE prog K D cs o wo) (hf:JB prog K D (.builtin idn) f):JE prog K D cs (.Call (.Attribute o name apos) [] [] pos) (bf ok f wo ah):=fun c A rm fr k s m W σ R Q E hp=>by
 obtain⟨q,fn,ccd,r,ee⟩:=id fr.env
 obtain⟨pl,hsh⟩:=hs q c.L fn ccd r c.cl
 refine MethodCall_ (pl:=pl) (ho c A rm fr k s m W σ R _ E (aA.bind hp fun v x σ1 h1 tk1 m1 W1 R1 X1 ra p1=>?_)) (by rw[ee];exact hsh)
 split at p1
 ·rename_i hok
  obtain⟨t1,t2⟩:=hT c h1 m1 W1 σ1 { s with heap:=h1,toks:=tk1 } rfl R1 v x ra hok
  refine getMethod_builtin t1 pa slot hty t2 ?_
  dsimp only
  exact callWith_method0 (hf c A rm k _ m1 W1 σ1 R1 _ [x] (VRs.cons ra VRs.nil) Q E p1)
 ·exact p1.elim
def bx:List V→S→Rs V:=fun xs σ=>match xs with
 | [o,x]=>Qy o x σ
 | _=>.no
theorem bAppend:JB prog K D (.builtin "list.append") bx:=fun c A rm k s m W σ R vs xs hvs Q E hp=>by
 unfold bx at hp
 split at hp
 ·rename_i y x
  obtain⟨o,v,rfl⟩:∃ o v,vs=[o,v]:=uY hvs.1
  obtain⟨Dd,rfl,h⟩:=Qz (A:=A) R (hvs.get (i:=0) rfl rfl) (hvs.get (i:=1) rfl rfl) hp
  exact h
 ·exact hp.elim
noncomputable def gf:List V→S→Rs V:=fun xs σ=>match xs with
 | [x]=>match x.un with
  | .str t=>if t.length≤10000 then .ok (.lst ((Txt.words t).map V.str)) σ else .no
  | _=>.no
 | [x,y]=>match x.un,y.un with
  | .str t,.str u=>if t.length≤10000∧(u.length==0)=false then .ok (.lst ((Txt.split t u).map V.str)) σ else .no
  | _,_=>.no
 | _=>.no
theorem rE {P F rho}:∀ (l:List (Str×Tok)),VRs P F rho (strValues l) ((l.map (·.1)).map V.str)
 | []=>VRs.nil
 | p::l=>VRs.cons (.str _ _) (rE l)
theorem iJ:JB prog K D (.builtin "str.split") gf:=fun c A rm k s m W σ R vs xs hvs Q E hp=>by
 have fin:∀ (l:List (Str×Tok)) Dd h' kk,Fr c.b c.L h' m→News c.b c.L h' ((Dd,PySem.W.listOf (strValues l).toArray 0)::W.nw)→(∀ p∈W.nw,p.1<Dd)→aA c (RV c) s W Q E (.ok (.lst ((l.map (·.1)).map V.str)) σ)→Q (.ref Dd) { s with heap:=h',toks:=kk }:=fun l Dd h' kk F' N' l1 hp=>by
  have N'':News c.b c.L h' ((Dd,lstOf (strValues l) 0)::W.nw):=N'
  obtain⟨R1,X1⟩:=R.freeze1 F' N'' l1
  have h:=rE (P:=c.w.params) (F:=FZ c.b ((Dd,lstOf (strValues l) 0)::W.fz)) (rho:=W.rho) l
  exact hp _ h' kk m _ R1 X1 (.lst (n:=0) (.inr (.head _)) h.1 h.2)
 unfold gf at hp
 split at hp
 ·rename_i x
  obtain⟨v,rfl⟩:∃ v,vs=[v]:=xP hvs.1
  have r1:=(hvs.get (i:=0) rfl rfl).un
  split at hp
  ·rename_i t ht
   rw[ht]at r1
   split at hp
   ·rename_i hz
    obtain⟨u,rfl⟩:=r1.inv
    refine KSpl.split0 R.F R.N (fun Dd l h' kk e _ F' N' l1=>fin l Dd h' kk F' N' l1 ?_) (Nat.le_trans (Nat.add_le_add_right hz 2) (Nat.le_trans (by omega) bt))
    rw[e]
    exact hp
   ·exact hp.elim
  ·exact hp.elim
 ·rename_i x y
  obtain⟨v,v',rfl⟩:∃ v u,vs=[v,u]:=uY hvs.1
  have r1:=(hvs.get (i:=0) rfl rfl).un
  have r2:=(hvs.get (i:=1) rfl rfl).un
  split at hp
  ·rename_i t u ht hu
   rw[ht]at r1
   rw[hu]at r2
   split at hp
   ·rename_i hz
    obtain⟨a,rfl⟩:=r1.inv
    obtain⟨b,rfl⟩:=r2.inv
    refine KSpl.split1 R.F R.N hz.2 (fun Dd l h' kk e _ F' N' l1=>fin l Dd h' kk F' N' l1 ?_) (Nat.le_trans (Nat.add_le_add_right hz.1 2) (Nat.le_trans (by omega) bt))
    rw[e]
    exact hp
   ·exact hp.elim
  ·exact hp.elim
 ·exact hp.elim
def lI:List V→S→Rs V:=fun xs σ=>match xs with
 | [x,y]=>match x.un,cY y σ with
  | .str t,some zs=>match strsOf zs with
   | some ys=>if(ys.map (·.length)).sum+ys.length * t.length≤16777216 then .ok (.str (Txt.join t ys)) σ else .no
   | Option.none=>.no
  | _,_=>.no
 | _=>.no
theorem MX:JB prog K D (.builtin "str.join") lI:=fun c A rm k s m W σ R vs xs hvs Q E hp=>by
 unfold lI at hp
 split at hp
 ·rename_i x y
  obtain⟨v,v',rfl⟩:∃ v u,vs=[v,u]:=uY hvs.1
  have r1:=(hvs.get (i:=0) rfl rfl).un
  split at hp
  ·rename_i t zs ht hz
   rw[ht]at r1
   split at hp
   ·rename_i ys hys
    split at hp
    ·rename_i hok
     obtain⟨l,us,rfl,hl,hus⟩:=lst_is R (hvs.get (i:=1) rfl rfl) hz
     obtain⟨a,rfl⟩:=r1.inv
     exact join_list hl (nB hys hus) hok fun t' k'=>hp _ s.heap k' m W R (aJ.refl _) (.str _ _)
    ·exact hp.elim
   ·exact hp.elim
  ·exact hp.elim
 ·exact hp.elim
noncomputable def xX:List V→S→Rs V:=fun xs σ=>match xs with
 | [x,y]=>match x.un,y.un with
  | .str t,.str u=>if t.length≤100000 then .ok (.str (Txt.lstripChars t u)) σ else .no
  | _,_=>.no
 | _=>.no
theorem OV:JB prog K D (.builtin "str.lstrip") xX:=fun c A rm k s m W σ R vs xs hvs Q E hp=>by
 unfold xX at hp
 split at hp
 ·rename_i x y
  obtain⟨v,v',rfl⟩:∃ v u,vs=[v,u]:=uY hvs.1
  have r1:=(hvs.get (i:=0) rfl rfl).un
  have r2:=(hvs.get (i:=1) rfl rfl).un
  split at hp
  ·rename_i t u ht hu
   rw[ht]at r1
   rw[hu]at r2
   split at hp
   ·rename_i hz
    obtain⟨a,rfl⟩:=r1.inv
    obtain⟨b,rfl⟩:=r2.inv
    exact SC.lstripChars (hsz:=Nat.le_trans hz (Nat.le_trans (by omega) bt)) fun t' k'=>hp _ s.heap k' m W R (aJ.refl _) (.str _ _)
   ·exact hp.elim
  ·exact hp.elim
 ·exact hp.elim
end
section
variable {prog:Program}{K:World→Frag}{D:Nat}{cs:Scope}
theorem RVs.app {c:Act}{W:aV}{vs us:List Value}{xs ys:List V}(h:RVs c W vs xs) (g:RVs c W us ys):RVs c W (vs++us) (xs++ys):=by
 refine⟨by simp[h.1,g.1],fun j a b ha hb=>?_⟩
 by_cases hj:j<vs.length
 ·rw[List.getElem?_append_left hj]at ha
  rw[List.getElem?_append_left (h.1▸hj)]at hb
  exact h.2 j a b ha hb
 ·rw[List.getElem?_append_right (Nat.le_of_not_lt hj)]at ha
  rw[List.getElem?_append_right (h.1▸Nat.le_of_not_lt hj)]at hb
  rw[← h.1]at hb
  exact g.2 _ a b ha hb
def vS (mk:List V→S→Rs V) (x y:V) (σ:S):Rs V:=match cY x σ,cY y σ with
 | some xs,some ys=>if xs.length+ys.length≤100000 then mk (xs++ys) σ else .no
 | _,_=>.no
theorem abg:cH prog D (binaryOp .Add) (vS gU):=fun c A rm a b x y s m W σ R ra rb Q E hp=>by
 unfold vS at hp
 split at hp
 ·rename_i xs ys hx hy
  split at hp
  ·rename_i hz
   obtain⟨l,vs,rfl,hl,hvs⟩:=lst_is R ra hx
   obtain⟨l',us,rfl,hl',hus⟩:=lst_is R rb hy
   refine add_lists R.F R.N hl hl' (fun h' F' N'=>?_) (by rw[hvs.1,hus.1];exact Nat.le_trans hz (Nat.le_trans (by omega) bt))
   unfold gU at hp
   rw[if_pos (by rw[List.length_append];exact hz)]at hp
   obtain⟨R1,X1,V1⟩:=R.newList (n:=0) (RVs.app hvs hus) F' N' fun p hp=>Heap.lt_size (R.N p hp).1
   exact hp _ h' s.toks m _ R1 X1 V1
  ·exact hp.elim
 ·exact hp.elim
theorem QB:cH prog D (binaryOp .Add) (vS fO):=fun c A rm a b x y s m W σ R ra rb Q E hp=>by
 unfold vS at hp
 split at hp
 ·rename_i xs ys hx hy
  split at hp
  ·rename_i hz
   obtain⟨l,vs,rfl,hl,hvs⟩:=lst_is R ra hx
   obtain⟨l',us,rfl,hl',hus⟩:=lst_is R rb hy
   refine add_lists R.F R.N hl hl' (fun h' F' N'=>?_) (by rw[hvs.1,hus.1];exact Nat.le_trans hz (Nat.le_trans (by omega) bt))
   unfold fO at hp
   rw[if_pos (by rw[List.length_append];exact hz)]at hp
   have N'':News c.b c.L h' ((s.heap.objs.size,lstOf (vs++us) 0)::W.nw):=N'
   obtain⟨R1,X1⟩:=R.freeze1 F' N'' fun p hp=>Heap.lt_size (R.N p hp).1
   have q:=X1.vrs (RVs.app hvs hus)
   exact hp _ h' s.toks m _ R1 X1 (.lst (n:=0) (.inr (.head _)) q.1 q.2)
  ·exact hp.elim
 ·exact hp.elim
def aH (x y:V) (σ:S):Rs V:=match x.un with
 | .int _=>MS x y σ
 | .str _=>MT x y σ
 | _=>vS fO x y σ
theorem aM:cH prog D (binaryOp .Add) aH:=fun c A rm a b x y s m W σ R ra rb Q E hp=>by
 unfold aH at hp
 split at hp
 ·exact U2 c A rm a b x y s m W σ R ra rb Q E hp
 ·exact U3 c A rm a b x y s m W σ R ra rb Q E hp
 ·exact QB c A rm a b x y s m W σ R ra rb Q E hp
def JA (prog:Program) (K:World→Frag) (D:Nat) (cs:Scope) (tgt:PySem.Expr) (f:V→W2):Prop:=
 ∀ (c:Act) (A:Around),cA D c A→cE c cs→cg prog K c→∀ s m W σ,Rel c s.heap m W σ→∀ v x,RV c W v x→∀ (Q:Unit→Shared→Prop) E,aA c (fun _ _ f=>f=Fl.next) s W Q E (f x σ)→wpAny (model prog c.w) A (assign tgt c.env v) Q E s
noncomputable def aName (i:Nat):V→W2:=fun x σ=>.ok .next ⟨σ.env.set i x,σ.st⟩
theorem fH {x p i}(hx:Slot cs x i):JA prog K D cs (.Name x p) (aName i):=fun c A rm fr k s m W σ R v y hv Q E hp=>
 j0 fr R hx hv fun h' m' tk R'=>hp () h' tk m' W R' (aJ.refl _) rfl
def fW (i:Nat) (wo:W1):V→W2:=fun x σ=>(wo σ).bind fun o σ1=>xR i o x σ1
theorem oC {o p wo}{i:Nat}(hK:AF K) (ho:JE prog K D cs o wo):JA prog K D cs (.Attribute o (attrName i) p) (fW i wo):=fun c A rm fr k s m W σ R v y hv Q E hp=>by
 rw[assign_Attribute]
 refine wpAny_bind (wpAny_holding (ho c A rm fr k s m W σ R _ E (aA.bind hp fun v' z σ1 h1 tk1 m1 W1 R1 X1 ra p1=>?_)))
 refine wpAny_bind (wpAny_standAt (wpAny_bind (wpAny_holding (wpAny_mono (I2 hK k R1 ra (hv.ext X1) p1 (A:=A)) (fun _ _ h=>wpAny_release h) fun _ _ e=>e))))
noncomputable def kQ:List (V→W2)→List V→W2
 | f::fs,x::xs=>fun σ=>(f x σ).bind fun _ σ1=>kQ fs xs σ1
 | _,_=>fun σ=>.ok .next σ
inductive tx (prog:Program) (K:World→Frag) (D:Nat) (cs:Scope):List PySem.Expr→List (V→W2)→Prop
 | nil:tx prog K D cs [] []
 | cons {e es f fs}:(∀ env,assignEach (e::es) env=(false,assign e env)::assignEach es env)→JA prog K D cs e f→tx prog K D cs es fs→tx prog K D cs (e::es) (f::fs)
theorem Jh {es fs}(h:tx prog K D cs es fs) (env:Env):(assignEach es env).length=fs.length∧(assignEach es env).findIdx? (·.1)=none:=by
 induction h with
 | nil=>exact⟨rfl,rfl⟩
 | cons h1 h2 h3 ih=>
  rw[h1]
  refine⟨by simp[ih.1],?_⟩
  rw[List.findIdx?_cons]
  simp[ih.2]
theorem LB {c:Act}{A:Around}(rm:cA D c A) (fr:cE c cs) (k:cg prog K c) {E:Value→Shared→Prop}{es fs}(h:tx prog K D cs es fs):∀ (us:List Value) (xs:List V) (s:Shared) (m:Str→Option Value) (W:aV) (σ:S) (Q:Unit→Shared→Prop),us.length=fs.length→
  Rel c s.heap m W σ→RVs c W us xs→aA c (fun _ _ f=>f=Fl.next) s W Q E (kQ fs xs σ)→wpAny (model prog c.w) A (assignInOrder ((assignEach es c.env).map (·.2)) us) Q E s:=by
 induction h with
 | nil=>
  intro us xs s m W σ Q hl R hv hq
  have hu:us=[]:=List.eq_nil_of_length_eq_zero hl
  subst hu
  have hx:xs=[]:=List.eq_nil_of_length_eq_zero hv.1.symm
  subst hx
  exact wpAny_pure (hq () s.heap s.toks m W R (aJ.refl _) rfl)
 | @cons e es f fs h1 h2 h3 ih=>
  intro us xs s m W σ Q hl R hv hq
  cases us with
  | nil=>simp at hl
  | cons u us=>
   cases xs with
   | nil=>have:=hv.1;simp at this
   | cons y xs=>
    rw[h1]
    show wpAny _ _ (do holding us (assign e c.env u);assignInOrder ((assignEach es c.env).map (·.2)) us) _ _ _
    refine wpAny_bind (wpAny_holding (h2 c A rm fr k s m W σ R u y (hv.2 0 u y rfl rfl) _ E (aA.bind hq fun _ z σ1 h' tk' m' W' R' X' _ p'=>?_)))
    exact ih us xs _ m' W' σ1 Q (by simpa using hl) R' (RVs.ext ⟨by have:=hv.1;simpa using this,fun j a b ha hb=>hv.2 (j+1) a b (by simpa using ha) (by simpa using hb)⟩ X') p'
def eo (we:W1) (fs:List (V→W2)):W2:=fun σ=>(we σ).bind fun x σ1=>match dG x with
 | some xs=>if xs.length=fs.length then kQ fs xs σ1 else .no
 | Option.none=>.no
theorem pK {es k tp e p we fs}(he:JE prog K D cs e we) (ht:tx prog K D cs es fs) (hs:∀ env,swapsWithSole [.Tuple es k tp] e p.line env=pure false) (hw:∀ q L fn ccd r cl,swappedStores [.Tuple es k tp] e (envG q cs L fn ccd r cl)=pure none):
  JX prog K D cs (.Assign [.Tuple es k tp] e p) (eo we fs):=fun c A rm fr kk s m W σ R Q E hp=>by
 obtain⟨q,fn,ccd,r,ee⟩:=id fr.env
 refine Assign_Tuple (he c A rm fr kk s m W σ R _ E (aA.bind hp fun v x σ1 h1 tk1 m1 W1 R1 X1 ra p1=>?_)) (hs _) (by rw[ee];exact hw _ _ _ _ _ _)
 split at p1
 ·rename_i xs hx
  split at p1
  ·rename_i hl
   obtain⟨a,vs,rfl,hv,hvs⟩:=tup_is R1 ra hx
   obtain⟨g1,g2⟩:=Jh ht c.env
   refine unpackN_ R1.F R1.N hv rm.handled (by rw[g1,← hl,← hvs.1];simp) g2 fun h' F' N'=>?_
   refine LB rm fr kk ht vs xs { s with heap:=h',toks:=tk1 } m1 W1 σ1 _ (hvs.1.trans hl) (R1.at F' N') hvs ?_
   have p2:=aA.ext (h':=h') (tk:=tk1) p1 (aJ.refl W1)
   revert p2
   cases kQ fs xs σ1 with
   | ok f σ3=>
    intro p2 u h'' tk m' W' R' X' hf
    subst hf
    exact p2 _ h'' tk m' W' R' X' .next
   | exc C=>exact fun p2=>p2
   | no=>exact id
  ·exact p1.elim
 ·exact p1.elim
inductive jN (cs:Scope):List Str→List Nat→Prop
 | nil:jN cs [] []
 | cons {x xs i is}:Slot cs x i→jN cs xs is→jN cs (x::xs) (i::is)
theorem jN.len {cs:Scope}{xs is}(h:jN cs xs is):xs.length=is.length:=by
 induction h with
 | nil=>rfl
 | cons _ _ ih=>simp[ih]
theorem GF {c:Act}{A:Around}(fr:cE c cs) {E:Value→Shared→Prop}{ns:List Str}{sl:List Nat}(ht:jN cs ns sl):∀ (us:List Value) (xs:List V) (s:Shared) (m:Str→Option Value) (W:aV) (σ:S) (Q:Unit→Shared→Prop),us.length=sl.length→
  Rel c s.heap m W σ→RVs c W us xs→(∀ h' m' tk,Rel c h' m' W ⟨c5 σ.env sl xs,σ.st⟩→Q () { s with heap:=h',toks:=tk })→
  wpAny (model prog c.w) A (assignInOrder (ns.map fun n=>bindName c.env n) us) Q E s:=by
 induction ht with
 | nil=>
  intro us xs s m W σ Q hl R hv hq
  have hu:us=[]:=List.eq_nil_of_length_eq_zero hl
  subst hu
  have hx:xs=[]:=List.eq_nil_of_length_eq_zero hv.1.symm
  subst hx
  exact wpAny_pure (hq s.heap m s.toks R)
 | @cons x ns i is h1 h2 ih=>
  intro us xs s m W σ Q hl R hv hq
  cases us with
  | nil=>simp at hl
  | cons u us=>
   cases xs with
   | nil=>have:=hv.1;simp at this
   | cons y xs=>
    show wpAny _ _ (do holding us (bindName c.env x u);assignInOrder (ns.map fun n=>bindName c.env n) us) _ _ _
    refine wpAny_bind (wpAny_holding (bindName_ ?_))
    have hi:c.ns[i]?=some x:=fr.ns▸h1.at_
    obtain⟨q,fn,ccd,r,e⟩:=id fr.env
    have hst:wpAny (model prog c.w) A (storeName (envG q cs c.L fn ccd r c.cl) x u) (fun _ s'=>wpAny (model prog c.w) A (assignInOrder (ns.map fun n=>bindName c.env n) us) Q E s') E s:=by
     refine xO R.F R.N (fun h' F' N'=>?_) fr.kind h1.kind
     exact ih us xs { s with heap:=h',toks:=_ } _ W _ Q (by simpa using hl) (R.store (fr.ns▸h1.nd) hi (hv.2 0 u y rfl rfl) F' N') ⟨by have:=hv.1;simpa using this,fun j a b ha hb=>hv.2 (j+1) a b (by simpa using ha) (by simpa using hb)⟩ fun h'' m'' tk' R''=>hq h'' m'' tk' R''
    exact e▸hst
def er (we:W1) (slR:List Nat):W2:=fun σ=>(we σ).bind fun x σ1=>match dG x with
 | some xs=>if xs.length=slR.length then .ok .next ⟨c5 σ1.env slR xs.reverse,σ1.st⟩else .no
 | Option.none=>.no
theorem rG {es k tp e p we names slR}(he:JE prog K D cs e we) (ht:jN cs names.reverse slR) (hs:∀ env,swapsWithSole [.Tuple es k tp] e p.line env=pure false) (hw:∀ q L fn ccd r cl,swappedStores [.Tuple es k tp] e (envG q cs L fn ccd r cl)=pure (some names)):
  JX prog K D cs (.Assign [.Tuple es k tp] e p) (er we slR):=fun c A rm fr kk s m W σ R Q E hp=>by
 obtain⟨q,fn,ccd,r,ee⟩:=id fr.env
 refine Assign_Tuple_swapped (names:=names) (he c A rm fr kk s m W σ R _ E (aA.bind hp fun v x σ1 h1 tk1 m1 W1 R1 X1 ra p1=>?_)) (hs _) (by rw[ee];exact hw _ _ _ _ _ _)
 split at p1
 ·rename_i xs hx
  split at p1
  ·rename_i hl
   obtain⟨a,vs,rfl,hv,hvs⟩:=tup_is R1 ra hx
   have hnl:names.length=vs.length:=by
    have h1:=ht.len
    rw[List.length_reverse]at h1
    rw[h1,← hl,hvs.1]
   refine unpackItemsN_ R1.F R1.N hv rm.handled (by rw[hnl];simp) fun h' F' N'=>?_
   refine GF fr ht vs.reverse xs.reverse { s with heap:=h',toks:=tk1 } m1 W1 σ1 _ (by rw[List.length_reverse,hvs.1,hl]) (R1.at F' N') ⟨by simp[hvs.1],fun i u y hu hy=>?_⟩ fun h'' m'' tk'' R''=>p1 _ h'' tk'' m'' W1 R'' (aJ.refl _) .next
   have hlt:=(List.getElem?_eq_some_iff.mp hu).1
   rw[List.length_reverse]at hlt
   rw[List.getElem?_reverse hlt]at hu
   rw[List.getElem?_reverse (hvs.1▸hlt),← hvs.1]at hy
   exact hvs.2 _ u y hu hy
  ·exact p1.elim
 ·exact p1.elim
end
section
variable {prog:Program}{K:World→Frag}{D:Nat}{cs:Scope}
noncomputable def cR {α:Type}(xs:List α) (lo hi:Option Int):List α:=
 (xs.drop (lo.elim 0 (clipAt xs.length))).take (hi.elim xs.length (clipAt xs.length) - lo.elim 0 (clipAt xs.length))
theorem LC (vs:List Value) (lo hi:Option Int):slicePick vs.toArray lo hi none=(cR vs lo hi).toArray:=by
 rw[slicePick_plain]
 simp[cR]
theorem oF:∀ {a b:List UInt8},(a.map fun c=>((c.toNat:Nat):Int))=(b.map fun c=>((c.toNat:Nat):Int))→a=b
 | [],[],_=>rfl
 | [],_::_,h=>by simp at h
 | _::_,[],h=>by simp at h
 | x::a,y::b,h=>by
  simp only[List.map_cons,List.cons.injEq]at h
  have e:x=y:=UInt8.toNat_inj.mp (by have:=h.1;omega)
  rw[e,oF h.2]
theorem vT (b:Array UInt8) (lo hi:Option Int):(KBy.picked b lo hi).toList=cR b.toList lo hi:=by
 have h:=KBc.ints_picked (b:=b) (ks:=KBw.bInts b) rfl lo hi
 apply oF
 unfold cR
 rw[List.map_take,List.map_drop]
 have e:(KBw.bInts b).length=b.toList.length:=by rw[KBw.ints_length];simp
 rw[e]at h
 exact h
def JP (prog:Program) (K:World→Frag) (D:Nat) (cs:Scope) (e:Option PySem.Expr) (w:S→Rs (Option Int)):Prop:=
 ∀ (c:Act) (A:Around),cA D c A→cE c cs→cg prog K c→∀ s m W σ,Rel c s.heap m W σ→∀ (Q:Value→Shared→Prop) E,aA c (fun _ v o=>IsPart v o) s W Q E (w σ)→wpAny (model prog c.w) A (evalPart e c.env) Q E s
noncomputable def fq:S→Rs (Option Int):=fun σ=>.ok Option.none σ
theorem QC:JP prog K D cs none fq:=fun c A rm fr k s m W σ R Q E hp=>wpAny_pure (hp .none s.heap s.toks m W R (aJ.refl _) .none)
def cJ (w:W1):S→Rs (Option Int):=fun σ=>(w σ).bind fun x σ1=>jx x.un fun i=>.ok (some i) σ1
theorem QD {e w}(h:JE prog K D cs e w):JP prog K D cs (some e) (cJ w):=fun c A rm fr k s m W σ R Q E hp=>by
 show wpAny _ _ (eval e c.env) _ _ _
 refine h c A rm fr k s m W σ R _ E (aA.bind hp fun v x σ1 h1 tk1 m1 W1 R1 X1 ra p1=>?_)
 refine xN p1 fun i hi p1=>?_
 obtain⟨t,rfl⟩:=VR.int_e ra hi
 exact p1 _ h1 tk1 m1 W1 R1 (aJ.refl _) (.int i t)
def iK (x:V) (lo hi:Option Int) (σ:S):Rs V:=match x.un with
 | .bytes b=>if b.length≤100000 then .ok (.bytes (cR b lo hi)) σ else .no
 | .str t=>if t.length≤100000 then .ok (.str (Txt.slice t lo hi)) σ else .no
 | _=>match cY x σ with
  | some xs=>if xs.length≤100000 then .ok (.lst (cR xs lo hi)) σ else .no
  | Option.none=>.no
section
variable {c:Act}{A:Around}{value:PySem.Expr}{lo0 hi0:Option PySem.Expr}{p:Pos}{s:Shared}{m:Str→Option Value}{W:aV}{σ:S}{vl vu:Value}{lo hi:Option Int}{Q:Value→Shared→Prop}{E:Value→Shared→Prop}
noncomputable abbrev oo (h:Heap) (vl vu:Value):Heap:=h.push { cls:=.type "slice",data:=.fields #[vl,vu,.none] }
theorem Ji {bb:Array UInt8}{t:Tok}(Rp:Rel c (oo s.heap vl vu) m W σ) (hl:IsPart vl lo) (hu:IsPart vu hi) (hz:bb.toList.length≤100000) (hp:aA c (RV c) s W Q E (.ok (.bytes (cR bb.toList lo hi)) σ)):
  wpAny (model prog c.w) A (subscriptTail value (.Slice lo0 hi0 none p) (.bytes bb t) (.ref s.heap.objs.size)) Q E { s with heap:=oo s.heap vl vu }:=by
 refine tail_any (typeIs_bytes _ _ _) FB.slot_bytes_getitem.lookup (getItem_meets (typeIs_bytes _ _ _) (by decide) FB.slot_bytes_getitem FB.entry_bytes_getitem (FB.args_bytes_getitem_2 _ _) (KBc.meets_slice2 bb t _ hl hu) ⟨Heap.IsSliceOf.new _ _ _ _,?_,fun t' k=>?_⟩) rfl
 ·rw[← Array.length_toList,vT]
  exact Nat.le_trans (Nat.le_trans (List.length_take_le' ..) (by rw[List.length_drop];exact Nat.le_trans (Nat.sub_le _ _) hz)) (Nat.le_trans (by decide) bt)
 ·exact hp _ _ _ m W Rp (aJ.refl _) (vT bb lo hi▸.bytes _ _)
theorem part_of {v:Value}{o:Option Int}(h:IsPart v o):∃ l:Option (Int×Tok),v=partValue l∧o=l.map (·.1):=by
 cases h with
 | none=>exact⟨none,rfl,rfl⟩
 | int i t=>exact⟨some (i,t),rfl,rfl⟩
theorem cut_str {t:Str}{u:Tok}(Rp:Rel c (oo s.heap vl vu) m W σ) (hl:IsPart vl lo) (hu:IsPart vu hi) (hz:t.length≤100000) (hp:aA c (RV c) s W Q E (.ok (.str (Txt.slice t lo hi)) σ)):
  wpAny (model prog c.w) A (subscriptTail value (.Slice lo0 hi0 none p) (.str t u) (.ref s.heap.objs.size)) Q E { s with heap:=oo s.heap vl vu }:=by
 have hsz:t.length≤sizeLine:=Nat.le_trans hz (Nat.le_trans (by decide) bt)
 refine tail_any (typeIs_str _ _ _) F.slot_str_getitem.lookup ((part_of hl).elim fun l e=>(part_of hu).elim fun u' e'=>?_) rfl
 have key:wpAny (model prog c.w) A (getItem (.str t u) (.ref s.heap.objs.size)) Q E { s with heap:=s.heap.push { cls:=.type "slice",data:=.fields #[partValue l,partValue u',.none] } }:=by
  have hp:=fun k tk=>hp (.str (Txt.slice t (l.map (·.1)) (u'.map (·.1))) tk) _ k m W Rp (aJ.refl _) (e.2▸e'.2▸.str _ _)
  rw[e.1,e'.1]at hp
  clear e e' hl hu Rp
  cases l <;> cases u'
  ·exact wpAny_getItem_str_slice (l:=none) (u:=none) (st:=none) ⟨_,Heap.get?_push_size _ rfl,rfl,rfl⟩ rfl (post_val_or_str ⟨Nat.le_trans (Txt.slice_le t _ _) hsz,fun t' k=>hp k t'⟩)
  ·rename_i p1;exact wpAny_getItem_str_slice (l:=none) (u:=some p1) (st:=none) ⟨_,Heap.get?_push_size _ rfl,rfl,rfl⟩ rfl (post_val_or_str ⟨Nat.le_trans (Txt.slice_le t _ _) hsz,fun t' k=>hp k t'⟩)
  ·rename_i p1;exact wpAny_getItem_str_slice (l:=some p1) (u:=none) (st:=none) ⟨_,Heap.get?_push_size _ rfl,rfl,rfl⟩ rfl (post_val_or_str ⟨Nat.le_trans (Txt.slice_le t _ _) hsz,fun t' k=>hp k t'⟩)
  ·rename_i p1 p2;exact wpAny_getItem_str_slice (l:=some p1) (u:=some p2) (st:=none) ⟨_,Heap.get?_push_size _ rfl,rfl,rfl⟩ rfl (post_val_or_str ⟨Nat.le_trans (Txt.slice_le t _ _) hsz,fun t' k=>hp k t'⟩)
 exact e.1▸e'.1▸key
theorem OW {vs:List Value}{xs:List V}(h:RVs c W vs xs):RVs c W (cR vs lo hi) (cR xs lo hi):=by
 unfold cR
 rw[h.1]
 refine⟨by rw[List.length_take,List.length_take,List.length_drop,List.length_drop,h.1],fun i u y hu hy=>?_⟩
 rw[List.getElem?_take]at hu hy
 by_cases hlt:i<hi.elim xs.length (clipAt xs.length) - lo.elim 0 (clipAt xs.length)
 ·rw[if_pos hlt,List.getElem?_drop]at hu hy
  exact h.2 _ u y hu hy
 ·rw[if_neg hlt]at hu;exact ay hu
theorem OX {a:Addr}{vs:List Value}{xs:List V}(Rp:Rel c (oo s.heap vl vu) m W σ) (hl:IsPart vl lo) (hu:IsPart vu hi) (hls:(oo s.heap vl vu).IsList a vs.toArray) (hvs:RVs c W vs xs) (hz:xs.length≤100000) (hp:aA c (RV c) s W Q E (.ok (.lst (cR xs lo hi)) σ)):
  wpAny (model prog c.w) A (subscriptTail value (.Slice lo0 hi0 none p) (.ref a) (.ref s.heap.objs.size)) Q E { s with heap:=oo s.heap vl vu }:=by
 refine tail_any hls.typeIs list_getitem_lookup (wpAny_getItem_list_slice hls (Heap.IsSliceOf.new ..) hl hu .none (by simp) ?_ ?_) rfl
 ·rw[LC]
  have N1:News c.b c.L ((oo s.heap vl vu).push { cls:=.type "list",data:=.seq (cR vs lo hi).toArray }) (((oo s.heap vl vu).objs.size,lstOf (cR vs lo hi) 0)::W.nw):=News.push Rp.F Rp.N ({ cls:=.type "list",data:=.seq (cR vs lo hi).toArray }:Obj)
  have r:=Rp.freeze1 (Rp.F.push _) N1 fun p hp=>Heap.lt_size (Rp.N p hp).1
  have q:=r.2.vrs (OW (lo:=lo) (hi:=hi) hvs)
  exact hp _ _ _ m _ r.1 r.2 (.lst (n:=0) (.inr (.head _)) q.1 q.2)
 ·rw[List.size_toArray,hvs.1]
  exact Nat.le_trans hz (Nat.le_trans (by decide) bt)
theorem QE {lower:PySem.Expr}(R:Rel c s.heap m W σ) {v:Value}{x:V}(hv:RV c W v x) (hl:IsPart vl lo) (hu:IsPart vu hi) (hp:aA c (RV c) s W Q E (iK x lo hi σ)):
  wpAny (model prog c.w) A (subscriptTail value (.Slice lo0 hi0 none p) v (.ref s.heap.objs.size)) Q E { s with heap:=s.heap.push { cls:=.type "slice",data:=.fields #[vl,vu,.none] } }:=by
 have hv':=hv.un
 have Rp:Rel c (oo s.heap vl vu) m W σ:=R.grow fun b o e=>Heap.get?_push_of_some _ e
 unfold iK at hp
 split at hp
 ·rename_i b hb
  rw[hb]at hv'
  exact aA.iteP hp fun hz hp=>hv'.inv.elim fun bb h=>h.elim fun t e=>by
   rw[e.1]
   rw[e.2]at hz hp
   exact Ji Rp hl hu hz hp
 ·rename_i t ht
  rw[ht]at hv'
  exact aA.iteP hp fun hz hp=>hv'.inv.elim fun u e=>e▸cut_str Rp hl hu hz hp
 ·cases hx:cY x σ with
  | none=>rw[hx]at hp;exact hp.elim
  | some xs=>
   rw[hx]at hp
   exact aA.iteP hp fun hz hp=>(lst_is Rp hv hx).elim fun a h=>h.elim fun vs g=>g.1▸OX Rp hl hu g.2.1 g.2.2 hz hp
end
def eE (w:W1) (wl wu:S→Rs (Option Int)):W1:=fun σ=>(w σ).bind fun x σ1=>(wl σ1).bind fun lo σ2=>(wu σ2).bind fun hi σ3=>iK x lo hi σ3
theorem XD {value lo hi p pos w wl wu}(h:JE prog K D cs value w) (hl:JP prog K D cs lo wl) (hu:JP prog K D cs hi wu):JE prog K D cs (.Subscript value (.Slice lo hi none p) pos) (eE w wl wu):=fun c A rm fr k s m W σ R Q E hp=>by
 refine Subscript_ (h c A rm fr k s m W σ R _ E (aA.bind hp fun v x σ1 h1 tk1 m1 W1 R1 X1 ra p1=>?_))
 refine wpAny_Slice (hl c A rm fr k _ m1 W1 σ1 R1 _ E (aA.bind p1 fun vl lo' σ2 h2 tk2 m2 W2 R2 X2 rl p2=>?_))
 refine hu c A rm fr k _ m2 W2 σ2 R2 _ E (aA.bind p2 fun vu hi' σ3 h3 tk3 m3 W3 R3 X3 ru p3=>?_)
 rw[evalPart_none]
 refine wpAny_pure ?_
 exact QE (s:={ s with heap:=h3,toks:=tk3 }) (lower:=value) R3 (ra.ext (X2.trans X3)) rl ru p3
end
section
open PySem PySem.W PyProof.Rows PySem.Calls PySem.SeqAt
variable {prog:Program}{K:World→Frag}{D:Nat}{cs:Scope}
theorem EqAt.bytes_bytes {A:Around}{s:Shared}(a:Array UInt8) (t:Tok) (b:Array UInt8) (u:Tok):EqAt A s (.bytes a t) (.bytes b u) (a.toList==b.toList):=fun prog w E Q h=>by
 unfold eqBool
 refine wpAny_holding ?_
 refine wpAny_ite_split (fun hab=>?_) (fun _=>?_)
 ·have e:a=b:=by have:=eq_of_beq hab;injection this
  subst e
  exact wpAny_bind (wpAny_rule (wpAny_pure (by simpa using h)))
 ·exact wpAny_bind (PySem.W.eq_bytes (wpAny_truthy_bool h))
noncomputable def dI (f:V→V→Option Bool):List V→List V→Option Bool
 | [],[]=>some true
 | x::xs,y::ys=>match f x y with
  | some a=>match dI f xs ys with
   | some b=>some (a&&b)
   | Option.none=>Option.none
  | Option.none=>Option.none
 | _,_=>Option.none
theorem gy {f:V→V→Option Bool}:∀ {xs ys:List V}{r:Bool},dI f xs ys=some r→xs.length=ys.length∧∃ e:Nat→Bool,(∀ (j:Nat) x y,xs[j]?=some x→ys[j]?=some y→f x y=some (e j))∧r=(List.range xs.length).all e
 | [],[],r,h=>by cases h;exact⟨rfl,fun _=>true,fun j x y hx=>by simp at hx,rfl⟩
 | [],_::_,r,h=>by cases h
 | _::_,[],r,h=>by cases h
 | x::xs,y::ys,r,h=>by
  unfold dI at h
  split at h
  ·rename_i a ha
   split at h
   ·rename_i b hb
    cases h
    obtain⟨h1,e,h2,h3⟩:=gy hb
    refine⟨by simp[h1],fun j=>match j with
     | 0=>a
     | j+1=>e j,fun j x' y' hx hy=>?_,?_⟩
    ·cases j with
     | zero=>simp at hx hy;subst hx hy;exact ha
     | succ j=>exact h2 j x' y' (by simpa using hx) (by simpa using hy)
    ·rw[h3]
     simp only[List.length_cons,List.range_succ_eq_map,List.all_cons,List.all_map]
     rfl
   ·cases h
  ·cases h
noncomputable def QF (v:V):Option Bool:=@V.casesOn (fun _=>Option Bool) v none none (fun n=>some n) (fun _=>none) (fun _=>none) (fun _=>none) (fun _=>none) (fun _=>none) (fun _ _=>none) (fun _=>none) (fun _=>none) (fun _=>none) (fun _ _=>none)
theorem QG {y:V}{b}(e:QF y=some b):y=.bool b:=by
 revert e
 exact V.casesOn (motive_1:=fun y=>QF y=some b→y=.bool b) y ay ay (fun _ e=>congrArg V.bool (Option.some.inj e)) (fun _=>ay) (fun _=>ay) (fun _=>ay) (fun _=>ay) (fun _=>ay) (fun _ _=>ay) (fun _=>ay) (fun _=>ay) (fun _=>ay) (fun _ _=>ay)
noncomputable def MY:V→Bool
 | .none=>true
 | _=>false
def rH (f:V→V→Option Bool) (x y:V):Option Bool:=match x with
 | .int a=>(EM y).bind fun b=>some (a==b)
 | .str a=>(uV y).bind fun b=>some (a==b)
 | .bool a=>(QF y).bind fun b=>some (a==b)
 | .bytes a=>(xK y).bind fun b=>some (a==b)
 | .none=>if MY y=true then some true else Option.none
 | .tup xs=>(By y).bind fun ys=>dI f xs ys
 | .lst xs=>(Gi y).bind fun ys=>if xs.length=ys.length then dI f xs ys else some false
 | _=>Option.none
theorem tA {α:Type}{o:Option α}{g:α→Option Bool}{r:Bool}{G:Prop}(h:o.bind g=some r) (k:∀ b,o=some b→g b=some r→G):G:=by
 cases o with
 | none=>cases h
 | some b=>exact k b rfl h
theorem Jj {y:V}(e:MY y=true):y=.none:=by
 revert e
 exact V.casesOn (motive_1:=fun y=>MY y=true→y=.none) y (fun e=>Bool.noConfusion e) (fun _=>rfl) (fun _ e=>Bool.noConfusion e) (fun _ e=>Bool.noConfusion e) (fun _ e=>Bool.noConfusion e) (fun _ e=>Bool.noConfusion e) (fun _ e=>Bool.noConfusion e) (fun _ e=>Bool.noConfusion e) (fun _ _ e=>Bool.noConfusion e) (fun _ e=>Bool.noConfusion e) (fun _ e=>Bool.noConfusion e) (fun _ e=>Bool.noConfusion e) (fun _ _ e=>Bool.noConfusion e)
theorem QH {b r:Bool}{G:Prop}(h:(if b=true then some true else Option.none)=some r) (k:b=true→true=r→G):G:=by
 cases b with
 | false=>cases h
 | true=>exact k rfl (Option.some.inj h)
theorem EV {f:V→V→Option Bool}{x y:V}{r:Bool}{G:Prop}(h:rH f x y=some r) (ki:∀ a b,x=.int a→y=.int b→(a==b)=r→G) (ks:∀ a b,x=.str a→y=.str b→(a==b)=r→G)
  (kb:∀ a b,x=.bool a→y=.bool b→(a==b)=r→G) (ky:∀ a b,x=.bytes a→y=.bytes b→(a==b)=r→G) (kn:x=.none→y=.none→true=r→G)
  (kt:∀ a b,x=.tup a→y=.tup b→dI f a b=some r→G) (kl:∀ a b,x=.lst a→y=.lst b→(if a.length=b.length then dI f a b else some false)=some r→G):G:=by
 have h':∀ z,x=z→rH f z y=some r→G:=fun z=>V.casesOn (motive_1:=fun z=>x=z→rH f z y=some r→G) z (fun _=>ay) (fun e h=>QH h fun q q2=>kn e (Jj q) q2) (fun a e h=>tA h fun b h1 h2=>kb a b e (QG h1) (Option.some.inj h2)) (fun a e h=>tA h fun b h1 h2=>ki a b e (vL h1) (Option.some.inj h2)) (fun a e h=>tA h fun b h1 h2=>ks a b e (tj h1) (Option.some.inj h2)) (fun a e h=>tA h fun b h1 h2=>ky a b e (tm h1) (Option.some.inj h2)) (fun _ _=>ay) (fun _ _=>ay) (fun _ _ _=>ay) (fun a e h=>tA h fun b h1 h2=>kl a b e (EN h1) h2) (fun a e h=>tA h fun b h1 h2=>kt a b e (xM h1) h2) (fun _ _=>ay) (fun _ _ _=>ay)
 exact h' x rfl h
def eqT:Nat→V→V→Option Bool
 | 0,_,_=>Option.none
 | k+1,x,y=>rH (eqT k) x.un y.un
theorem lY (k:Nat) (x y:V):eqT (k+1) x y=rH (eqT k) x.un y.un:=.trans rfl rfl
section
variable {f:V→V→Option Bool}
theorem xY (a b:Int):rH f (.int a) (.int b)=some (a==b):=.trans rfl rfl
theorem xZ (a b:Str):rH f (.str a) (.str b)=some (a==b):=.trans rfl rfl
theorem LD (a b:Bool):rH f (.bool a) (.bool b)=some (a==b):=.trans rfl rfl
theorem Jk (a b:List UInt8):rH f (.bytes a) (.bytes b)=some (a==b):=.trans rfl rfl
theorem LF:rH f .none .none=some true:=.trans rfl rfl
theorem yb (a b:List V):rH f (.tup a) (.tup b)=dI f a b:=.trans rfl rfl
end
theorem EW {α:Type}{a b:List α}(h:a.toArray=b.toArray):a=b:=by have:=congrArg Array.toList h;simpa using this
theorem EX {vs us:List Value}{n m:Nat}{c:String}(h:({ cls:=.type c,data:=.seq vs.toArray n }:Obj)={ cls:=.type c,data:=.seq us.toArray m }):vs=us:=by
 injection h with _ _ h _
 injection h with h _
 exact EW h
theorem QI {P:Params}{F:Addr→Obj→Prop}{rho:List (Addr×Addr)}(hF:∀ a o o',F a o→F a o'→o=o') {N:Type}{o:List Value→N→Obj}(hi:∀ {vs us n m},o vs n=o us m→vs=us) {v:Value}{xs ys:List V}
  (h1:∃ a vs n,v=.ref a∧F a (o vs n)∧VRs P F rho vs xs) (h2:∃ a vs n,v=.ref a∧F a (o vs n)∧VRs P F rho vs ys) {G:Prop}(k:∀ vs,VRs P F rho vs xs→VRs P F rho vs ys→G):G:=by
 obtain⟨a,vs,n,e,f1,f2⟩:=h1
 obtain⟨b,us,m,e',g1,g2⟩:=h2
 cases e.symm.trans e'
 cases hi (hF _ _ _ f1 g1)
 exact k _ f2 g2
theorem BM {P:Params}{F:Addr→Obj→Prop}{rho:List (Addr×Addr)}(hF:∀ a o o',F a o→F a o'→o=o'):∀ (k:Nat) (x y:V) (v:Value) (r:Bool),eqT k x y=some r→VR P F rho v x→VR P F rho v y→r=true
 | 0,_,_,_,_,e,_,_=>by cases e
 | k+1,x,y,v,r,e,hx,hy=>by
  have ih:=BM (P:=P) (rho:=rho) hF k
  have hx':=hx.un
  have hy':=hy.un
  rw[lY]at e
  have seqs:∀ {xs ys:List V}{vs:List Value},dI (eqT k) xs ys=some r→vs.length=xs.length→(∀ (i:Nat) v x,vs[i]?=some v→xs[i]?=some x→VR P F rho v x)→(∀ (i:Nat) v x,vs[i]?=some v→ys[i]?=some x→VR P F rho v x)→r=true:=by
   intro xs ys vs e hl h1 h2
   obtain⟨g1,f,g2,g3⟩:=gy e
   rw[g3,List.all_eq_true]
   intro j hj
   have hj:=List.mem_range.mp hj
   have a1:=List.getElem?_eq_getElem hj
   have a2:=List.getElem?_eq_getElem (g1▸hj)
   have a3:=List.getElem?_eq_getElem (hl.symm▸hj)
   exact ih _ _ _ _ (g2 j _ _ a1 a2) (h1 j _ _ a3 a1) (h2 j _ _ a3 a2)
  refine EV e (fun a b ha hb e=>?_) (fun a b ha hb e=>?_) (fun a b ha hb e=>?_) (fun a b ha hb e=>?_) (fun _ _ e=>e.symm) (fun a b ha hb e=>?_) fun a b ha hb e=>?_
  all_goals rw[ha]at hx';rw[hb]at hy'
  ·obtain⟨_,q1⟩:=hx'.inv;obtain⟨_,q2⟩:=hy'.inv;injection q1.symm.trans q2 with q1;exact e.symm.trans (beq_iff_eq.mpr q1)
  ·obtain⟨_,q1⟩:=hx'.inv;obtain⟨_,q2⟩:=hy'.inv;injection q1.symm.trans q2 with q1;exact e.symm.trans (beq_iff_eq.mpr q1)
  ·injection (show v=_ from hx'.inv).symm.trans hy'.inv with q1;exact e.symm.trans (beq_iff_eq.mpr q1)
  ·obtain⟨_,_,q1,q3⟩:=hx'.inv;obtain⟨_,_,q2,q4⟩:=hy'.inv;injection q1.symm.trans q2 with q1;exact e.symm.trans (beq_iff_eq.mpr (by rw[q3,q4,q1]))
  ·exact QI hF (fun h=>EX h) hx'.inv hy'.inv fun vs f g=>seqs e f.1 f.2 g.2
  ·exact QI hF (fun h=>EX h) hx'.inv hy'.inv fun vs f g=>seqs ((if_pos (f.1.symm.trans g.1)).symm.trans e) f.1 f.2 g.2
theorem Rel.fun {c:Act}{h:Heap}{m W σ}(R:Rel c h m W σ) (a:Addr) (o o':Obj) (h1:FZ c.b W.fz a o) (h2:FZ c.b W.fz a o'):o=o':=by
 have e1:=R.fz_at h1
 have e2:=R.fz_at h2
 rw[e1]at e2
 exact Option.some.inj e2
theorem Jl {c:Act}{s:Shared}{m W σ}(R:Rel c s.heap m W σ):∀ (k:Nat) (x y:V) (v u:Value) (r:Bool) (A:Around),A.units+k<cLine→eqT k x y=some r→RV c W v x→RV c W u y→EqAt A s v u r
 | 0,_,_,_,_,_,_,_,e,_,_=>by cases e
 | k+1,x,y,v,u,r,A,hu,e,hx,hy=>by
  have ih:=Jl R k
  by_cases hvu:v=u
  ·subst hvu
   have:=BM R.fun (k+1) x y v r e hx hy
   subst this
   exact EqAt.same v
  have hx':=hx.un
  have hy':=hy.un
  rw[lY]at e
  have hin:A.in1.units+k<cLine:=by show A.units+1+k<cLine;omega
  have seqs:∀ {xs ys:List V}{vs us:List Value},RVs c W vs xs→RVs c W us ys→∀ f:Nat→Bool,(∀ (j:Nat) x y,xs[j]?=some x→ys[j]?=some y→eqT k x y=some (f j))→
    ∀ j (h1:j<vs.toArray.size) (h2:j<us.toArray.size),EqAt A.in1 s vs.toArray[j] us.toArray[j] (f j):=by
   intro xs ys vs us hv hu' f hf j h1 h2
   rw[List.size_toArray]at h1 h2
   have a1:=List.getElem?_eq_getElem h1
   have a2:=List.getElem?_eq_getElem h2
   have b1:=List.getElem?_eq_getElem (hv.1▸h1)
   have b2:=List.getElem?_eq_getElem (hu'.1▸h2)
   exact ih _ _ _ _ _ A.in1 hin (hf j _ _ b1 b2) (hv.2 j _ _ a1 b1) (hu'.2 j _ _ a2 b2)
  refine EV e (fun a b ha hb e=>?_) (fun a b ha hb e=>?_) (fun a b ha hb e=>?_) (fun a b ha hb e=>?_) (fun ha hb e=>?_) (fun a b ha hb e=>?_) fun a b ha hb e=>?_
  ·rw[ha]at hx';rw[hb]at hy'
   cases e;obtain⟨_,rfl⟩:=hx'.inv;obtain⟨_,rfl⟩:=hy'.inv;exact EqAt.int_int _ _ _ _
  ·rw[ha]at hx';rw[hb]at hy'
   cases e;obtain⟨_,rfl⟩:=hx'.inv;obtain⟨_,rfl⟩:=hy'.inv;exact EqAt.str_str _ _ _ _
  ·rw[ha]at hx';rw[hb]at hy'
   cases e;obtain rfl:v=_:=hx'.inv;obtain rfl:u=_:=hy'.inv;exact EqAt.bool_bool _ _
  ·rw[ha]at hx';rw[hb]at hy'
   cases e;obtain⟨_,_,rfl,rfl⟩:=hx'.inv;obtain⟨_,_,rfl,rfl⟩:=hy'.inv;exact EqAt.bytes_bytes _ _ _ _
  ·rw[ha]at hx';rw[hb]at hy'
   exact absurd ((show v=_ from hx'.inv).trans (show u=_ from hy'.inv).symm) hvu
  ·obtain⟨l,vs,rfl,hl,hvs⟩:=tup_is R hx (show dG x=some a by unfold dG;rw[ha])
   obtain⟨l',us,rfl,hl',hus⟩:=tup_is R hy (show dG y=some b by unfold dG;rw[hb])
   obtain⟨g1,f,g2,g3⟩:=gy e
   have q:=RcAt.tuples (A:=A) (e:=f) hl hl' (by omega) (seqs hvs hus f g2)
   have e2:((List.range (min vs.toArray.size us.toArray.size)).all f&&vs.toArray.size==us.toArray.size)=r:=by
    have l1:vs.toArray.size=a.length:=by simpa using hvs.1
    have l2:us.toArray.size=a.length:=by rw[g1];simpa using hus.1
    rw[l1,l2,g3]
    simp
   rw[e2]at q
   exact EqAt.of_refs (fun e=>hvu (by rw[e])) q
  ·obtain⟨l,vs,rfl,hl,hvs⟩:=lst_is R hx (show cY x σ=some a by unfold cY;rw[ha])
   obtain⟨l',us,rfl,hl',hus⟩:=lst_is R hy (show cY y σ=some b by unfold cY;rw[hb])
   have l1:vs.toArray.size=a.length:=by simpa using hvs.1
   have l2:us.toArray.size=b.length:=by simpa using hus.1
   split at e
   ·rename_i hlen
    obtain⟨g1,f,g2,g3⟩:=gy e
    have q:=RcAt.lists (A:=A) (e:=f) hl hl' (by rw[l1,l2,hlen]) (by omega) (seqs hvs hus f g2)
    rw[l1,← g3]at q
    exact EqAt.of_refs (fun e=>hvu (by rw[e])) q
   ·rename_i hlen
    cases e
    exact EqAt.of_refs (fun e=>hvu (by rw[e])) (RcAt.lists_lengths hl hl' (by rw[l1,l2];simpa using hlen) (by omega))
def GH (neg:Bool) (x y:V) (σ:S):Rs V:=qo (xK x.un) (fun a=>ML y.un fun b=>.ok (.bool (xor neg (a==b))) σ) <|
 qo (By x.un) (fun xs=>MN y.un fun ys=>dU (dI (eqT 6) xs ys) fun r=>.ok (.bool (xor neg r)) σ) <|
 MM x.un fun xs=>MM y.un fun ys=>if xs.length=ys.length then dU (dI (eqT 6) xs ys) fun r=>.ok (.bool (xor neg r)) σ else .ok (.bool (xor neg false)) σ
theorem BN {c:Act}{A:Around}(rm:cA D c A) {s:Shared}{m W σ}(R:Rel c s.heap m W σ) {a b:Value}{x y:V}(ra:RV c W a x) (rb:RV c W b y) {neg:Bool}{Q:Value→Shared→Prop}{E:Value→Shared→Prop}(hp:aA c (RV c) s W Q E (GH neg x y σ)):
  wpAny (model prog c.w) A (compareOp (if neg then .NotEq else .Eq) a b) Q E s:=by
 have ra':=ra.un
 have rb':=rb.un
 have hu:=rm.units
 have fin:∀ r:Bool,aA c (RV c) s W Q E (.ok (.bool r) σ)→Q (.bool r) s:=fun r hp=>hp _ s.heap s.toks m W R (aJ.refl _) (.bool _)
 have seqs:∀ {xs ys:List V}{vs us:List Value},RVs c W vs xs→RVs c W us ys→∀ f:Nat→Bool,(∀ (j:Nat) x y,xs[j]?=some x→ys[j]?=some y→eqT 6 x y=some (f j))→
   ∀ j (h1:j<vs.toArray.size) (h2:j<us.toArray.size),EqAt A.in1 s vs.toArray[j] us.toArray[j] (f j):=by
  intro xs ys vs us hv hu' f hf j h1 h2
  rw[List.size_toArray]at h1 h2
  have a1:=List.getElem?_eq_getElem h1
  have a2:=List.getElem?_eq_getElem h2
  have b1:=List.getElem?_eq_getElem (hv.1▸h1)
  have b2:=List.getElem?_eq_getElem (hu'.1▸h2)
  exact Jl R 6 _ _ _ _ _ A.in1 (by show A.units+1+6<cLine;omega) (hf j _ _ b1 b2) (hv.2 j _ _ a1 b1) (hu'.2 j _ _ a2 b2)
 refine oj hp (fun p hx hp=>Xg hp fun q hy hp=>?_) fun hp=>oj hp (fun xs hx hp=>P4 hp fun ys hy hp=>gP hp fun r hr hp=>?_) fun hp=>P3 hp fun xs hx hp=>P3 hp fun ys hy hp=>?_
 ·rw[tm hx]at ra';rw[hy]at rb'
  obtain⟨_,_,rfl,rfl⟩:=ra'.inv
  obtain⟨_,_,rfl,rfl⟩:=rb'.inv
  cases neg with
  | false=>exact PySem.W.eq_bytes (fin _ (by simpa using hp))
  | true=>
   refine PySem.W.ne_bytes (fin _ ?_)
   simpa[bne]using hp
 ·have hx:=xM hx
  obtain⟨l,vs,rfl,hl,hvs⟩:=tup_is R ra (show dG x=some xs by unfold dG;rw[hx])
  obtain⟨l',us,rfl,hl',hus⟩:=tup_is R rb (show dG y=some ys by unfold dG;rw[hy])
  obtain⟨g1,f,g2,g3⟩:=gy hr
  have e2:((List.range (min vs.toArray.size us.toArray.size)).all f&&vs.toArray.size==us.toArray.size)=r:=by
   have l1:vs.toArray.size=xs.length:=by simpa using hvs.1
   have l2:us.toArray.size=xs.length:=by rw[g1];simpa using hus.1
   rw[l1,l2,g3]
   simp
  cases neg with
  | false=>
   have q:=RcAt.tuples (A:=A) (e:=f) hl hl' (by omega) (seqs hvs hus f g2)
   rw[e2]at q
   exact q prog c.w E Q (fin _ (by simpa using hp))
  | true=>
   have q:=RcNeAt.tuples (A:=A) (e:=f) hl hl' (by omega) (seqs hvs hus f g2)
   rw[e2]at q
   exact q prog c.w E Q (fin _ (by simpa using hp))
 ·obtain⟨l,vs,rfl,hl,hvs⟩:=lst_is R ra (show cY x σ=some xs by unfold cY;rw[hx])
  obtain⟨l',us,rfl,hl',hus⟩:=lst_is R rb (show cY y σ=some ys by unfold cY;rw[hy])
  have l1:vs.toArray.size=xs.length:=by simpa using hvs.1
  have l2:us.toArray.size=ys.length:=by simpa using hus.1
  split at hp
  ·rename_i hlen
   refine gP hp fun r hr hp=>?_
   obtain⟨g1,f,g2,g3⟩:=gy hr
   cases neg with
   | false=>
    have q:=RcAt.lists (A:=A) (e:=f) hl hl' (by rw[l1,l2,hlen]) (by omega) (seqs hvs hus f g2)
    rw[l1,← g3]at q
    exact q prog c.w E Q (fin _ (by simpa using hp))
   | true=>
    have q:=RcNeAt.lists (A:=A) (e:=f) hl hl' (by rw[l1,l2,hlen]) (by omega) (seqs hvs hus f g2)
    rw[l1,← g3]at q
    exact q prog c.w E Q (fin _ (by simpa using hp))
  ·rename_i hlen
   cases neg with
   | false=>exact RcAt.lists_lengths (A:=A) hl hl' (by rw[l1,l2];simpa using hlen) (by omega) prog c.w E Q (fin _ (by simpa using hp))
   | true=>exact RcNeAt.lists_lengths (A:=A) hl hl' (by rw[l1,l2];simpa using hlen) (by omega) prog c.w E Q (fin _ (by simpa using hp))
def aO (x y:V) (σ:S):Rs V:=match x.un with
 | .int _=>P9 x y σ
 | .str _=>Qb x y σ
 | _=>GH false x y σ
theorem aS:cH prog D (compareOp .Eq) aO:=fun c A rm a b x y s m W σ R ra rb Q E hp=>by
 unfold aO at hp
 split at hp
 ·exact Xj c A rm a b x y s m W σ R ra rb Q E hp
 ·exact Xl c A rm a b x y s m W σ R ra rb Q E hp
 ·exact BN rm R ra rb hp
def fNe (x y:V) (σ:S):Rs V:=match x.un with
 | .int _=>Qa x y σ
 | .str _=>Qc x y σ
 | _=>GH true x y σ
theorem cP:cH prog D (compareOp .NotEq) fNe:=fun c A rm a b x y s m W σ R ra rb Q E hp=>by
 unfold fNe at hp
 split at hp
 ·exact Xk c A rm a b x y s m W σ R ra rb Q E hp
 ·exact Xm c A rm a b x y s m W σ R ra rb Q E hp
 ·exact BN (neg:=true) rm R ra rb hp
end
section
variable {prog:Program}{K:World→Frag}{D:Nat}{cs:Scope}
noncomputable def BO:Option MO→Option (List (V×V))
 | some (.dct xs)=>some xs
 | _=>Option.none
theorem EY {o:Option MO}{xs:List (V×V)}(h:BO o=some xs):o=some (.dct xs):=by
 cases o with
 | none=>exact ay h
 | some o=>cases o with
  | dct=>exact congrArg (fun x=>some (MO.dct x)) (Option.some.inj h)
  | inst=>exact ay h
  | lst=>exact ay h
def rI (x:V) (σ:S):Option (List (V×V)):=match x.un with
 | .dct fs=>some fs
 | .loc k=>BO σ.st[k]?
 | _=>Option.none
structure ft (P:Params) (F:Addr→Obj→Prop) (rho:List (Addr×Addr)) (es:List DictEntry) (fs:List (V×V)):Prop where
 len:es.length=fs.length
 nd:(fs.map (·.1)).Nodup
 hash:∀ (i:Nat) (e:DictEntry) (f:V×V),es[i]?=some e→fs[i]?=some f→hashOf P f.1=some e.hash
 key:∀ (i:Nat) (e:DictEntry) (f:V×V),es[i]?=some e→fs[i]?=some f→VR P F rho e.key f.1
 val:∀ (i:Nat) (e:DictEntry) (f:V×V),es[i]?=some e→fs[i]?=some f→VR P F rho e.val f.2
theorem vU {c:Act}{h:Heap}{m W σ}(R:Rel c h m W σ) {v:Value}{x:V}(hv:RV c W v x) {fs:List (V×V)}(e:rI x σ=some fs):
  ∃ a es n,v=.ref a∧h.get? a=some (dictOf es n)∧(a==sysModules)=false∧ft c.w.params (FZ c.b W.fz) W.rho es fs:=by
 revert e
 exact VR.rec (motive:=fun v x _=>rI x σ=some fs→∃ a es n,v=.ref a∧h.get? a=some (dictOf es n)∧(a==sysModules)=false∧ft c.w.params (FZ c.b W.fz) W.rho es fs) ay (fun _=>ay) (fun _ _=>ay) (fun _ _=>ay) (fun _ _=>ay) (fun _=>ay)
  (fun hr e=>R.at_st (EY e) hr fun ro h2 h3=>h3.inv.elim fun es h=>h.elim fun n g=>⟨_,es,n,congrArg Value.ref g.2.1,g.1▸(R.N _ h2).1,g.2.1▸g.2.2.1,g.2.2.2.1,g.2.2.2.2.1,fun i e f a b=>(g.2.2.2.2.2 i e f a b).1,fun i e f a b=>(g.2.2.2.2.2 i e f a b).2.1,fun i e f a b=>(g.2.2.2.2.2 i e f a b).2.2⟩) (fun _ _ _ _=>ay) (fun _ _ _ _=>ay)
  (fun _ _ _ _ _ _=>ay) (fun h1 h2 h3 h4 h5 h6 h7 _ _ e=>Option.some.inj e▸⟨_,_,_,rfl,R.fz_at h1,h2,⟨h3,h5,h4,h6,h7⟩⟩) (fun _ ih e=>ih e) hv
def keyEq:V→V→Bool
 | .int a,.int b=>a==b
 | .str a,.str b=>a==b
 | .tup xs,.tup ys=>match b0 xs,b0 ys with
  | some a,some b=>a==b
  | _,_=>false
 | _,_=>false
def dGet (fs:List (V×V)) (k:V):Option V:=(fs.find? fun f=>keyEq f.1 k).map (·.2)
def lZ (fs:List (V×V)) (k x:V):List (V×V):=if fs.any fun f=>keyEq f.1 k then fs.map fun f=>if keyEq f.1 k then(f.1,x)else f else fs++[(k,x)]
noncomputable def pL:V→Option Int
 | .int n=>some n
 | _=>Option.none
noncomputable def eg:V→Option Str
 | .str n=>some n
 | _=>Option.none
structure KV {w:World}{T:Type} [DecidableEq T] (knd:KeyKind prog w T) (dec:V→Option T):Prop where
 is_of:∀ {P F rho v x k},dec x=some k→VR P F rho v x→knd.is k v=true
 back:∀ {P F rho v x k},dec x=some k→knd.is k v=true→VR P F rho v x
 hash:∀ {x k},dec x=some k→hashOf w.params x=some (knd.hash k)
 eq:∀ {x y a b},dec x=some a→dec y=some b→keyEq x y=decide (a=b)
 inj:∀ {x y a},dec x=some a→dec y=some a→x=y
theorem yc {α:Type} [BEq α] [LawfulBEq α] [DecidableEq α] (a b:α):(a==b)=decide (a=b):=by
 by_cases h:a=b <;> simp[h]
theorem jO {y:V}{n:Int}:pL y=some n→y=.int n:=V.casesOn (motive_1:=fun y=>pL y=some n→y=.int n) y ay ay (fun _=>ay) (fun _ e=>congrArg V.int (Option.some.inj e)) (fun _=>ay) (fun _=>ay) (fun _=>ay) (fun _=>ay) (fun _ _=>ay) (fun _=>ay) (fun _=>ay) (fun _=>ay) (fun _ _=>ay)
theorem jP {y:V}{n:Str}:eg y=some n→y=.str n:=V.casesOn (motive_1:=fun y=>eg y=some n→y=.str n) y ay ay (fun _=>ay) (fun _=>ay) (fun _ e=>congrArg V.str (Option.some.inj e)) (fun _=>ay) (fun _=>ay) (fun _=>ay) (fun _ _=>ay) (fun _=>ay) (fun _=>ay) (fun _=>ay) (fun _ _=>ay)
theorem Wd {w:World}:KV (prog:=prog) (intKind prog w) pL where
 is_of:=fun {P F rho v x k} e h=>(jO e▸h:VR P F rho v (.int k)).inv.elim fun t e=>e▸intKind_is prog w _ t
 back:=fun {P F rho v x k} e h=>jO e▸(Value.isInt_shape h).elim fun t q=>q▸.int _ t
 hash:=fun {x k} e=>jO e▸rfl
 eq:=fun {x y a b} e1 e2=>jO e1▸jO e2▸yc a b
 inj:=fun {x y a} e1 e2=>(jO e1).trans (jO e2).symm
theorem MZ {w:World}:KV (prog:=prog) (strKind prog w) eg where
 is_of:=fun {P F rho v x k} e h=>(jP e▸h:VR P F rho v (.str k)).inv.elim fun t e=>e▸strKind_is prog w _ t
 back:=fun {P F rho v x k} e h=>jP e▸(Value.isStrOf_shape h).elim fun t q=>q▸.str _ t
 hash:=fun {x k} e=>jP e▸rfl
 eq:=fun {x y a b} e1 e2=>jP e1▸jP e2▸yc a b
 inj:=fun {x y a} e1 e2=>(jP e1).trans (jP e2).symm
inductive gV {T:Type}(dec:V→Option T) (P:Params) (F:Addr→Obj→Prop) (rho:List (Addr×Addr)):List (T×Value)→List (V×V)→Prop
 | nil:gV dec P F rho [] []
 | cons {k v f kvs fs}:dec f.1=some k→VR P F rho v f.2→gV dec P F rho kvs fs→gV dec P F rho ((k,v)::kvs) (f::fs)
section
variable {w:World}{T:Type} [DecidableEq T] {knd:KeyKind prog w T}{dec:V→Option T}{F:Addr→Obj→Prop}{rho:List (Addr×Addr)}
theorem ft.tail {P e es f fs}(h:ft P F rho (e::es) (f::fs)):ft P F rho es fs:=by
 have hnd:=h.nd
 rw[List.map_cons,List.nodup_cons]at hnd
 exact⟨by have:=h.len;simpa using this,hnd.2,fun i e' f' a b=>h.hash (i+1) e' f' (by simpa using a) (by simpa using b),fun i e' f' a b=>h.key (i+1) e' f' (by simpa using a) (by simpa using b),fun i e' f' a b=>h.val (i+1) e' f' (by simpa using a) (by simpa using b)⟩
theorem QJ {α β:Type}{p:α→β→Prop}{a:α}{b:β}{as:List α}{bs:List β}(h:p a b) (hs:∀ (i:Nat) x y,as[i]?=some x→bs[i]?=some y→p x y):∀ (i:Nat) x y,(a::as)[i]?=some x→(b::bs)[i]?=some y→p x y
 | 0,_,_,e1,e2=>Option.some.inj e1▸Option.some.inj e2▸h
 | i+1,x,y,e1,e2=>hs i x y e1 e2
theorem ft.cons {P e es f fs}(h:ft P F rho es fs) (h1:hashOf P f.1=some e.hash) (h2:VR P F rho e.key f.1) (h3:VR P F rho e.val f.2) (hn:f.1∉fs.map (·.1)):ft P F rho (e::es) (f::fs):=
 ⟨congrArg (·+1) h.len,List.nodup_cons.mpr ⟨hn,h.nd⟩,QJ (p:=fun(e:DictEntry) (f:V×V)=>hashOf P f.1=some e.hash) h1 h.hash,QJ (p:=fun(e:DictEntry) (f:V×V)=>VR P F rho e.key f.1) h2 h.key,QJ (p:=fun(e:DictEntry) (f:V×V)=>VR P F rho e.val f.2) h3 h.val⟩
theorem Jm (kv:KV knd dec):∀ {es:List DictEntry}{fs:List (V×V)},ft w.params F rho es fs→(∀ f∈fs,(dec f.1).isSome=true)→
  ∃ kvs,gV dec w.params F rho kvs fs∧Pairs knd es kvs∧(∀ e∈es,∃ k,knd.is k e.key=true∧e.hash=knd.hash k)∧(∀ q∈kvs,∃ f∈fs,dec f.1=some q.1)∧(kvs.map (·.1)).Nodup
 | [],[],_,_=>⟨[],.nil,.nil,fun e h=>by simp at h,fun q h=>by simp at h,List.nodup_nil⟩
 | [],_::_,h,_=>by have:=h.len;simp at this
 | _::_,[],h,_=>by have:=h.len;simp at this
 | e::es,f::fs,h,hall=>by
  obtain⟨kvs,h1,h2,h3,h4,h5⟩:=Jm kv h.tail fun g hg=>hall g (.tail _ hg)
  obtain⟨k,hk⟩:=Option.isSome_iff_exists.mp (hall f (.head _))
  have hkey:=kv.is_of hk (h.key 0 e f rfl rfl)
  have hhash:=h.hash 0 e f rfl rfl
  rw[kv.hash hk]at hhash
  refine⟨(k,e.val)::kvs,.cons hk (h.val 0 e f rfl rfl) h1,.cons hkey rfl h2,fun e' he=>?_,fun q hq=>?_,?_⟩
  ·rcases List.mem_cons.mp he with rfl | he
   ·exact⟨k,hkey,(Option.some.inj hhash).symm⟩
   ·exact h3 e' he
  ·rcases List.mem_cons.mp hq with rfl | hq
   ·exact⟨f,.head _,hk⟩
   ·obtain⟨g,hg,e⟩:=h4 q hq
    exact⟨g,.tail _ hg,e⟩
  ·rw[List.map_cons,List.nodup_cons]
   refine⟨fun hm=>?_,h5⟩
   obtain⟨q,hq,eq⟩:=List.mem_map.mp hm
   obtain⟨g,hg,e⟩:=h4 q hq
   have hnd:=h.nd
   rw[List.map_cons,List.nodup_cons]at hnd
   have:g.1=f.1:=kv.inj (e.trans (by rw[eq])) hk
   exact hnd.1 (List.mem_map.mpr ⟨g,hg,this⟩)
theorem EZ (kv:KV knd dec) {P:Params}{kx:V}{k:T}(hk:dec kx=some k) {kvs:List (T×Value)}{fs:List (V×V)}(h:gV dec P F rho kvs fs):(valueAt kvs k=Option.none∧dGet fs kx=Option.none)∨∃ v x,valueAt kvs k=some v∧dGet fs kx=some x∧VR P F rho v x:=by
 induction h with
 | nil=>exact .inl ⟨rfl,rfl⟩
 | @cons k' v f kvs fs hd hv hr ih=>
  unfold valueAt dGet
  rw[List.find?_cons,List.find?_cons,kv.eq hd hk]
  by_cases e:k'=k
  ·rw[decide_eq_true e]
   exact .inr ⟨v,f.2,rfl,rfl,hv⟩
  ·rw[decide_eq_false e]
   exact ih
theorem OY (kv:KV knd dec) {P:Params}{kx:V}{k:T}(hk:dec kx=some k) {kvs:List (T×Value)}{fs:List (V×V)}(h:gV dec P F rho kvs fs):(kvs.any fun q=>decide (q.1=k))=fs.any fun f=>keyEq f.1 kx:=by
 induction h with
 | nil=>rfl
 | cons hd hv hr ih=>rw[List.any_cons,List.any_cons,kv.eq hd hk,ih]
theorem OZ (kv:KV knd dec) {P:Params}{kx x:V}{k:T}{v:Value}(hk:dec kx=some k) (hx:VR P F rho v x) {kvs:List (T×Value)}{fs:List (V×V)}(h:gV dec P F rho kvs fs):
  gV dec P F rho (kvs.map fun q=>if q.1=k then(q.1,v)else q) (fs.map fun f=>if keyEq f.1 kx then(f.1,x)else f):=by
 induction h with
 | nil=>exact .nil
 | @cons k' v' f kvs fs hd hv hr ih=>
  rw[List.map_cons,List.map_cons,kv.eq hd hk]
  by_cases e:k'=k
  ·rw[decide_eq_true e,if_pos e,if_pos rfl]
   exact .cons hd hx ih
  ·rw[decide_eq_false e,if_neg e,if_neg Bool.false_ne_true]
   exact .cons hd hv ih
theorem O0 {P:Params}{kvs kvs':List (T×Value)}{fs fs':List (V×V)}(h:gV dec P F rho kvs fs) (g:gV dec P F rho kvs' fs'):gV dec P F rho (kvs++kvs') (fs++fs'):=by
 induction h with
 | nil=>exact g
 | cons h1 h2 _ ih=>exact .cons h1 h2 ih
theorem O1 (kv:KV knd dec) {P:Params}{kx x:V}{k:T}{v:Value}(hk:dec kx=some k) (hx:VR P F rho v x) {kvs:List (T×Value)}{fs:List (V×V)}(h:gV dec P F rho kvs fs):gV dec P F rho (stored kvs k v) (lZ fs kx x):=by
 unfold stored lZ
 rw[OY kv hk h]
 split
 ·exact OZ kv hk hx h
 ·exact O0 h (.cons hk hx .nil)
theorem yd {P:Params}{kvs:List (T×Value)}{fs:List (V×V)}(h:gV dec P F rho kvs fs):kvs.length=fs.length:=by
 induction h with
 | nil=>rfl
 | cons _ _ _ ih=>simp[ih]
theorem LG (kv:KV knd dec) {es:List DictEntry}{kvs:List (T×Value)}{fs:List (V×V)}(h:gV dec w.params F rho kvs fs):Pairs knd es kvs→(∀ e∈es,∃ k,knd.is k e.key=true∧e.hash=knd.hash k)→(kvs.map (·.1)).Nodup→
  ft w.params F rho es fs∧∀ f∈fs,∃ k∈kvs.map (·.1),dec f.1=some k:=by
 induction h generalizing es with
 | nil=>intro hp _ _;cases hp;exact⟨⟨rfl,List.nodup_nil,fun i e f h=>(nomatch h),fun i e f h=>(nomatch h),fun i e f h=>(nomatch h)⟩,fun f h=>(nomatch h)⟩
 | @cons k v f kvs fs hd hv _ ih=>
  intro hp hall hnd
  rw[List.map_cons,List.nodup_cons]at hnd
  cases hp with
  | cons hk he hp=>
   have q:=ih hp (fun e' he'=>hall e' (.tail _ he')) hnd.2
   exact⟨q.1.cons ((hall _ (.head _)).elim fun k' h=>by rw[kv.hash hd,h.2,knd.inj _ _ _ h.1 hk]) (kv.back hd hk) (he▸hv) fun hm=>(List.mem_map.mp hm).elim fun g hg=>(q.2 g hg.1).elim fun k' h=>hnd.1 (Option.some.inj ((hg.2▸h.2).symm.trans hd)▸h.1),
    fun g hg=>(List.mem_cons.mp hg).elim (fun e=>⟨k,.head _,e▸hd⟩) fun hg=>(q.2 g hg).imp fun k' h=>⟨.tail _ h.1,h.2⟩⟩
theorem rJ (kv:KV knd dec) {es:List DictEntry}{fs:List (V×V)}{n:Nat}(h:ft w.params F rho es fs) (hall:∀ f∈fs,(dec f.1).isSome=true):∃ kvs,gV dec w.params F rho kvs fs∧(dictOf es n).IsDictOf knd kvs:=by
 obtain⟨kvs,h1,h2,h3,h4,h5⟩:=Jm kv h hall
 exact⟨kvs,h1,es.toArray,n,⟨rfl,rfl,rfl⟩,rfl,fun e he=>h3 e (by simpa using he),h2,h5⟩
theorem DQ (kv:KV knd dec) {o:Obj}{kvs:List (T×Value)}{fs:List (V×V)}(hk:gV dec w.params F rho kvs fs) (ho:o.IsDictOf knd kvs):∃ es n,o=dictOf es n∧ft w.params F rho es fs:=by
 obtain⟨es,ep,⟨hc,hd,hs⟩,hdat,h3,h2,h5⟩:=ho
 refine⟨es.toList,ep,?_,(LG kv hk h2 (fun e he=>h3 e (by simpa using he)) h5).1⟩
 obtain⟨c,d,dt,sl⟩:=o
 simp only at hc hd hs hdat
 subst hc hd hs hdat
 simp
end
end
section
variable {prog:Program}{K:World→Frag}{D:Nat}{cs:Scope}
def decT:V→Option (List Int)
 | .tup xs=>b0 xs
 | _=>Option.none
theorem j1:∀ ns:List Int,b0 (ns.map V.int)=some ns
 | []=>rfl
 | n::ns=>by show(match b0 (ns.map V.int)with | some r=>some (n::r) | Option.none=>Option.none)=_;rw[j1 ns]
theorem GI {xs:List V}:∀ {ns:List Int},b0 xs=some ns→xs=ns.map V.int:=by
 induction xs with
 | nil=>exact fun h=>Option.some.inj h▸rfl
 | cons x xs ih=>
  exact fun {ns}=>V.casesOn (motive_1:=fun x=>b0 (x::xs)=some ns→x::xs=ns.map V.int) x ay ay (fun _=>ay) (fun n h=>by
   have h:(match b0 xs with | some r=>some (n::r) | Option.none=>Option.none)=some ns:=h
   cases hr:b0 xs with
   | none=>rw[hr]at h;exact ay h
   | some r=>rw[hr]at h;rw[← Option.some.inj h,ih hr];rfl) (fun _=>ay) (fun _=>ay) (fun _=>ay) (fun _=>ay) (fun _ _=>ay) (fun _=>ay) (fun _=>ay) (fun _=>ay) (fun _ _=>ay)
theorem lO {x:V}{k:List Int}:decT x=some k→x=.tup (k.map V.int):=V.casesOn (motive_1:=fun x=>decT x=some k→x=.tup (k.map V.int)) x ay ay (fun _=>ay) (fun _=>ay) (fun _=>ay) (fun _=>ay) (fun _=>ay) (fun _=>ay) (fun _ _=>ay) (fun _=>ay) (fun _ e=>congrArg V.tup (GI e)) (fun _=>ay) (fun _ _=>ay)
theorem LH {x y:V}{a:List Int}(h1:decT x=some a) (h2:decT y=some a):x=y:=(lO h1).trans (lO h2).symm
theorem ye {x y:V}{a b:List Int}(h1:decT x=some a) (h2:decT y=some b):keyEq x y=decide (a=b):=by
 rw[lO h1,lO h2]
 show(match b0 (a.map V.int),b0 (b.map V.int)with | some a,some b=>a==b | _,_=>false)=_
 rw[j1,j1]
 exact yc a b
theorem BP {w:World}{P F rho}:∀ {ns:List Int}{vs:List Value},VRs P F rho vs (ns.map V.int)→ItemsAre (intKind prog w) ns vs
 | [],vs,h=>List.eq_nil_of_length_eq_zero h.1▸.nil
 | n::ns,vs,h=>Gr h.1 fun v us e _=>by
  subst e
  exact(h.2 0 v _ rfl rfl).inv.elim fun t e=>e▸.cons (intKind_is prog w _ t) (BP ⟨Nat.succ.inj h.1,fun i a b ha hb=>h.2 (i+1) a b ha hb⟩)
theorem rK {c:Act}{h:Heap}{m W σ}(R:Rel c h m W σ) {v:Value}{x:V}{k:List Int}(hv:RV c W v x) (e:decT x=some k):∃ a,v=.ref a∧IsTupleKey (intKind prog c.w) h k a:=
 (lO e▸hv:RV c W v (.tup (k.map V.int))).inv.elim fun a h=>h.elim fun vs h=>h.elim fun n g=>⟨a,g.1,_,_,_,R.fz_at g.2.1,rfl,rfl,BP g.2.2⟩
abbrev tB (prog:Program) (w:World):HeapKind prog w (List Int):=tupleKind (intKind prog w)
theorem zg {w:World}{x:V}{k:List Int}(e:decT x=some k):hashOf w.params x=some ((tB prog w).hash k):=by
 rw[lO e]
 show(match b0 (k.map V.int)with
  | some ns=>some (reduceHash (Builtin.Tuple.tupleHashOf (ns.map hashInt)))
  | Option.none=>Option.none)=_
 rw[j1]
 rfl
inductive lp (P:Params) (F:Addr→Obj→Prop) (rho:List (Addr×Addr)):List (List Int×Addr×Value)→List (V×V)→Prop
 | nil:lp P F rho [] []
 | cons {k a v f kvs fs}:decT f.1=some k→VR P F rho (.ref a) f.1→VR P F rho v f.2→lp P F rho kvs fs→lp P F rho ((k,a,v)::kvs) (f::fs)
theorem BQ {c:Act}{h:Heap}{m W σ}(R:Rel c h m W σ):∀ {es:List DictEntry}{fs:List (V×V)},ft c.w.params (FZ c.b W.fz) W.rho es fs→(∀ f∈fs,(decT f.1).isSome=true)→
  ∃ xs,lp c.w.params (FZ c.b W.fz) W.rho xs fs∧es=xs.map (entryOfKey (tB prog c.w))∧(∀ x∈xs,IsTupleKey (intKind prog c.w) h x.1 x.2.1)∧(∀ q∈xs,∃ f∈fs,decT f.1=some q.1)∧(xs.map (·.1)).Nodup
 | [],[],_,_=>⟨[],.nil,rfl,fun e h=>by simp at h,fun q h=>by simp at h,List.nodup_nil⟩
 | [],_::_,h,_=>by have:=h.len;simp at this
 | _::_,[],h,_=>by have:=h.len;simp at this
 | e::es,f::fs,hd,hall=>by
  obtain⟨xs,h1,h2,h3,h4,h5⟩:=BQ R hd.tail fun g hg=>hall g (.tail _ hg)
  obtain⟨k,hk⟩:=Option.isSome_iff_exists.mp (hall f (.head _))
  have hkey:=hd.key 0 e f rfl rfl
  obtain⟨a,ea,ta⟩:=rK (prog:=prog) R hkey hk
  have hhash:=hd.hash 0 e f rfl rfl
  rw[zg (prog:=prog) hk]at hhash
  refine⟨(k,a,e.val)::xs,.cons hk (ea▸hkey) (hd.val 0 e f rfl rfl) h1,?_,fun q hq=>?_,fun q hq=>?_,?_⟩
  ·rw[List.map_cons,← h2]
   congr 1
   obtain⟨hh,kk,vv⟩:=e
   simp only[entryOfKey]
   rw[Option.some.inj hhash]
   rw[show kk=Value.ref a from ea]
  ·rcases List.mem_cons.mp hq with rfl | hq
   ·exact ta
   ·exact h3 q hq
  ·rcases List.mem_cons.mp hq with rfl | hq
   ·exact⟨f,.head _,hk⟩
   ·obtain⟨g,hg,e⟩:=h4 q hq
    exact⟨g,.tail _ hg,e⟩
  ·rw[List.map_cons,List.nodup_cons]
   refine⟨fun hm=>?_,h5⟩
   obtain⟨q,hq,eq⟩:=List.mem_map.mp hm
   obtain⟨g,hg,e⟩:=h4 q hq
   have hnd:=hd.nd
   rw[List.map_cons,List.nodup_cons]at hnd
   exact hnd.1 (List.mem_map.mpr ⟨g,hg,LH (e.trans (by rw[eq])) hk⟩)
section
variable {P:Params}{F:Addr→Obj→Prop}{rho:List (Addr×Addr)}
theorem yf {kx:V}{k:List Int}(hk:decT kx=some k) {kvs:List (List Int×Addr×Value)}{fs:List (V×V)}(h:lp P F rho kvs fs):(atKey kvs k=Option.none∧dGet fs kx=Option.none)∨∃ p x,atKey kvs k=some p∧dGet fs kx=some x∧VR P F rho p.2 x:=by
 induction h with
 | nil=>exact .inl ⟨rfl,rfl⟩
 | @cons k' a v f kvs fs hd ha hv hr ih=>
  unfold atKey dGet
  rw[List.find?_cons,List.find?_cons,ye hd hk]
  by_cases e:k'=k
  ·rw[decide_eq_true e]
   exact .inr ⟨(a,v),f.2,rfl,rfl,hv⟩
  ·rw[decide_eq_false e]
   exact ih
theorem O2 {kx:V}{k:List Int}(hk:decT kx=some k) {kvs:List (List Int×Addr×Value)}{fs:List (V×V)}(h:lp P F rho kvs fs):(atKey kvs k).isSome=fs.any fun f=>keyEq f.1 kx:=by
 induction h with
 | nil=>rfl
 | @cons k' _ _ _ _ _ hd ha hv hr ih=>
  unfold atKey at ih ⊢
  rw[List.find?_cons,List.any_cons,ye hd hk]
  by_cases e:k'=k
  ·rw[decide_eq_true e];rfl
  ·rw[decide_eq_false e];exact ih
theorem O3 {kx x:V}{k:List Int}{v:Value}(hk:decT kx=some k) (hx:VR P F rho v x) {kvs:List (List Int×Addr×Value)}{fs:List (V×V)}(h:lp P F rho kvs fs):
  lp P F rho (kvs.map (putAt k v)) (fs.map fun f=>if keyEq f.1 kx then(f.1,x)else f):=by
 induction h with
 | nil=>exact .nil
 | @cons k' _ _ _ _ _ hd ha hv hr ih=>
  rw[List.map_cons,List.map_cons,ye hd hk]
  unfold putAt at ih ⊢
  by_cases e:k'=k
  ·rw[decide_eq_true e,if_pos e,if_pos rfl]
   exact .cons hd ha hx ih
  ·rw[decide_eq_false e,if_neg e,if_neg Bool.false_ne_true]
   exact .cons hd ha hv ih
theorem O4 {kvs kvs':List (List Int×Addr×Value)}{fs fs':List (V×V)}(h:lp P F rho kvs fs) (g:lp P F rho kvs' fs'):lp P F rho (kvs++kvs') (fs++fs'):=by
 induction h with
 | nil=>exact g
 | cons h1 h2 h3 _ ih=>exact .cons h1 h2 h3 ih
theorem O6 {kx x:V}{k:List Int}{a:Addr}{v:Value}(hk:decT kx=some k) (ha:VR P F rho (.ref a) kx) (hx:VR P F rho v x) {kvs:List (List Int×Addr×Value)}{fs:List (V×V)}(h:lp P F rho kvs fs):lp P F rho (storedH kvs k a v) (lZ fs kx x):=by
 unfold storedH lZ
 rw[O2 hk h]
 split
 ·exact O3 hk hx h
 ·exact O4 h (.cons hk ha hx .nil)
theorem O7 {kvs:List (List Int×Addr×Value)}{fs:List (V×V)}(h:lp P F rho kvs fs):kvs.length=fs.length:=by
 induction h with
 | nil=>rfl
 | cons _ _ _ _ ih=>simp[ih]
end
theorem LI {w:World}{F:Addr→Obj→Prop}{rho:List (Addr×Addr)}{kvs:List (List Int×Addr×Value)}{fs:List (V×V)}(h:lp w.params F rho kvs fs):(kvs.map (·.1)).Nodup→
  ft w.params F rho (kvs.map (entryOfKey (tB prog w))) fs∧∀ f∈fs,∃ k∈kvs.map (·.1),decT f.1=some k:=by
 induction h with
 | nil=>exact fun _=>⟨⟨rfl,List.nodup_nil,fun i e f h=>(nomatch h),fun i e f h=>(nomatch h),fun i e f h=>(nomatch h)⟩,fun f h=>(nomatch h)⟩
 | @cons k a v f kvs fs hd ha hv _ ih=>
  intro hnd
  rw[List.map_cons,List.nodup_cons]at hnd
  have q:=ih hnd.2
  exact⟨q.1.cons (zg (prog:=prog) hd) ha hv fun hm=>(List.mem_map.mp hm).elim fun g hg=>(q.2 g hg.1).elim fun k' h=>hnd.1 (Option.some.inj ((hg.2▸h.2).symm.trans hd)▸h.1),
   fun g hg=>(List.mem_cons.mp hg).elim (fun e=>⟨k,.head _,e▸hd⟩) fun hg=>(q.2 g hg).imp fun k' h=>⟨.tail _ h.1,h.2⟩⟩
def dOk (fs:List (V×V)) (k:V):Bool:=match k with
 | .int _=>fs.all fun f=>(pL f.1).isSome
 | .str _=>fs.all fun f=>(eg f.1).isSome
 | .tup xs=>(b0 xs).isSome&&fs.all fun f=>(decT f.1).isSome
 | _=>false
theorem O8 {fs:List (V×V)}{kx:V}:dOk fs kx=true→(∃ n,pL kx=some n∧∀ f∈fs,(pL f.1).isSome=true)∨(∃ n,eg kx=some n∧∀ f∈fs,(eg f.1).isSome=true)∨∃ k,decT kx=some k∧∀ f∈fs,(decT f.1).isSome=true:=
 V.casesOn (motive_1:=fun kx=>dOk fs kx=true→(∃ n,pL kx=some n∧∀ f∈fs,(pL f.1).isSome=true)∨(∃ n,eg kx=some n∧∀ f∈fs,(eg f.1).isSome=true)∨∃ k,decT kx=some k∧∀ f∈fs,(decT f.1).isSome=true) kx nq nq (fun _=>nq)
  (fun n h=>.inl ⟨n,rfl,List.all_eq_true.mp h⟩) (fun n h=>.inr (.inl ⟨n,rfl,List.all_eq_true.mp h⟩)) (fun _=>nq) (fun _=>nq) (fun _=>nq) (fun _ _=>nq) (fun _=>nq)
  (fun xs h=>have h:=(Bool.and_eq_true _ _).mp h;.inr (.inr ((Option.isSome_iff_exists.mp h.1).imp fun k e=>⟨e,List.all_eq_true.mp h.2⟩))) (fun _=>nq) (fun _ _=>nq)
theorem rL {c:Act}{h:Heap}{m W σ}(R:Rel c h m W σ) {d:Addr}{es:List DictEntry}{n:Nat}{fs:List (V×V)}(ho:h.get? d=some (dictOf es n)) (hd:ft c.w.params (FZ c.b W.fz) W.rho es fs) {kx:V}(hok:dOk fs kx=true) {b:Value}(rb:RV c W b kx) {G:Prop}
  (k1:∀ (T:Type) (_:DecidableEq T) (knd:KeyKind prog c.w T) (dec:V→Option T) (_:KV knd dec) k kvs,dec kx=some k→gV dec c.w.params (FZ c.b W.fz) W.rho kvs fs→h.DictOf knd d kvs→G)
  (k2:∀ k xs ka,decT kx=some k→b=.ref ka→IsTupleKey (intKind prog c.w) h k ka→lp c.w.params (FZ c.b W.fz) W.rho xs fs→h.DictOfH (tB prog c.w) d xs→G):G:=
 (O8 hok).elim (fun q=>q.elim fun k q=>(rJ (n:=n) Wd hd q.2).elim fun kvs g=>k1 _ _ _ _ Wd k kvs q.1 g.1 (Heap.dictOf_iff.mpr ⟨_,ho,g.2⟩)) fun q=>q.elim
  (fun q=>q.elim fun k q=>(rJ (n:=n) MZ hd q.2).elim fun kvs g=>k1 _ _ _ _ MZ k kvs q.1 g.1 (Heap.dictOf_iff.mpr ⟨_,ho,g.2⟩))
  fun q=>q.elim fun k q=>(BQ (prog:=prog) R hd q.2).elim fun xs g=>(rK (prog:=prog) R rb q.1).elim fun ka t=>k2 k xs ka q.1 t.1 t.2 g.1 ⟨_,es.toArray,n,ho,⟨rfl,rfl,rfl⟩,rfl,by rw[List.toList_toArray];exact g.2.1,g.2.2.1,g.2.2.2.2⟩
def u4 (neg:Bool) (x y:V) (σ:S):Rs V:=match rI y σ with
 | some fs=>if dOk fs x.un then .ok (.bool (xor neg (dGet fs x.un).isSome)) σ else .no
 | Option.none=>.no
theorem u5 {c:Act}{A:Around}(rm:cA D c A) {s:Shared}{m W σ}(R:Rel c s.heap m W σ) {a b:Value}{x y:V}(ra:RV c W a x) (rb:RV c W b y) {neg:Bool}{Q:Value→Shared→Prop}{E:Value→Shared→Prop}(hp:aA c (RV c) s W Q E (u4 neg x y σ)):
  wpAny (model prog c.w) A (compareOp (if neg then .NotIn else .In) a b) Q E s:=by
 have hu:=rm.units
 unfold u4 at hp
 cases hy:rI y σ with
 | none=>rw[hy]at hp;exact hp.elim
 | some fs=>
 rw[hy]at hp
 refine aA.iteB hp fun hok hp=>(vU R rb hy).elim fun d h=>h.elim fun es h=>h.elim fun n g=>?_
 rw[g.1]
 have fin:∀ (bb:Bool) tk,bb=(dGet fs x.un).isSome→Q (.bool (xor neg bb)) { s with toks:=tk }:=fun bb tk e=>e▸hp _ s.heap tk m W R (aJ.refl _) (.bool _)
 refine rL (prog:=prog) R g.2.1 g.2.2.2 hok ra.un (fun T _ knd dec kv k kvs hk h1 hm=>?_) fun k xs ka hk e hka h1 hm=>?_
 ·have e:(valueAt kvs k).isSome=(dGet fs x.un).isSome:=(EZ kv hk h1).elim (fun e=>by rw[e.1,e.2];rfl) fun h=>h.elim fun v h=>h.elim fun z e=>by rw[e.1,e.2.1];rfl
  cases neg with
  | false=>exact wpAny_in_of (kv.is_of hk ra.un) g.2.2.1 hm.mapOf (by simpa using fin _ (s.toks+1) e)
  | true=>exact wpAny_notIn_of (kv.is_of hk ra.un) g.2.2.1 hm.mapOf (by simpa using fin _ (s.toks+1) e)
 ·have e1:(atKey xs k).isSome=(dGet fs x.un).isSome:=(yf hk h1).elim (fun e=>by rw[e.1,e.2];rfl) fun h=>h.elim fun v h=>h.elim fun z e=>by rw[e.1,e.2.1];rfl
  rw[e]
  cases neg with
  | false=>exact wpAny_in_heap (tupleKind_room_in1 (by omega)) hka g.2.2.1 hm (by simpa using fin _ _ e1)
  | true=>exact wpAny_notIn_heap (tupleKind_room_in1 (by omega)) hka g.2.2.1 hm (by simpa using fin _ _ e1)
def rM (x k:V) (σ:S):Rs V:=match rI x σ with
 | some fs=>if dOk fs k.un then match dGet fs k.un with
   | some y=>.ok y σ
   | Option.none=>.no
  else .no
 | Option.none=>.no
theorem GJ {c:Act}{A:Around}(rm:cA D c A) {s:Shared}{m W σ}(R:Rel c s.heap m W σ) {a b:Value}{x y:V}(ra:RV c W a x) (rb:RV c W b y) {Q:Value→Shared→Prop}{E:Value→Shared→Prop}(hp:aA c (RV c) s W Q E (rM x y σ)):
  wpAny (model prog c.w) A (getItem a b) Q E s∧s.TypeIs a "dict":=by
 have hu:=rm.units
 unfold rM at hp
 cases hy:rI x σ with
 | none=>rw[hy]at hp;exact hp.elim
 | some fs=>
 rw[hy]at hp
 refine aA.iteB hp fun hok hp=>(vU R ra hy).elim fun d h=>h.elim fun es h=>h.elim fun n g=>?_
 rw[g.1]
 refine⟨?_,⟨_,g.2.1,rfl⟩⟩
 have fin:∀ (v:Value) z tk,dGet fs y.un=some z→RV c W v z→Q v { s with toks:=tk }:=fun v z tk e hv=>by rw[e]at hp;exact hp v s.heap tk m W R (aJ.refl _) hv
 have no:dGet fs y.un≠Option.none:=fun e=>by rw[e]at hp;exact hp
 exact rL (prog:=prog) R g.2.1 g.2.2.2 hok rb.un (fun T _ knd dec kv k kvs hk h1 hm=>(EZ kv hk h1).elim (fun e=>absurd e.2 no) fun h=>h.elim fun v h=>h.elim fun z e=>wpAny_getItem_of (kv.is_of hk rb.un) hm.mapOf e.1 (fin v z _ e.2.1 e.2.2))
  fun k xs ka hk e hka h1 hm=>e▸(yf hk h1).elim (fun e=>absurd e.2 no) fun h=>h.elim fun v h=>h.elim fun z e=>wpAny_getItem_heap (tupleKind_room_in1 (by omega)) hka hm e.1 (fin v.2 z _ e.2.1 e.2.2)
def yg (o k x:V) (σ:S):Rs Fl:=match o.un with
 | .loc j=>match BO σ.st[j]? with
  | some fs=>if dOk fs k.un&&decide (fs.length≤100000)then .ok .next ⟨σ.env,σ.st.set j (.dct (lZ fs k.un x))⟩else .no
  | _=>.no
 | _=>.no
theorem LJ {c:Act}{s:Shared}{W:aV}{Q:Unit→Shared→Prop}{E:Value→Shared→Prop}{o:Value}{y kx x:V}{σ:S}(ho:RV c W o y.un) (hp:aA c (fun _ _ f=>f=Fl.next) s W Q E (yg y kx x σ)) {G:Prop}
  (k:∀ j xa da fs,W.rho[j]?=some (xa,da)→o=.ref xa→BO σ.st[j]?=some fs→dOk fs kx.un=true→fs.length≤100000→aA c (fun _ _ f=>f=Fl.next) s W Q E (.ok .next ⟨σ.env,σ.st.set j (.dct (lZ fs kx.un x))⟩)→G):G:=by
 unfold yg at hp
 revert hp ho
 generalize y.un=z
 intro ho
 cases z with
 | loc j=>
  intro hp
  dsimp only at hp
  cases hj:BO σ.st[j]? with
  | none=>rw[hj]at hp;exact hp.elim
  | some fs=>
   rw[hj]at hp
   exact aA.iteB hp fun hok hp=>ho.inv.elim fun xa h=>h.elim fun da g=>k j xa da fs g.2 g.1 hj ((Bool.and_eq_true _ _).mp hok).1 (of_decide_eq_true ((Bool.and_eq_true _ _).mp hok).2) hp
 | _=>exact fun hp=>hp.elim
theorem LK {o:Obj}{es:Array DictEntry}{n:Nat}(h1:o.cls=.type "dict") (h2:o.dict=none) (h3:o.slots=#[]) (h4:o.data=.dict es n):o=dictOf es.toList n:=by
 cases o;cases h1;cases h2;cases h3;cases h4;rfl
theorem O9 {c:Act}{A:Around}(rm:cA D c A) {s:Shared}{m W σ}(R:Rel c s.heap m W σ) {o b v:Value}{y kx x:V}(ho:RV c W o y) (rb:RV c W b kx) (hv:RV c W v x) {Q:Unit→Shared→Prop}{E:Value→Shared→Prop}
  (hp:aA c (fun _ _ f=>f=Fl.next) s W Q E (yg y kx x σ)):wpAny (model prog c.w) A (setItem o b v) Q E s:=by
 have hu:=rm.units
 refine LJ ho.un hp fun j xa da fs hr e hj hok hz hp=>?_
 refine R.at_st (EY hj) hr fun ro h2 h3=>h3.inv.elim fun es h=>h.elim fun n g=>?_
 rw[e]
 have z:=R.N _ (g.1▸g.2.1▸h2:(xa,dictOf es n)∈W.nw)
 have hd:ft c.w.params (FZ c.b W.fz) W.rho es fs:=⟨g.2.2.2.1,g.2.2.2.2.1,fun i e f a b=>(g.2.2.2.2.2 i e f a b).1,fun i e f a b=>(g.2.2.2.2.2 i e f a b).2.1,fun i e f a b=>(g.2.2.2.2.2 i e f a b).2.2⟩
 have hsz:fs.length≤sizeLine:=Nat.le_trans hz (Nat.le_trans (by decide) bt)
 have fin:∀ (h':Heap) tk es' n',Heap.SameBut xa s.heap h'→h'.get? xa=some (dictOf es' n')→ft c.w.params (FZ c.b W.fz) W.rho es' (lZ fs kx.un x)→Q () { s with heap:=h',toks:=tk }:=fun h' tk es' n' hs' hg hd'=>
  have q:=R.upd (g.2.1▸hr:W.rho[j]?=some (xa,xa)) (g.1▸g.2.1▸h2:(xa,dictOf es n)∈W.nw) (R.F.change hs' z.2.1 z.2.2) (fun p hp=>(tw hp).elim (fun q=>⟨hs'.extBut _ _ q.1 (R.N p q.2).1,(R.N p q.2).2⟩) fun e=>e▸⟨hg,z.2⟩) (OR.dct rfl g.2.2.1 hd'.len hd'.nd fun i e f a b=>⟨hd'.hash i e f a b,hd'.key i e f a b,hd'.val i e f a b⟩)
  hp () h' tk m _ q.1 q.2 rfl
 refine rL (prog:=prog) R z.1 hd hok rb.un (fun T _ knd dec kv k kvs hk q1 hm=>?_) fun k xs ka hk e hka q1 hm=>?_
 ·exact wpAny_setItem_pairs (hsz:=by rw[yd q1];exact hsz) (kv.is_of hk rb.un) hm fun h' hm' hs'=>(Heap.dictOf_iff.mp hm').elim fun o' q=>(DQ kv (O1 kv hk hv q1) q.2).elim fun es' h=>h.elim fun n' h=>fin h' _ es' n' hs' (h.1▸q.1) h.2
 ·rw[e]
  exact wpAny_setItem_heap (hsz:=by rw[O7 q1];exact hsz) (tupleKind_room_in1 (by omega)) hka hm fun h' hm' hs'=>hm'.elim fun o' h=>h.elim fun es' h=>h.elim fun ep' h=>fin h' _ es'.toList ep' hs'
   (h.1.trans (congrArg some (LK h.2.1.1 h.2.1.2.1 h.2.1.2.2 h.2.2.1))) (h.2.2.2.1▸(LI (prog:=prog) (O6 hk (e▸rb.un) hv q1) h.2.2.2.2.2).1)
end
section
open PySem PySem.W PyProof.Rows PySem.Calls PySem.SeqAt
variable {prog:Program}{K:World→Frag}{D:Nat}{cs:Scope}
def tC (x:V) (σ:S):Bool:=(rI x σ).isSome
theorem Pa:lX "dict" tC:=fun c h m W σ s hs R v x hv e=>by
 obtain⟨xs,hx⟩:=Option.isSome_iff_exists.mp e
 obtain⟨a,es,n,rfl,h1,h2⟩:=vU R hv hx
 refine⟨⟨_,by rw[hs];exact h1,rfl⟩,fun a' e=>?_⟩
 cases e
 exact⟨_,h1,rfl⟩
def M0:List V→S→Rs V:=fun xs σ=>match xs with
 | [x,k,y]=>dU (rI x σ) fun fs=>MN k.un fun zs=>if dOk fs (.tup zs)then .ok ((dGet fs (.tup zs)).getD y) σ else .no
 | _=>.no
theorem Vo:JB prog K D (.builtin "dict.get") M0:=fun c A rm kk s m W σ R vs xs hvs Q E hp=>by
 have hu:=rm.units
 rcases xs with _ | ⟨x,_ | ⟨k,_ | ⟨y,_ | ⟨_,_⟩⟩⟩⟩ <;> first | exact hp.elim | skip
 obtain⟨v1,v2,v3,rfl⟩:∃ v u z,vs=[v,u,z]:=Qi hvs.1
 have r1:=hvs.get (i:=0) rfl rfl
 have r2:=VR.un (hvs.get (i:=1) rfl rfl)
 have r3:=hvs.get (i:=2) rfl rfl
 refine gP hp fun fs hx hp=>P4 hp fun zs hk0 hp=>?_
 rw[hk0]at r2
 split at hp
 case isFalse=>exact hp.elim
 rename_i hok
 have hok:=(Bool.and_eq_true _ _).mp (show((b0 zs).isSome&&fs.all fun f=>(decT f.1).isSome)=true from hok)
 exact(vU R r1 hx).elim fun d h=>h.elim fun es h=>h.elim fun n g=>(Option.isSome_iff_exists.mp hok.1).elim fun kk' hk=>(BQ (prog:=prog) R g.2.2.2 fun f hf=>List.all_eq_true.mp hok.2 f hf).elim fun xs q=>(rK (prog:=prog) R (show RV c W v2 (.tup zs)from r2) (k:=kk') hk).elim fun ka t=>by
  have hm:s.heap.DictOfH (tB prog c.w) d xs:=⟨_,es.toArray,n,g.2.1,⟨rfl,rfl,rfl⟩,rfl,by rw[List.toList_toArray];exact q.2.1,q.2.2.1,q.2.2.2.2⟩
  rw[g.1,t.1]
  refine call_meetsIn PySem.F.slot_dict_get hm.typeIs PySem.F.entry_dict_get (PySem.F.args_dict_get_3 _ _ _) (meetsH_dict_get_default (tB prog c.w) d ka g.2.2.1 v3) ⟨tupleKind_room_in1 (by omega),kk',xs,t.2,hm,hp _ s.heap _ m W R (aJ.refl _) ?_⟩
  exact(yf (show decT (.tup zs)=some kk' from hk) q.1).elim (fun e=>by rw[e.1,e.2];exact r3) fun h=>h.elim fun p h=>h.elim fun z e=>by rw[e.1,e.2.1];exact e.2.2
noncomputable def md:W1:=fun σ=>.ok (.loc σ.st.length) ⟨σ.env,σ.st++[.dct []]⟩
theorem zh {c:Act}(kk:cg prog K c) {h:Heap}{m W σ}(R:Rel c h m W σ):(h.objs.size==sysModules)=false:=by
 obtain⟨p',loose',mg,mb,T⟩:=kk.T
 exact R.F.notModules (modules_low T.nolimit)
theorem QK {p}:JE prog K D cs (.Dict [] [] p) md:=fun c A rm fr kk s m W σ R Q E hp=>by
 have hs:=zh kk R
 refine wpAny_Dict_empty ?_
 have hDW:s.heap.objs.size∉W.nw.map (·.1):=fun hm=>absurd (R.lt _ hm) (Nat.lt_irrefl _)
 have N1:=News.push R.F R.N ({ cls:=.type "dict",data:=.dict #[] }:Obj)
 have N2:News c.b c.L (s.heap.push { cls:=.type "dict",data:=.dict #[] }) ([(s.heap.objs.size,dictOf [] 0)]++W.nw):=N1
 obtain⟨R1,X1⟩:=R.alloc (adds:=[(s.heap.objs.size,dictOf [] 0)]) (fadds:=[]) (rad:=[(s.heap.objs.size,s.heap.objs.size)]) (robj:=[.dct []]) (R.F.push _) N2 (by simp) (fun p hp=>by rw[List.mem_singleton.mp hp];exact hDW) (fun p hp=>by simp at hp) rfl (fun q hq=>by
   rw[List.mem_singleton.mp hq];exact⟨.head _,fun p hp=>by simp at hp⟩) (by simp) (fun i o ho=>by
   cases i with
   | zero=>
    simp only[List.getElem?_cons_zero,Option.some.injEq]at ho
    subst ho
    exact⟨s.heap.objs.size,s.heap.objs.size,dictOf [] 0,rfl,.head _,.dct rfl hs rfl List.nodup_nil fun i e f h=>by simp at h⟩
   | succ i=>simp at ho)
 refine hp _ _ s.toks m _ R1 X1 (.loc (x:=s.heap.objs.size) (d:=s.heap.objs.size) ?_)
 show(W.rho++_)[σ.st.length]?=_
 rw[List.getElem?_append_right (Nat.le_of_eq R.len),R.len,Nat.sub_self]
 rfl
noncomputable def lP:W1:=fun σ=>.ok (.dct []) σ
theorem Pb {p}:JE prog K D cs (.Dict [] [] p) lP:=fun c A rm fr kk s m W σ R Q E hp=>by
 have hs:=zh kk R
 refine wpAny_Dict_empty ?_
 have N1:=News.push R.F R.N ({ cls:=.type "dict",data:=.dict #[] }:Obj)
 have N2:News c.b c.L (s.heap.push { cls:=.type "dict",data:=.dict #[] }) ((s.heap.objs.size,dictOf [] 0)::W.nw):=N1
 obtain⟨R1,X1⟩:=R.freeze1 (R.F.push _) N2 fun p hp=>Heap.lt_size (R.N p hp).1
 exact hp _ _ s.toks m _ R1 X1 (.dct (n:=0) (es:=[]) (.inr (.head _)) hs rfl (fun i e f h=>by simp at h) List.nodup_nil (fun i e f h=>by simp at h) fun i e f h=>by simp at h)
def GK (y:V) (σ:S):Option (List V):=match cY y σ with
 | some xs=>some xs
 | Option.none=>dG y
def eK (neg:Bool) (x y:V) (σ:S):Rs V:=
 qo (uV x.un) (fun t=>qo (uV y.un) (fun _=>if neg then .no else Qd x y σ) (qo (GK y σ) (fun xs=>dU (strsOf xs) fun ys=>.ok (.bool (xor neg (ys.any fun z=>z==t))) σ) (u4 neg x y σ)))
 (qo (EM x.un) (fun n=>qo (GK y σ) (fun xs=>dU (intsOf xs) fun ys=>.ok (.bool (xor neg (ys.any fun z=>z==n))) σ) (u4 neg x y σ)) (u4 neg x y σ))
theorem LL {t:Str}:∀ {vs:List Value}{ys:List Str},StrsAre vs ys→(vs.toArray.any fun v=>match v with | .str z _=>z==t | _=>false)=ys.any fun z=>z==t:=fun h=>by
 rw[List.any_toArray]
 induction h with
 | nil=>rfl
 | cons y u _ ih=>rw[List.any_cons,List.any_cons,ih]
theorem LM {t:Int}:∀ {vs:List Value}{ys:List Int},IntsAre vs ys→(vs.toArray.any fun v=>match v with | .int z _=>z==t | _=>false)=ys.any fun z=>z==t:=fun h=>by
 rw[List.any_toArray]
 induction h with
 | nil=>rfl
 | cons y u _ ih=>rw[List.any_cons,List.any_cons,ih]
theorem LN {vs:List Value}{ys:List Str}(h:StrsAre vs ys):∀ v∈vs,∃ z u,v=.str z u:=by
 induction h with
 | nil=>intro v h;simp at h
 | cons y u _ ih=>
  intro v h
  rcases List.mem_cons.mp h with rfl | h
  ·exact⟨_,_,rfl⟩
  ·exact ih v h
theorem LO {vs:List Value}{ys:List Int}(h:IntsAre vs ys):∀ v∈vs,∃ z u,v=.int z u:=by
 induction h with
 | nil=>intro v h;simp at h
 | cons y u _ ih=>
  intro v h
  rcases List.mem_cons.mp h with rfl | h
  ·exact⟨_,_,rfl⟩
  ·exact ih v h
theorem E0 {c:Act}{h:Heap}{m W σ}(R:Rel c h m W σ) {v:Value}{y:V}(hv:RV c W v y) {xs:List V}(e:GK y σ=some xs):
  ∃ a vs,v=.ref a∧(h.IsList a vs.toArray∨h.IsTuple a vs.toArray)∧RVs c W vs xs:=by
 unfold GK at e
 split at e
 ·rename_i ys hy
  cases e
  obtain⟨a,vs,rfl,h1,h2⟩:=lst_is R hv hy
  exact⟨a,vs,rfl,.inl h1,h2⟩
 ·obtain⟨a,vs,rfl,h1,h2⟩:=tup_is R hv e
  exact⟨a,vs,rfl,.inr h1,h2⟩
theorem Jn {w:World}{A:Around}{s:Shared}{neg:Bool}{l:Addr}{vs:List Value}{f:Value→Bool}{a:Value}{Q E:Value→Shared→Prop}(hl:s.heap.IsList l vs.toArray∨s.heap.IsTuple l vs.toArray) (hall:∀ v∈vs.toArray,EqAt A.in1 s v a (f v)) (q:Q (.bool (xor neg (vs.toArray.any f))) s):
  wpAny (model prog w) A (compareOp (if neg then .NotIn else .In) a (.ref l)) Q E s:=by
 cases neg with
 | false=>exact hl.elim (fun hl=>in_listAt _ hl hall (by simpa using q)) fun hl=>in_tupleAt _ hl hall (by simpa using q)
 | true=>exact hl.elim (fun hl=>notIn_listAt _ hl hall (by simpa using q)) fun hl=>notIn_tupleAt _ hl hall (by simpa using q)
theorem E1 {c:Act}{A:Around}(rm:cA D c A) {s:Shared}{m W σ}(R:Rel c s.heap m W σ) {a b:Value}{x y:V}(ra:RV c W a x) (rb:RV c W b y) {neg:Bool}{Q:Value→Shared→Prop}{E:Value→Shared→Prop}(hp:aA c (RV c) s W Q E (eK neg x y σ)):
  wpAny (model prog c.w) A (compareOp (if neg then .NotIn else .In) a b) Q E s:=by
 have ra':=ra.un
 have fin:∀ r:Bool,aA c (RV c) s W Q E (.ok (.bool (xor neg r)) σ)→Q (.bool (xor neg r)) s:=fun r hp=>hp _ s.heap s.toks m W R (aJ.refl _) (.bool _)
 refine oj hp (fun t ht hp=>oj hp (fun _ _ hp=>?_) fun hp=>oj hp (fun xs hx hp=>gP hp fun ys hys hp=>?_) fun hp=>u5 rm R ra rb hp)
  fun hp=>oj hp (fun t ht hp=>oj hp (fun xs hx hp=>gP hp fun ys hys hp=>?_) fun hp=>u5 rm R ra rb hp) fun hp=>u5 rm R ra rb hp
 ·cases neg with
  | true=>exact hp.elim
  | false=>exact Xn c A rm a b x y s m W σ R ra rb Q E hp
 ·rw[tj ht]at ra'
  exact(E0 R rb hx).elim fun l h=>h.elim fun vs g=>by
   have hst:=nB hys g.2.2
   rw[g.1]
   refine Jn g.2.1 (f:=fun v=>match v with | .str z _=>z==t | _=>false) (fun v hv=>(LN hst v (List.mem_toArray.mp hv)).elim fun z h=>h.elim fun u e=>ra'.inv.elim fun u' e'=>by rw[e,e'];exact EqAt.str_str _ _ _ _) ?_
   rw[LL hst]
   exact fin _ hp
 ·rw[vL ht]at ra'
  exact(E0 R rb hx).elim fun l h=>h.elim fun vs g=>by
   have hst:=nA hys g.2.2
   rw[g.1]
   refine Jn g.2.1 (f:=fun v=>match v with | .int z _=>z==t | _=>false) (fun v hv=>(LO hst v (List.mem_toArray.mp hv)).elim fun z h=>h.elim fun u e=>ra'.inv.elim fun u' e'=>by rw[e,e'];exact EqAt.int_int _ _ _ _) ?_
   rw[LM hst]
   exact fin _ hp
theorem uo:cH prog D (compareOp .In) (eK false):=fun c A rm a b x y s m W σ R ra rb Q E hp=>E1 (neg:=false) rm R ra rb hp
theorem rN:cH prog D (compareOp .NotIn) (eK true):=fun c A rm a b x y s m W σ R ra rb Q E hp=>E1 (neg:=true) rm R ra rb hp
def az (x i:V) (σ:S):Rs V:=if tC x σ then rM x i σ else lG x i σ
theorem Vp {value slice:PySem.Expr}(hs:uZ slice):cH prog D (subscriptTail value slice) az:=fun c A rm a b x y s m W σ R ra rb Q E hp=>by
 unfold az at hp
 split at hp
 ·obtain⟨h1,h2⟩:=GJ rm R ra rb hp
  exact tail_any h2 slot_dict_getitem.lookup h1 (hs _ _)
 ·exact Vd hs c A rm a b x y s m W σ R ra rb Q E hp
def u6 (o i x:V) (σ:S):Rs Fl:=if tC o σ then yg o i x σ else MP o.un fun k=>jx i.un fun n=>dU (BF σ.st[k]?) fun xs=>if 0≤n∧n<xs.length∧xs.length≤100000 then .ok .next ⟨σ.env,σ.st.set k (.lst (xs.set n.toNat x))⟩else .no
theorem RVs.set {c:Act}{W:aV}{vs:List Value}{xs:List V}(h:RVs c W vs xs) {v:Value}{x:V}(hv:RV c W v x) (n:Nat):RVs c W (vs.set n v) (xs.set n x):=by
 refine⟨by simp[h.1],fun j a b ha hb=>?_⟩
 by_cases e:n=j
 ·subst e
  rw[List.getElem?_set]at ha hb
  simp only[if_true]at ha hb
  split at ha
  ·split at hb
   ·cases ha;cases hb;exact hv
   ·cases hb
  ·cases ha
 ·rw[List.getElem?_set_ne e]at ha hb
  exact h.2 j a b ha hb
theorem Pc {c:Act}{A:Around}(rm:cA D c A) {s:Shared}{m W σ}(R:Rel c s.heap m W σ) {o b v:Value}{y kx x:V}(ho:RV c W o y) (rb:RV c W b kx) (hv:RV c W v x) {Q:Unit→Shared→Prop}{E:Value→Shared→Prop}
  (hp:aA c (fun _ _ f=>f=Fl.next) s W Q E (u6 y kx x σ)):wpAny (model prog c.w) A (setItem o b v) Q E s:=by
 unfold u6 at hp
 split at hp
 ·exact O9 rm R ho rb hv hp
 ·have ho':=ho.un
  have rb':=rb.un
  refine P5 hp fun k hk hp=>xN hp fun n hn hp=>gP hp fun xs hs hp=>?_
  rw[hk]at ho'
  rw[hn]at rb'
  refine aA.iteP hp fun hc hp=>rb'.inv.elim fun t e=>ho'.inv.elim fun xa h=>h.elim fun da hr=>R.at_st (xS hs) hr.2 fun ro h2 h3=>h3.inv.elim fun vs h=>h.elim fun nn g=>?_
  have h2:(xa,lstOf vs nn)∈W.nw:=g.1▸g.2.1▸h2
  have z:=R.N _ h2
  have l1:vs.toArray.size=xs.length:=g.2.2.1
  rw[e,hr.1]
  refine ki_setAt (n:=nn) (items:=vs.toArray) z.1 hc.1 (by omega) (by rw[l1];exact hc.2.1) ?_
  have U:=tv (o':=lstOf (vs.set n.toNat v) nn) h2 R.nd
  obtain⟨pre,post,e1,e2,a1,a2⟩:=U.split
  have N':News c.b c.L (s.heap.update xa (Obj.mapSeq (·.setIfInBounds n.toNat v))) (put xa (lstOf (vs.set n.toNat v) nn) W.nw):=by
   rw[e2]
   exact ki_turn (its:=vs.toArray) (its':=(vs.set n.toNat v).toArray) (n:=nn) (n':=nn) _ (e1▸R.N) a1 a2 (by simp) (by simp)
  have q:=R.upd (g.2.1▸hr.2:W.rho[k]?=some (xa,xa)) h2 (R.F.change (Heap.SameBut.update ..) z.2.1 z.2.2) N' (OR.lst rfl (RVs.set g.2.2 hv n.toNat))
  exact hp () _ s.toks m _ q.1 q.2 rfl
def fu (we wo wi:W1):W2:=fun σ=>(we σ).bind fun x σ1=>(wo σ1).bind fun o σ2=>(wi σ2).bind fun i σ3=>u6 o i x σ3
theorem Vq {o i p' e p we wo wi}(he:JE prog K D cs e we) (ho:JE prog K D cs o wo) (hi:JE prog K D cs i wi) (hs:∀ env,swapsWith e (some (.Subscript o i p')) p.line env=pure false):
  JX prog K D cs (.Assign [.Subscript o i p'] e p) (fu we wo wi):=fun c A rm fr kk s m W σ R Q E hp=>by
 refine wpAny_Assign_Subscript (he c A rm fr kk s m W σ R _ E (aA.bind hp fun v x σ1 h1 tk1 m1 W1 R1 X1 ra p1=>?_)) (hs _)
 refine ho c A rm fr kk _ m1 W1 σ1 R1 _ E (aA.bind p1 fun v' y σ2 h2 tk2 m2 W2 R2 X2 rb p2=>?_)
 refine hi c A rm fr kk _ m2 W2 σ2 R2 _ E (aA.bind p2 fun v'' z σ3 h3 tk3 m3 W3 R3 X3 rc p3=>?_)
 refine Pc rm R3 (rb.ext X3) rc (ra.ext (X2.trans X3)) ?_
 revert p3
 cases hq:u6 y z x σ3 with
 | ok f σ4=>
  intro p3 u h' tk m' W' R' X' hf
  subst hf
  exact p3 _ h' tk m' W' R' X' .next
 | exc C=>exact id
 | no=>exact id
end
section
open PySem PySem.W PyProof.Rows PySem.Calls PySem.SeqAt
variable {prog:Program}{K:World→Frag}{D:Nat}{cs:Scope}
noncomputable def M1 (v:V):Option (Addr×List (Nat×V)):=@V.casesOn (fun _=>Option (Addr×List (Nat×V))) v none none (fun _=>none) (fun _=>none) (fun _=>none) (fun _=>none) (fun _=>none) (fun _=>none) (fun C fs=>some (C,fs)) (fun _=>none) (fun _=>none) (fun _=>none) (fun _ _=>none)
theorem Jo {y:V}{p}(e:M1 y=some p):y=.inst p.1 p.2:=by
 revert e
 exact V.casesOn (motive_1:=fun y=>M1 y=some p→y=.inst p.1 p.2) y ay ay (fun _=>ay) (fun _=>ay) (fun _=>ay) (fun _=>ay) (fun _=>ay) (fun _=>ay) (fun _ _ e=>Option.some.inj e▸rfl) (fun _=>ay) (fun _=>ay) (fun _=>ay) (fun _ _=>ay)
def iL (f:V→V→Bool) (x y:V):Bool:=match x with
 | .int a=>(EM y).any fun b=>a != b
 | .str a=>(uV y).any fun b=>a != b
 | .inst C fs=>MY y || (M1 y).any fun q=>C != q.1 || fs.length != q.2.length || (fs.zip q.2).any fun p=>p.1.1==p.2.1&&f p.1.2 p.2.2
 | .none=>(M1 y).any fun _=>true
 | _=>false
theorem anyS {α:Type}{o:Option α}{g:α→Bool}{G:Prop}(h:o.any g=true) (k:∀ b,o=some b→g b=true→G):G:=by
 cases o with
 | none=>cases h
 | some b=>exact k b rfl h
theorem Jp {f:V→V→Bool}{x y:V}{G:Prop}(h:iL f x y=true) (ki:∀ a b,x=.int a→y=.int b→(a != b)=true→G) (ks:∀ a b,x=.str a→y=.str b→(a != b)=true→G)
  (ko:∀ C fs C' fs',x=.inst C fs→y=.inst C' fs'→(C != C' || fs.length != fs'.length || (fs.zip fs').any fun p=>p.1.1==p.2.1&&f p.1.2 p.2.2)=true→G)
  (kl:∀ C fs,x=.inst C fs→y=.none→G) (kr:∀ C fs,x=.none→y=.inst C fs→G):G:=by
 have h':∀ z,x=z→iL f z y=true→G:=fun z=>V.casesOn (motive_1:=fun z=>x=z→iL f z y=true→G) z (fun _ e=>Bool.noConfusion e) (fun e h=>anyS h fun b h1 _=>kr _ _ e (Jo h1)) (fun _ _ e=>Bool.noConfusion e) (fun a e h=>anyS h fun b h1 h2=>ki a b e (vL h1) h2) (fun a e h=>anyS h fun b h1 h2=>ks a b e (tj h1) h2) (fun _ _ e=>Bool.noConfusion e) (fun _ _ e=>Bool.noConfusion e) (fun _ _ e=>Bool.noConfusion e) (fun C fs e h=>(Bool.or_eq_true_iff.mp h).elim (fun h=>kl C fs e (Jj h)) fun h=>anyS h fun b h1 h2=>ko C fs _ _ e (Jo h1) h2) (fun _ _ e=>Bool.noConfusion e) (fun _ _ e=>Bool.noConfusion e) (fun _ _ e=>Bool.noConfusion e) (fun _ _ _ e=>Bool.noConfusion e)
 exact h' x rfl h
def pM:Nat→V→V→Bool
 | 0,_,_=>false
 | k+1,x,y=>iL (pM k) x y
theorem vV (k:Nat) (x y:V):pM (k+1) x y=iL (pM k) x y:=.trans rfl rfl
section
variable {f:V→V→Bool}{y:V}
theorem zi (a b:Int):iL f (.int a) (.int b)=(a != b):=.trans rfl rfl
theorem zj (a b:Str):iL f (.str a) (.str b)=(a != b):=.trans rfl rfl
theorem vW (C C':Addr) (fs fs':List (Nat×V)):iL f (.inst C fs) (.inst C' fs')=(C != C' || fs.length != fs'.length || (fs.zip fs').any fun p=>p.1.1==p.2.1&&f p.1.2 p.2.2):=.trans rfl rfl
theorem zk (a:List V):iL f (.tup a) y=false:=.trans rfl rfl
theorem vX (a:Bool):iL f (.bool a) y=false:=.trans rfl rfl
theorem vY:iL f .none .none=false:=.trans rfl rfl
end
theorem BR {P:Params}{F:Addr→Obj→Prop}{rho:List (Addr×Addr)}(hF:∀ a o o',F a o→F a o'→o=o'):∀ (k:Nat) (x y:V) (v:Value),pM k x y=true→VR P F rho v x→VR P F rho v y→False
 | 0,_,_,_,e,_,_=>by cases e
 | k+1,x,y,v,e,hx,hy=>by
  have ih:=BR (P:=P) (rho:=rho) hF k
  refine Jp e (fun a b ha hb e=>?_) (fun a b ha hb e=>?_) (fun C fs C' fs' ha hb e=>?_) (fun C fs ha hb=>?_) fun C fs ha hb=>?_
  all_goals rw[ha]at hx;rw[hb]at hy
  ·obtain⟨_,q1⟩:=hx.inv;obtain⟨_,q2⟩:=hy.inv;injection q1.symm.trans q2 with q;exact bne_iff_ne.mp e q
  ·obtain⟨_,q1⟩:=hx.inv;obtain⟨_,q2⟩:=hy.inv;injection q1.symm.trans q2 with q;exact bne_iff_ne.mp e q
  ·obtain⟨x1,dx,es,n,q1,f1,f2,f3,_,f5⟩:=hx.inv
   obtain⟨x2,dy,es',n',q2,g1,g2,g3,_,g5⟩:=hy.inv
   injection q1.symm.trans q2 with q
   have e1:=hF _ _ _ f1 (q▸g1)
   injection e1 with e4 e5
   injection e4 with e4
   injection e5 with e5
   have e2:=hF _ _ _ f2 (e5▸g2)
   injection e2 with _ _ e3
   injection e3 with e3
   have e3:=EW e3
   subst e3 e4
   have hl:fs.length=fs'.length:=f3.symm.trans g3
   simp only[bne_self_eq_false,hl,Bool.false_or]at e
   obtain⟨p,hp,hpe⟩:=List.any_eq_true.mp e
   obtain⟨i,hi⟩:=List.mem_iff_getElem?.mp hp
   rw[List.getElem?_zip_eq_some]at hi
   rw[Bool.and_eq_true]at hpe
   have hlt:=(List.getElem?_eq_some_iff.mp hi.1).1
   have he:=List.getElem?_eq_getElem (f3.symm▸hlt)
   exact ih _ _ _ hpe.2 (f5 i _ _ he hi.1) (g5 i _ _ he hi.2)
  ·obtain⟨_,_,_,_,q,_⟩:=hx.inv;exact nomatch (show v=_ from hy.inv).symm.trans q
  ·obtain⟨_,_,_,_,q,_⟩:=hy.inv;exact nomatch (show v=_ from hx.inv).symm.trans q
open Classical in
noncomputable def both (a b:Rs Fl):Rs Fl:=if a=b then a else .no
noncomputable def BS (wl wr:W1) (wb:W2):W2:=fun σ=>(wl σ).bind fun x σ1=>(wr σ1).bind fun y σ2=>match x,y with
 | .inst _ _,.inst _ _=>if pM 9 x y then wb σ2 else both (wb σ2) (.ok .next σ2)
 | _,_=>.no
theorem Jq {w:World}{A:Around}{E:Value→Shared→Prop}{s:Shared}{x y:Addr}{ox oy:Obj}(hx:s.heap.get? x=some ox) (hy:s.heap.get? y=some oy) (hnt:oy.cls≠.type "tuple") {Q:Value→Shared→Prop}
  (h:Q (.bool (decide (x≠y))) s):wpAny (model prog w) A (compareOp .IsNot (.ref x) (.ref y)) Q E s:=by
 by_cases e:x=y
 ·subst e
  exact wpAny_isNot_ref_self (by simpa using h)
 ·show wpAny _ _ (do return .bool (!(← isSame (.ref x) (.ref y)))) Q E s
  refine wpAny_bind (wpAny_isSame_ref_other' e hx hy hnt (wpAny_pure ?_))
  simpa[e]using h
theorem XE {l r p body pos wl wr wb}(hl:JE prog K D cs l wl) (hr:JE prog K D cs r wr) (hb:JS prog K D cs body wb) (hm:behindInMarks .IsNot r=false):JX prog K D cs (.If (.Compare l [.IsNot] [r] p) body [] pos) (BS wl wr wb):=fun c A rm fr k s m W σ R Q E hp=>by
 refine wpAny_If (wpAny_isTrue_Compare1 (hl c A rm fr k s m W σ R _ E (aA.bind hp fun a x σ1 h1 tk1 m1 W1 R1 X1 ra p1=>?_)) hm)
 refine hr c A rm fr k _ m1 W1 σ1 R1 _ E (aA.bind p1 fun b y σ2 h2 tk2 m2 W2 R2 X2 rb p2=>?_)
 split at p2
 ·rename_i C fs C' fs'
  have ra2:=ra.ext X2
  have ra3:VR c.w.params (FZ c.b W2.fz) W2.rho a (.inst C fs):=ra2
  have rb3:VR c.w.params (FZ c.b W2.fz) W2.rho b (.inst C' fs'):=rb
  refine ra3.inv.elim fun xa h=>h.elim fun dx h=>h.elim fun es h=>h.elim fun n f=>rb3.inv.elim fun ya h=>h.elim fun dy h=>h.elim fun es' h=>h.elim fun n' g=>?_
  have ea:=f.1
  have eb:=g.1
  subst ea eb
  refine Jq (R2.fz_at f.2.1) (R2.fz_at g.2.1) (fun e=>by cases e) ?_
  refine wpAny_truthy_bool ?_
  split at p2
  ·rename_i hd
   have hne:xa≠ya:=fun e=>by
    subst e
    exact BR R2.fun 9 _ _ _ hd ra3 rb3
   simp only[ne_eq,hne,not_false_eq_true,decide_true]
   exact hb c A rm fr k _ m2 W2 σ2 R2 Q E p2
  ·unfold both at p2
   split at p2
   ·rename_i heq
    by_cases e:xa=ya
    ·simp only[ne_eq,e,not_true_eq_false,decide_false]
     rw[heq]at p2
     exact wpAny_execs_nil (p2 _ h2 tk2 m2 W2 R2 (aJ.refl _) .next)
    ·simp only[ne_eq,e,not_false_eq_true,decide_true]
     exact hb c A rm fr k _ m2 W2 σ2 R2 Q E p2
   ·exact p2.elim
 ·exact p2.elim
end
section
open PySem PySem.W PyProof.Rows PySem.Calls PySem.SeqAt
variable {prog:Program}{K:World→Frag}{D:Nat}{cs:Scope}
section
variable {w:World}{A:Around}{E:Value→Shared→Prop}{s:Shared}
theorem lq {it l:Addr}{i:Nat}{items}{x:Value}{Q:Value→Shared→Prop}(hit:s.heap.IsTupleIter it l i) (hl:s.heap.IsTuple l items) (hx:items[i]?=some x)
  (hQ:∀ h',h'.IsTupleIter it l (i+1)→Heap.SameBut it s.heap h'→Q x { s with heap:=h' }):
  wpAny (model prog w) A (Builtin.SmallTypes.nextOf (.ref it)) Q E s:=by
 obtain⟨o,ho,hc,hd⟩:=id hit
 obtain⟨ol,hol,_,nl,hdl⟩:=hl
 unfold Builtin.SmallTypes.nextOf
 refine wpAny_bind (wpAny_callSpecial?_slot (name:=Str.ofString "__next__") hit.typeIs F.slot_tuple_iterator_next
  (wpAny_call_entry F.slot_tuple_iterator_next hit.typeIs F.entry_tuple_iterator_next ?_ (F.args_tuple_iterator_next_1 _)))
 show wpAny _ _ (PySem.field (.ref it) 0 >>= _) _ _ s
 refine wpAny_bind (wpAny_field ho hd (x:=.ref l) rfl ?_)
 show wpAny _ _ (if(Value.ref l==Value.none)=true then _ else _) _ _ s
 rw[if_neg (show ¬ ((Value.ref l==Value.none)=true)from Bool.false_ne_true)]
 show wpAny _ _ (PySem.field (.ref it) 1 >>= _) _ _ s
 refine wpAny_bind (wpAny_field ho hd (x:=.int i 0) rfl ?_)
 show wpAny _ _ (seqItems? (.ref l) >>= _) _ _ s
 refine wpAny_bind (wpAny_seqItems hol hdl ?_)
 simp only[Int.toNat_natCast,hx]
 refine wpAny_bind (wpAny_setField ho hd (by simp) (wpAny_pure ⟨x,rfl,wpAny_pure (hQ _ ?_ (Heap.SameBut.update ..))⟩))
 exact⟨_,Heap.get?_update_self _ ho (Obj.isFreed_of_fields (Obj.data_mapFields hd _)),(Obj.cls_mapFields ..).trans hc,by
  rw[Obj.data_mapFields hd];simp[rawInt]⟩
theorem mh {it l:Addr}{i:Nat}{items}{Q:Value→Shared→Prop}(hh:A.handled=none) (hit:s.heap.IsTupleIter it l i) (hl:s.heap.IsTuple l items) (hx:items[i]?=none)
  (hE:∀ h' e,Heap.ExtBut it s.heap h'→(∃ o,h'.get? e=some o∧o.cls=.type "StopIteration")→E (.ref e) { s with heap:=h' }):
  wpAny (model prog w) A (Builtin.SmallTypes.nextOf (.ref it)) Q E s:=by
 obtain⟨o,ho,hc,hd⟩:=id hit
 obtain⟨ol,hol,_,nl,hdl⟩:=hl
 unfold Builtin.SmallTypes.nextOf
 refine wpAny_bind (wpAny_callSpecial?_slot (name:=Str.ofString "__next__") hit.typeIs F.slot_tuple_iterator_next
  (wpAny_call_entry F.slot_tuple_iterator_next hit.typeIs F.entry_tuple_iterator_next ?_ (F.args_tuple_iterator_next_1 _)))
 show wpAny _ _ (PySem.field (.ref it) 0 >>= _) _ _ s
 refine wpAny_bind (wpAny_field ho hd (x:=.ref l) rfl ?_)
 show wpAny _ _ (if(Value.ref l==Value.none)=true then _ else _) _ _ s
 rw[if_neg (show ¬ ((Value.ref l==Value.none)=true)from Bool.false_ne_true)]
 show wpAny _ _ (PySem.field (.ref it) 1 >>= _) _ _ s
 refine wpAny_bind (wpAny_field ho hd (x:=.int i 0) rfl ?_)
 show wpAny _ _ (seqItems? (.ref l) >>= _) _ _ s
 refine wpAny_bind (wpAny_seqItems hol hdl ?_)
 simp only[Int.toNat_natCast,hx]
 refine wpAny_bind (wpAny_rule (wpAny_bind (wpAny_setField ho hd (by simp) ?_)))
 show wpAny _ _ (newExc (.type "StopIteration") [] >>= _) _ _ _
 refine wpAny_bind ?_
 simp only[newExc,newTuple]
 refine wpAny_bind (wpAny_newObj_type ?_ (by size_fits))
 refine wpAny_bind (m:=firstArgMember _ _) (wpAny_of_eq (a:=Value.none) (by first | rfl | (simp only[firstArgMember];rfl)) ?_)
 refine wpAny_newObj_type ?_ (by size_fits)
 simp only[raiseNew]
 refine wpAny_bind (wpAny_handled ?_)
 first | rw[show A.in1.handled=none from hh] | rw[hh]
 refine wpAny_bind (wpAny_pure (wpAny_throw ?_))
 exact hE _ _ (((Heap.SameBut.update ..).extBut.push _).push _) ⟨_,Heap.get?_push_size _ rfl,rfl⟩
end
theorem GM {w:World}{A:Around}(hh:A.handled=none) (it l:Addr) (hne:l≠it) (items:Array Value):
  Draws prog w A it [it,l] items.size (fun i v=>items[i]?=some v) (fun i h=>h.IsTupleIter it l i∧h.IsTuple l items) where
 live:=fun _ _ st=>let ⟨o,ho,_⟩:=st.1;⟨o,ho⟩
 frame:=fun _ _ _ st hk=>⟨st.1.at fun o e=>hk it (by simp) o e,st.2.at fun o e=>hk l (by simp) o e⟩
 item:=fun i s Q E hi st hQ=>by
  refine lq st.1 st.2 (x:=items[i]) (by simp[hi]) fun h' hit' hs'=>?_
  exact hQ _ h' s.toks (by simp[hi]) ⟨hit',st.2.extBut hs'.extBut hne⟩ hs'
 done:=fun s Q E st hE=>mh hh st.1 st.2 (by simp) hE
theorem QL {M:Model}{A:Around}{s:Shared}{E:Value→Shared→Prop}{f:List (Code×Pos)→Bool}{Q:Bool→Shared→Prop}(h:∀ b,Q b s):wpAny M A stack (fun st s'=>wpAny M A (pure (f st)) Q E s') E s:=wpAny_stack_any fun st=>wpAny_pure (h _)
theorem Jr (l:Addr) (items:Array Value) (n:Nat) (dct:Option Addr) (sl:Array (Option Value)):
  Meets (Builtin.«enumerate.__new__» ⟨[.type "enumerate",.ref l],[]⟩) (fun _ R s=>s.heap.get? l=some { cls:=.type "tuple",dict:=dct,data:=.seq items n,slots:=sl }∧
   R (.ok (.ret (.ref (s.heap.push { cls:=.type "tuple_iterator",data:=.fields #[.ref l,.int 0 0] }).objs.size)))
    { s with heap:=(s.heap.push { cls:=.type "tuple_iterator",data:=.fields #[.ref l,.int 0 0] }).push { cls:=.type "enumerate",data:=.fields #[.none,.bool false,.ref s.heap.objs.size,rawInt 0,.none,.none] } }):=
 .of_wp fun prog w A R s h=>by
  obtain⟨hp,g,d,tk,os⟩:=s;obtain⟨hl,h⟩:=h
  have hsub:=sub_enumerate
  have hL:Heap.IsTuple (Shared.heap ⟨hp,g,d,tk,os⟩) l items:=⟨_,hl,rfl,n,rfl⟩
  wp_walk using AutoSeq1.wpAny_loadPart' hl
  refine QL fun b=>?_
  cases b
  ·wp_walk using AutoSeq1.wpAny_loadPart' hl,wpAny_pyIter_tuple hL
   exact⟨_,rfl,h⟩
  ·wp_walk using AutoSeq1.wpAny_loadPart' hl,wpAny_pyIter_tuple hL
   exact⟨_,rfl,h⟩
theorem vZ {w:World}{A:Around}{E:Value→Shared→Prop}{s:Shared}{l:Addr}{items:Array Value}{Q:Value→Shared→Prop}(hL:s.heap.IsTuple l items)
  (h:∀ h',IsEnum h' (s.heap.objs.size+1) s.heap.objs.size 0 .none→h'.IsTupleIter s.heap.objs.size l 0→h'.objs.size=s.heap.objs.size+2→
   (∀ b o,s.heap.get? b=some o→h'.get? b=some o)→Q (.ref (s.heap.objs.size+1)) { s with heap:=h' }):
  wpAny (model prog w) A (call (.type "enumerate") [.ref l]) Q E s:=by
 obtain⟨⟨c,dct,dt,sl⟩,hl,hc,n,hd⟩:=hL
 replace hc:c=.type "tuple":=hc
 replace hd:dt=.seq items n:=hd
 subst hc hd
 refine callType_new F.called_enumerate (by decide) (F.typeCall_enumerate_1 _) (F.newCall_enumerate_1 _) (fun obj=>F.args_object_init_2 obj _) F.entry_enumerate_new
  (Jr l items n dct sl) ⟨hl,?_⟩
 have hz:(s.heap.push { cls:=.type "tuple_iterator",data:=.fields #[.ref l,.int 0 0] }).objs.size=s.heap.objs.size+1:=Heap.size_push ..
 show _∧_
 rw[hz]
 have he:IsEnum ((s.heap.push { cls:=.type "tuple_iterator",data:=.fields #[.ref l,.int 0 0] }).push
   { cls:=.type "enumerate",data:=.fields #[.none,.bool false,.ref s.heap.objs.size,rawInt 0,.none,.none] }) (s.heap.objs.size+1) s.heap.objs.size 0 .none:=by
  have:=Heap.get?_push_size (s.heap.push { cls:=.type "tuple_iterator",data:=.fields #[.ref l,.int 0 0] })
   (o:={ cls:=.type "enumerate",data:=.fields #[.none,.bool false,.ref s.heap.objs.size,rawInt 0,.none,.none] }) rfl
  rw[hz]at this;exact this
 refine⟨⟨_,he,rfl⟩,h _ he ⟨_,Heap.get?_push_of_some _ (Heap.get?_push_size _ rfl),rfl,rfl⟩ (by rw[Heap.size_push,hz]) fun b o x=>Heap.get?_push_of_some _ (Heap.get?_push_of_some _ x)⟩
end
section
open PySem PySem.W PyProof.Rows PySem.Calls PySem.SeqAt
variable {prog:Program}{K:World→Frag}{D:Nat}{cs:Scope}
noncomputable def j2:Nat→List V→List (List V)
 | _,[]=>[]
 | i,x::xs=>[.int i,x]::j2 (i+1) xs
theorem rO:∀ (xs:List V) (a:Nat),(j2 a xs).length=xs.length
 | [],_=>rfl
 | _::r,a=>congrArg (·+1) (rO r (a+1))
theorem zl:∀ (xs:List V) (a i:Nat) {x:V},xs[i]?=some x→(j2 a xs)[i]?=some [.int ((a+i:Nat):Int),x]
 | [],_,_,_,h=>by simp at h
 | x::r,a,0,v,h=>by
  have e:x=v:=by simpa using h
  subst e
  rfl
 | x::r,a,i+1,v,h=>by
  have h':r[i]?=some v:=by simpa using h
  have q:=zl r (a+1) i h'
  have e:a+1+i=a+(i+1):=by omega
  rw[e]at q
  simpa[j2]using q
def rP (wa:S→Rs (List V)):S→Rs (List (List V)):=fun σ=>(wa σ).bind fun xs σ1=>match xs with
 | [x]=>match lW x with
  | some ys=>.ok (j2 0 ys) σ1
  | Option.none=>.no
 | _=>.no
theorem nx.bind {c:Act}{A:Around}{tgt:PySem.Expr}{s:Shared}{W:aV}{Q:Value→Shared→Prop}{E:Value→Shared→Prop}{α β:Type}{rel:aV→α→β→Prop}{r:Rs β}{g:β→S→Rs (List (List V))}{Q0:α→Shared→Prop}(p:nx c A prog tgt s W Q E (r.bind g))
  (k:∀ a y σ' h' tk m' W',Rel c h' m' W' σ'→aJ W W'→rel W' a y→nx c A prog tgt { s with heap:=h',toks:=tk } W' Q E (g y σ')→Q0 a { s with heap:=h',toks:=tk }):aA c rel s W Q0 E r:=by
 cases r with
 | ok y σ=>
  intro a h' tk m' W' R X ra
  refine k a y σ h' tk m' W' R X ra ?_
  have p':nx c A prog tgt s W Q E (g y σ):=p
  generalize g y σ=q at p'
  cases q with
  | ok rows σ'=>exact fun I h'' tk' m'' W'' fp wr P Md St R'' X'' IT st=>p' I h'' tk' m'' W'' fp wr P Md St R'' (X.trans X'') IT st
  | exc C=>exact fun e h'' tk' t=>p' e h'' tk' (t.ext X)
  | no=>exact p'
 | exc C=>exact p
 | no=>exact p
theorem E2 {c:Act}{A:Around}{W:aV}{h0 h':Heap}{m σ}{es k p}{l:Addr}{vs:List Value}{xs:List V}{St:Nat→Heap→Prop}(R:Rel c h0 m W σ) (R':Rel c h' m W σ) (hl:l<h0.objs.size) (hlL:l≠c.L) (hlf:l∈W.nw.map (·.1)→∃ o,(l,o)∈W.fz) (hvs:RVs c W vs xs)
  (DD:Draws prog c.w A.in1 h0.objs.size [h0.objs.size,l] vs.toArray.size (fun i v=>vs.toArray[i]?=some v) St) (hth:∀ i h,St i h→∀ b∈[h0.objs.size,l],∃ o,h.get? b=some o) (hE:IsEnum h' (h0.objs.size+1) h0.objs.size 0 .none) (hst:St 0 h'):
  rx prog c A W (.Tuple es k p) (j2 0 xs) (h0.objs.size+1) [h0.objs.size+1,h0.objs.size,l] [h0.objs.size+1,h0.objs.size]
   (fun i v h=>∃ T vals,v=.ref T∧(∃ t x,vs.toArray[i]?=some x∧vals=#[.int i t,x])∧h.IsTuple T vals)
   (fun i v h=>∃ T vals,v=.ref T∧(∃ t x,vs.toArray[i]?=some x∧vals=#[.int i t,x])∧h.IsTuple T vals∧((∃ x,IsEnumOut h (h0.objs.size+1) h0.objs.size ((i:Int)+1) x T)∧St (i+1) h∧T≠h0.objs.size+1∧T≠h0.objs.size))
   (fun i h=>(∃ old,IsEnum h (h0.objs.size+1) h0.objs.size i old)∧St i h):=by
 have l1:vs.toArray.size=xs.length:=by simpa using hvs.1
 have hLlt:c.L<h0.objs.size:=R.F.ns.lt
 have hnew:∀ b,h0.objs.size≤b→c.b.get? b=none∧b∉W.nw.map (·.1):=fun b hb=>by
  constructor
  ·cases q:c.b.get? b with
   | none=>rfl
   | some o=>exact absurd (Heap.lt_size (R.F.keep _ _ q)) (Nat.not_lt.mpr hb)
  ·exact fun hm=>absurd (R.lt _ hm) (Nat.not_lt.mpr hb)
 refine⟨?_,?_,?_,?_,?_,?_⟩
 ·rw[rO,← l1]
  exact KTurns.ofWalksU (WalksT.enumerateD DD (h0.objs.size+1) (Nat.succ_ne_self _) (by
   simp only[List.mem_cons,List.not_mem_nil,or_false,not_or]
   exact⟨Nat.succ_ne_self _,Nat.ne_of_gt (Nat.lt_succ_of_lt hl)⟩) (List.mem_cons_self ..)).toU
 ·simp only[List.mem_cons,List.not_mem_nil,or_false,not_or]
  exact⟨Nat.ne_of_lt (Nat.lt_succ_of_lt hLlt),Nat.ne_of_lt hLlt,hlL.symm⟩
 ·intro b hb
  simp only[List.mem_cons,List.not_mem_nil,or_false]at hb
  rcases hb with rfl | rfl
  ·exact hnew _ (Nat.le_succ _)
  ·exact hnew _ (Nat.le_refl _)
 ·intro b hb hm
  simp only[List.mem_cons,List.not_mem_nil,or_false]at hb
  rcases hb with rfl | rfl | rfl
  ·exact absurd hm (hnew _ (Nat.le_succ _)).2
  ·exact absurd hm (hnew _ (Nat.le_refl _)).2
  ·exact hlf hm
 ·rintro i h ⟨⟨old,he⟩,st⟩ b hb
  rcases List.mem_cons.mp hb with rfl | hb
  ·exact⟨_,he⟩
  ·exact hth i h st b hb
 ·rintro i v h hi ⟨T,vals,rfl,⟨t,x,hx,rfl⟩,hT⟩
  rw[rO]at hi
  have hx':vs[i]?=some x:=by simpa using hx
  refine⟨[.int i t,x],[.int ((0+i:Nat):Int),xs[i]],zl xs 0 i (List.getElem?_eq_getElem hi),?_,.tup rfl (.inl hT)⟩
  rw[Nat.zero_add]
  exact VRs.cons (.int _ _) (VRs.cons (hvs.2 i x _ hx' (List.getElem?_eq_getElem hi)) VRs.nil)
theorem QM {x v p args pos wa e es tes k tp}(hx:pF K cs x v) (hv:v=.type "enumerate") (hargs:args=e::es) (ha:JL prog K D cs args wa) (he:∀ env,starEach (e::es) env=(false,eval e env)::starEach es env):
  JI prog K D cs (.Tuple tes k tp) (.Call (.Name x p) args [] pos) (rP wa):=fun c A rm fr kk s m W σ R Q E hp=>by
 subst hargs hv
 refine Call_ (lH hx fr kk R ?_)
 refine gx (.inr ⟨_,rfl⟩) (he _) (dF (ha.1 _ _) (he _)) (ha.2 c A rm fr kk s m W σ R pos _ E (nx.bind hp fun vs xs σ1 h1 tk1 m1 W1 R1 X1 ra p1=>?_))
 split at p1
 case h_2=>exact p1.elim
 rename_i x1
 obtain⟨v1,rfl⟩:∃ v,vs=[v]:=xP ra.1
 cases hys:lW x1 with
 | none=>rw[hys]at p1;exact p1.elim
 | some ys=>
 rw[hys]at p1
 have two:∀ {h':Heap}{x a b:Addr},(∃ o,h'.get? x=some o)→(∃ o,h'.get? a=some o)→b∈[x,a]→∃ o,h'.get? b=some o:=fun p q hb=>(List.mem_cons.mp hb).elim (fun e=>e▸p) fun hb=>List.mem_singleton.mp hb▸q
 refine RV.seq (c:=c) (W:=W1) (ra.get (i:=0) rfl rfl) hys (fun a us n e f1 f2=>?_) fun a us n e f1 f2=>?_
 ·subst e
  have hol:=R1.fz_at f1
  have hl:h1.IsList a us.toArray:=⟨_,hol,rfl,n,rfl⟩
  have z:=pI R1 f1
  refine call_enumerate_list hl fun h' hE hI hsz hk=>wpAny_pyIter_enum hE ?_
  have hst:h'.IsListIter h1.objs.size a 0∧h'.IsList a us.toArray:=⟨hI,hl.at fun o e=>hk a o e⟩
  exact p1 (h1.objs.size+1) h' tk1 m1 W1 _ _ _ _ _ (R1.grow hk) (aJ.refl _) (E2 R1 (R1.grow hk) (Heap.lt_size hol) z.2 z.1 f2 (Draws.list (A:=A.in1) rm.handled h1.objs.size a (Nat.ne_of_lt (Heap.lt_size hol)) us.toArray) (fun i h st b hb=>two (st.1.imp fun o h=>h.1) (st.2.imp fun o h=>h.1) hb) hE hst) ⟨⟨_,hE⟩,hst⟩
 ·subst e
  have hol:=R1.fz_at f1
  have hl:h1.IsTuple a us.toArray:=⟨_,hol,rfl,n,rfl⟩
  have z:=pI R1 f1
  refine vZ hl fun h' hE hI hsz hk=>wpAny_pyIter_enum hE ?_
  have hst:h'.IsTupleIter h1.objs.size a 0∧h'.IsTuple a us.toArray:=⟨hI,hl.at fun o e=>hk a o e⟩
  exact p1 (h1.objs.size+1) h' tk1 m1 W1 _ _ _ _ _ (R1.grow hk) (aJ.refl _) (E2 R1 (R1.grow hk) (Heap.lt_size hol) z.2 z.1 f2 (GM (A:=A.in1) rm.handled h1.objs.size a (Nat.ne_of_lt (Heap.lt_size hol)) us.toArray) (fun i h st b hb=>two (st.1.imp fun o h=>h.1) (st.2.imp fun o h=>h.1) hb) hE hst) ⟨⟨_,hE⟩,hst⟩
end
section
open PySem PySem.W PyProof.Rows PySem.Calls PySem.SeqAt
variable {prog:Program}{K:World→Frag}{D:Nat}{cs:Scope}
def It (b:Bool) (h:Heap) (it l:Addr) (i:Nat):Prop:=if b then h.IsTupleIter it l i else h.IsListIter it l i
def Sq (b:Bool) (h:Heap) (l:Addr) (xs:Array Value):Prop:=if b then h.IsTuple l xs else h.IsList l xs
theorem It.at {b:Bool}{h h':Heap}{it l:Addr}{i:Nat}(x:It b h it l i) (k:∀ o,h.get? it=some o→h'.get? it=some o):It b h' it l i:=by
 cases b with
 | true=>obtain⟨o,ho,r⟩:=(show h.IsTupleIter it l i from x);exact(show h'.IsTupleIter it l i from⟨o,k o ho,r⟩)
 | false=>obtain⟨o,ho,r⟩:=(show h.IsListIter it l i from x);exact(show h'.IsListIter it l i from⟨o,k o ho,r⟩)
theorem It.extBut {b:Bool}{h h':Heap}{it l c:Addr}{i:Nat}(x:It b h it l i) (k:Heap.ExtBut c h h') (hn:it≠c):It b h' it l i:=x.at fun o e=>k it o hn e
theorem It.there {b:Bool}{h:Heap}{it l:Addr}{i:Nat}(x:It b h it l i):∃ o,h.get? it=some o:=by
 cases b with
 | true=>obtain⟨o,ho,r⟩:=(show h.IsTupleIter it l i from x);exact⟨o,ho⟩
 | false=>obtain⟨o,ho,r⟩:=(show h.IsListIter it l i from x);exact⟨o,ho⟩
theorem Sq.at {b:Bool}{h h':Heap}{l:Addr}{xs:Array Value}(x:Sq b h l xs) (k:∀ o,h.get? l=some o→h'.get? l=some o):Sq b h' l xs:=by
 cases b with
 | true=>obtain⟨o,ho,r⟩:=(show h.IsTuple l xs from x);exact(show h'.IsTuple l xs from⟨o,k o ho,r⟩)
 | false=>obtain⟨o,ho,r⟩:=(show h.IsList l xs from x);exact(show h'.IsList l xs from⟨o,k o ho,r⟩)
theorem Sq.extBut {b:Bool}{h h':Heap}{l c:Addr}{xs:Array Value}(x:Sq b h l xs) (k:Heap.ExtBut c h h') (hn:l≠c):Sq b h' l xs:=x.at fun o e=>k l o hn e
theorem Sq.there {b:Bool}{h:Heap}{l:Addr}{xs:Array Value}(x:Sq b h l xs):∃ o,h.get? l=some o:=by
 cases b with
 | true=>obtain⟨o,ho,r⟩:=(show h.IsTuple l xs from x);exact⟨o,ho⟩
 | false=>obtain⟨o,ho,r⟩:=(show h.IsList l xs from x);exact⟨o,ho⟩
section
variable {w:World}{A:Around}{E:Value→Shared→Prop}{s:Shared}
theorem uq {b:Bool}{it l:Addr}{i:Nat}{items}{x:Value}{Q:Value→Shared→Prop}(hit:It b s.heap it l i) (hl:Sq b s.heap l items) (hx:items[i]?=some x)
  (hQ:∀ h',It b h' it l (i+1)→Heap.SameBut it s.heap h'→Q x { s with heap:=h' }):wpAny (model prog w) A (Builtin.SmallTypes.nextOf (.ref it)) Q E s:=by
 cases b with
 | true=>exact lq hit hl hx hQ
 | false=>exact wpAny_nextOf_list_item hit hl hx hQ
theorem GN {b:Bool}{it l:Addr}{i:Nat}{items}{Q:Value→Shared→Prop}(hh:A.handled=none) (hit:It b s.heap it l i) (hl:Sq b s.heap l items) (hx:items[i]?=none)
  (hE:∀ h' e,Heap.ExtBut it s.heap h'→(∃ o,h'.get? e=some o∧o.cls=.type "StopIteration")→E (.ref e) { s with heap:=h' }):wpAny (model prog w) A (Builtin.SmallTypes.nextOf (.ref it)) Q E s:=by
 cases b with
 | true=>exact mh hh hit hl hx hE
 | false=>exact wpAny_nextOf_list_end hh hit hl hx hE
theorem Pd {bb:Bool}{z TI TO i1 i2 l1 l2:Addr}{k1 k2:Nat}{xs ys:Array Value}{x y a b:Value}{Q:Value→Shared→Prop}(D:ZipApart z TI TO i1 i2 l1 l2)
  (hz:IsZip s.heap z TI TO .none) (hTI:IsPair s.heap TI (.ref i1) (.ref i2)) (hTO:IsPair s.heap TO a b)
  (h1:It bb s.heap i1 l1 k1) (h2:s.heap.IsListIter i2 l2 k2) (hl1:Sq bb s.heap l1 xs) (hl2:s.heap.IsList l2 ys) (hx:xs[k1]?=some x) (hy:ys[k2]?=some y)
  (hQ:∀ h',IsZip h' z TI TO (rawInt s.heap.objs.size)→IsPair h' TO x y→It bb h' i1 l1 (k1+1)→h'.IsListIter i2 l2 (k2+1)→IsPair h' s.heap.objs.size x y→h'.objs.size=s.heap.objs.size+1→
   (∀ c o,c≠z→c≠TO→c≠i1→c≠i2→s.heap.get? c=some o→h'.get? c=some o)→Q (.ref s.heap.objs.size) { s with heap:=h' }):
  wpAny (model prog w) A (Builtin.«zip.__next__» ⟨[.ref z],[]⟩) (fun fin s'=>∃ v,fin=.done (.ret v)∧Q v s') E s:=by
 show wpAny _ _ (PySem.field (.ref z) 2 >>= _) _ _ _
 refine wpAny_bind (wpAny_field hz rfl (x:=.bool false) rfl ?_)
 show wpAny _ _ (PySem.field (.ref z) 3 >>= _) _ _ _
 refine wpAny_bind (wpAny_field hz rfl (x:=.ref TI) rfl ?_)
 refine wpAny_bind (wpAny_seqItems hTI rfl ?_)
 show wpAny _ _ (Builtin.SmallTypes.ownedTupleIsFree (.ref z) >>= _) _ _ _
 refine wpAny_bind ?_
 unfold Builtin.SmallTypes.ownedTupleIsFree
 refine wpAny_bind (wpAny_field hz rfl (x:=.none) rfl (wpAny_pure ?_))
 simp only[if_true]
 refine wpAny_bind (wpAny_rule ?_)
 refine wpAny_bind (wpAny_field hz rfl (x:=.ref TO) rfl ?_)
 refine wpAny_bind (wpAny_setField_rec hz (by simp) fun h₁ hz₁ hs₁=>?_)
 replace hz₁:IsZip h₁ z TI TO .ellipsis:=hz₁
 refine wpAny_bind ?_
 simp only[List.zipIdx_cons,List.zipIdx_nil,List.forIn_cons,List.forIn_nil]
 refine wpAny_bind (wpAny_bind (wpAny_onRaise ?_))
 show wpAny _ _ (Builtin.SmallTypes.nextOf (.ref i1) >>= _) _ _ _
 refine wpAny_bind (uq (h1.extBut hs₁.extBut D.i1z) (hl1.extBut hs₁.extBut D.l1z) hx fun h₂ h1₂ hs₂=>wpAny_pure ?_)
 have hTO₂:IsPair h₂ TO a b:=hs₂.extBut _ _ D.TOi1 (hs₁.extBut _ _ D.TOz hTO)
 refine wpAny_bind (wpAny_seqItems hTO₂ rfl ?_)
 refine wpAny_bind (wpAny_updateSeq_pair hTO₂ fun h₃ hTO₃ hs₃=>?_)
 replace hTO₃:IsPair h₃ TO x b:=hTO₃
 refine wpAny_bind (wpAny_letGo (wpAny_pure ?_))
 refine wpAny_bind (wpAny_bind (wpAny_onRaise ?_))
 show wpAny _ _ (Builtin.SmallTypes.nextOf (.ref i2) >>= _) _ _ _
 refine wpAny_bind (wpAny_nextOf_list_item (((h2.extBut hs₁.extBut D.i2z).extBut hs₂.extBut D.i12.symm).extBut hs₃.extBut D.TOi2.symm)
  (((hl2.extBut hs₁.extBut D.l2z).extBut hs₂.extBut D.l2i1).extBut hs₃.extBut D.l2TO) hy fun h₄ h2₄ hs₄=>wpAny_pure ?_)
 have hTO₄:IsPair h₄ TO x b:=hs₄.extBut _ _ D.TOi2 hTO₃
 refine wpAny_bind (wpAny_seqItems hTO₄ rfl ?_)
 refine wpAny_bind (wpAny_updateSeq_pair hTO₄ fun h₅ hTO₅ hs₅=>?_)
 replace hTO₅:IsPair h₅ TO x y:=hTO₅
 refine wpAny_bind (wpAny_letGo (wpAny_pure (wpAny_pure ?_)))
 refine wpAny_bind (wpAny_seqItems hTO₅ rfl ?_)
 refine wpAny_bind (wpAny_newTuple ?_)
 have hsz:h₅.objs.size=s.heap.objs.size:=by rw[hs₅.1,hs₄.1,hs₃.1,hs₂.1,hs₁.1]
 have hz₅:IsZip h₅ z TI TO .ellipsis:=hs₅.extBut _ _ D.TOz.symm (hs₄.extBut _ _ D.i2z.symm (hs₃.extBut _ _ D.TOz.symm (hs₂.extBut _ _ D.i1z.symm hz₁)))
 have hk₅:∀ c o,c≠z→c≠TO→c≠i1→c≠i2→s.heap.get? c=some o→h₅.get? c=some o:=fun c o c1 c2 c3 c4 e=>
  hs₅.extBut _ _ c2 (hs₄.extBut _ _ c4 (hs₃.extBut _ _ c2 (hs₂.extBut _ _ c3 (hs₁.extBut _ _ c1 e))))
 have h1₅:It bb h₅ i1 l1 (k1+1):=((h1₂.extBut hs₃.extBut D.TOi1.symm).extBut hs₄.extBut D.i12).extBut hs₅.extBut D.TOi1.symm
 have h2₅:h₅.IsListIter i2 l2 (k2+1):=h2₄.extBut hs₅.extBut D.TOi2.symm
 have hzlt:z<h₅.objs.size:=Heap.lt_size hz₅
 have hTOlt:TO<h₅.objs.size:=Heap.lt_size hTO₅
 show wpAny _ _ (Builtin.SmallTypes.ownedTupleHandOut (.ref z) (.ref h₅.objs.size) >>= _) _ _ _
 refine wpAny_bind ?_
 unfold Builtin.SmallTypes.ownedTupleHandOut
 have hz₆:IsZip (h₅.push { cls:=.type "tuple",data:=.seq #[x,y] }) z TI TO .ellipsis:=Heap.get?_push_of_some _ hz₅
 refine wpAny_bind (wpAny_setField_rec hz₆ (by simp) fun h₇ hz₇ hs₇=>?_)
 replace hz₇:IsZip h₇ z TI TO (rawInt h₅.objs.size):=hz₇
 refine wpAny_setField_rec hz₇ (by simp) fun h₈ hz₈ hs₈=>?_
 replace hz₈:IsZip h₈ z TI TO (rawInt h₅.objs.size):=hz₈
 have up:∀ c o,c≠z→h₅.get? c=some o→h₈.get? c=some o:=fun c o c1 e=>hs₈.extBut _ _ c1 (hs₇.extBut _ _ c1 (Heap.get?_push_of_some _ e))
 have hT₈:IsPair h₈ h₅.objs.size x y:=hs₈.extBut _ _ (Nat.ne_of_gt hzlt) (hs₇.extBut _ _ (Nat.ne_of_gt hzlt) (Heap.get?_push_size _ rfl))
 have hz8:h₈.objs.size=h₅.objs.size+1:=by rw[hs₈.1,hs₇.1,Heap.size_push]
 rw[hsz]at hz₈ hT₈ hz8
 refine wpAny_pure ⟨_,rfl,?_⟩
 show Q (.ref h₅.objs.size) _
 rw[hsz]
 exact hQ h₈ hz₈ (up _ _ D.TOz hTO₅) (h1₅.at fun o e=>up _ o D.i1z e) (h2₅.at fun o e=>up _ o D.i2z e) hT₈ hz8 fun c o c1 c2 c3 c4 e=>up c o c1 (hk₅ c o c1 c2 c3 c4 e)
theorem QN {bb:Bool}{z TI TO i1 i2 l1 l2:Addr}{k1 k2:Nat}{xs ys:Array Value}{a b:Value}{Q:Fin→Shared→Prop}(hh:A.handled=none) (D:ZipApart z TI TO i1 i2 l1 l2)
  (hz:IsZip s.heap z TI TO .none) (hTI:IsPair s.heap TI (.ref i1) (.ref i2)) (hTO:IsPair s.heap TO a b)
  (h1:It bb s.heap i1 l1 k1) (h2:s.heap.IsListIter i2 l2 k2) (hl1:Sq bb s.heap l1 xs) (hl2:s.heap.IsList l2 ys) (hend:xs[k1]?=none∨ys[k2]?=none)
  (hE:∀ h' e,(∀ c o,c≠z→c≠TO→c≠i1→c≠i2→s.heap.get? c=some o→h'.get? c=some o)→(∃ o,h'.get? e=some o∧o.cls=.type "StopIteration")→E (.ref e) { s with heap:=h' }):
  wpAny (model prog w) A (Builtin.«zip.__next__» ⟨[.ref z],[]⟩) Q E s:=by
 show wpAny _ _ (PySem.field (.ref z) 2 >>= _) _ _ _
 refine wpAny_bind (wpAny_field hz rfl (x:=.bool false) rfl ?_)
 show wpAny _ _ (PySem.field (.ref z) 3 >>= _) _ _ _
 refine wpAny_bind (wpAny_field hz rfl (x:=.ref TI) rfl ?_)
 refine wpAny_bind (wpAny_seqItems hTI rfl ?_)
 show wpAny _ _ (Builtin.SmallTypes.ownedTupleIsFree (.ref z) >>= _) _ _ _
 refine wpAny_bind ?_
 unfold Builtin.SmallTypes.ownedTupleIsFree
 refine wpAny_bind (wpAny_field hz rfl (x:=.none) rfl (wpAny_pure ?_))
 simp only[if_true]
 refine wpAny_bind (wpAny_rule ?_)
 refine wpAny_bind (wpAny_field hz rfl (x:=.ref TO) rfl ?_)
 refine wpAny_bind (wpAny_setField_rec hz (by simp) fun h₁ hz₁ hs₁=>?_)
 replace hz₁:IsZip h₁ z TI TO .ellipsis:=hz₁
 refine wpAny_bind ?_
 simp only[List.zipIdx_cons,List.zipIdx_nil,List.forIn_cons,List.forIn_nil]
 refine wpAny_bind (wpAny_bind (wpAny_onRaise ?_))
 show wpAny _ _ (Builtin.SmallTypes.nextOf (.ref i1) >>= _) _ _ _
 cases hx:xs[k1]? with
 | none=>
  refine wpAny_bind (GN hh (h1.extBut hs₁.extBut D.i1z) (hl1.extBut hs₁.extBut D.l1z) hx fun h₂ e hs₂ he=>?_)
  obtain⟨oe,hoe,hce⟩:=he
  have hz₂:IsZip h₂ z TI TO .ellipsis:=hs₂ _ _ D.i1z.symm hz₁
  have hez:e≠z:=fun x=>by subst x;rw[hz₂]at hoe;cases hoe;simp at hce
  refine wpAny_setField_rec hz₂ (by simp) fun h₃ _ hs₃=>hE h₃ e (fun c o c1 _ c3 _ x=>hs₃.extBut _ _ c1 (hs₂ _ _ c3 (hs₁.extBut _ _ c1 x))) ⟨oe,hs₃.extBut _ _ hez hoe,hce⟩
 | some x=>
  have hy:ys[k2]?=none:=by rcases hend with h | h;rw[hx]at h;cases h;exact h
  refine wpAny_bind (uq (h1.extBut hs₁.extBut D.i1z) (hl1.extBut hs₁.extBut D.l1z) hx fun h₂ h1₂ hs₂=>wpAny_pure ?_)
  have hTO₂:IsPair h₂ TO a b:=hs₂.extBut _ _ D.TOi1 (hs₁.extBut _ _ D.TOz hTO)
  refine wpAny_bind (wpAny_seqItems hTO₂ rfl ?_)
  refine wpAny_bind (wpAny_updateSeq_pair hTO₂ fun h₃ hTO₃ hs₃=>?_)
  refine wpAny_bind (wpAny_letGo (wpAny_pure ?_))
  refine wpAny_bind (wpAny_bind (wpAny_onRaise ?_))
  show wpAny _ _ (Builtin.SmallTypes.nextOf (.ref i2) >>= _) _ _ _
  refine wpAny_bind (wpAny_nextOf_list_end hh (((h2.extBut hs₁.extBut D.i2z).extBut hs₂.extBut D.i12.symm).extBut hs₃.extBut D.TOi2.symm)
   (((hl2.extBut hs₁.extBut D.l2z).extBut hs₂.extBut D.l2i1).extBut hs₃.extBut D.l2TO) hy fun h₄ e hs₄ he=>?_)
  obtain⟨oe,hoe,hce⟩:=he
  have hz₄:IsZip h₄ z TI TO .ellipsis:=hs₄ _ _ D.i2z.symm (hs₃.extBut _ _ D.TOz.symm (hs₂.extBut _ _ D.i1z.symm hz₁))
  have hez:e≠z:=fun x=>by subst x;rw[hz₄]at hoe;cases hoe;simp at hce
  refine wpAny_setField_rec hz₄ (by simp) fun h₅ _ hs₅=>hE h₅ e (fun c o c1 c2 c3 c4 x=>hs₅.extBut _ _ c1 (hs₄ _ _ c4 (hs₃.extBut _ _ c2 (hs₂.extBut _ _ c3 (hs₁.extBut _ _ c1 x))))) ⟨oe,hs₅.extBut _ _ hez hoe,hce⟩
end
structure QO (bb:Bool) (z TI TO i1 i2 l1 l2:Addr) (xs ys:Array Value) (mk:Value) (i:Nat) (h:Heap):Prop where
 hz:IsZip h z TI TO mk
 hTI:IsPair h TI (.ref i1) (.ref i2)
 hTO:∃ a b,IsPair h TO a b
 h1:It bb h i1 l1 i
 h2:h.IsListIter i2 l2 i
 hl1:Sq bb h l1 xs
 hl2:h.IsList l2 ys
structure We (bb:Bool) (z TI TO i1 i2 l1 l2:Addr) (xs ys:Array Value) (i:Nat) (T:Addr) (h:Heap):Prop where
 st:QO bb z TI TO i1 i2 l1 l2 xs ys (rawInt T) (i+1) h
 n1:T≠z
 n2:T≠TO
 n3:T≠i1
 n4:T≠i2
theorem LP {α:Type}{a b c d x:α}(h:x∉[a,b,c,d]):x≠a∧x≠b∧x≠c∧x≠d:=⟨fun e=>h (e▸.head _),fun e=>h (e▸.tail _ (.head _)),fun e=>h (e▸.tail _ (.tail _ (.head _))),fun e=>h (e▸.tail _ (.tail _ (.tail _ (.head _))))⟩
theorem LQ {bb:Bool}{w:World}{A:Around}(hh:A.handled=none) (z TI TO i1 i2 l1 l2:Addr) (D:ZipApart z TI TO i1 i2 l1 l2) (xs ys:Array Value):
  WalksT prog w A z [z,TI,TO,i1,i2,l1,l2] [z,TO,i1,i2] (min xs.size ys.size)
   (fun i vals=>∃ x y,xs[i]?=some x∧ys[i]?=some y∧vals=#[x,y]) (QO bb z TI TO i1 i2 l1 l2 xs ys .none) (We bb z TI TO i1 i2 l1 l2 xs ys) where
 sub:=fun c hc=>(List.mem_cons.mp hc).elim (fun e=>e▸.head _) fun hc=>(List.mem_cons.mp hc).elim (fun e=>e▸.tail _ (.tail _ (.head _))) fun hc=>(List.mem_cons.mp hc).elim (fun e=>e▸.tail _ (.tail _ (.tail _ (.head _)))) fun hc=>List.mem_singleton.mp hc▸.tail _ (.tail _ (.tail _ (.tail _ (.head _))))
 frame:=fun i h h' st hk=>
  have t:=fun {a:Addr}{l:List Addr}(h:a∈l) {b:Addr}=>(List.Mem.tail b h:a∈b::l)
  ⟨hk z (.head _) _ st.hz,hk TI (t (.head _)) _ st.hTI,st.hTO.imp fun a h=>h.imp fun b h=>hk TO (t (t (.head _))) _ h,st.h1.at (hk i1 (t (t (t (.head _))))),st.h2.at (hk i2 (t (t (t (t (.head _)))))),
   st.hl1.at (hk l1 (t (t (t (t (t (.head _))))))),st.hl2.at (hk l2 (t (t (t (t (t (t (.head _))))))))⟩
 item:=fun i s Q E hi st hQ=>by
  have hix:i<xs.size:=Nat.lt_of_lt_of_le hi (Nat.min_le_left ..)
  have hiy:i<ys.size:=Nat.lt_of_lt_of_le hi (Nat.min_le_right ..)
  have hT:s.TypeIs (.ref z) "zip":=⟨_,st.hz,rfl⟩
  refine st.hTO.elim fun a h=>h.elim fun b hTO=>?_
  unfold pyNext
  refine wpAny_bind (wpAny_attempt (wpAny_callSpecial?_slot (name:=Str.ofString "__next__") hT F.slot_zip_next
   (wpAny_call_entry F.slot_zip_next hT F.entry_zip_next
    (Pd D st.hz st.hTI hTO st.h1 st.h2 st.hl1 st.hl2 (Array.getElem?_eq_getElem hix) (Array.getElem?_eq_getElem hiy) fun h' a1 a2 a3 a4 a5 a6 hk=>wpAny_pure ?_) (F.args_zip_next_1 _))))
  have lt:∀ {c o},s.heap.get? c=some o→s.heap.objs.size≠c:=fun e=>Nat.ne_of_gt (Heap.lt_size e)
  exact hQ s.heap.objs.size #[xs[i],ys[i]] h' s.toks ⟨_,_,Array.getElem?_eq_getElem hix,Array.getElem?_eq_getElem hiy,rfl⟩ (Nat.le_refl _) ⟨_,a5,rfl,_,rfl⟩
   ⟨⟨a1,hk _ _ D.TIz D.TITO D.TIi1 D.TIi2 st.hTI,⟨_,_,a2⟩,a3,a4,st.hl1.at fun o e=>hk _ o D.l1z D.l1TO D.l1i1 D.l1i2 e,st.hl2.at fun o e=>hk _ o D.l2z D.l2TO D.l2i1 D.l2i2 e⟩,lt st.hz,lt hTO,st.h1.there.elim fun _ e=>lt e,st.h2.elim fun _ e=>lt e.1⟩
   fun c o hc e=>have n:=LP hc;hk c o n.1 n.2.1 n.2.2.1 n.2.2.2 e
 go:=fun elts k pos i T s Q E hm hQ=>wpAny_letOwnedTupleGo_zip hm.st.hz fun h' hz' hs'=>hQ h' ⟨hz',hs'.extBut _ _ D.TIz hm.st.hTI,hm.st.hTO.imp fun a h=>h.imp fun b h=>hs'.extBut _ _ D.TOz h,hm.st.h1.extBut hs'.extBut D.i1z,hm.st.h2.extBut hs'.extBut D.i2z,
   hm.st.hl1.extBut hs'.extBut D.l1z,hm.st.hl2.extBut hs'.extBut D.l2z⟩ fun c o hc e=>hs'.extBut _ _ (LP hc).1 e
 apart:=fun i T h hm hT=>(List.mem_cons.mp hT).elim hm.n1 fun hT=>(List.mem_cons.mp hT).elim hm.n2 fun hT=>(List.mem_cons.mp hT).elim hm.n3 fun hT=>hm.n4 (List.mem_singleton.mp hT)
 done:=fun s Q E st hQ=>by
  have hend:xs[min xs.size ys.size]?=none∨ys[min xs.size ys.size]?=none:=(Nat.le_total xs.size ys.size).elim (fun h=>.inl (by rw[Nat.min_eq_left h];exact Array.getElem?_eq_none (Nat.le_refl _))) fun h=>.inr (by rw[Nat.min_eq_right h];exact Array.getElem?_eq_none (Nat.le_refl _))
  have hT:s.TypeIs (.ref z) "zip":=⟨_,st.hz,rfl⟩
  refine st.hTO.elim fun a h=>h.elim fun b hTO=>?_
  unfold pyNext
  refine wpAny_bind (wpAny_attempt (wpAny_callSpecial?_slot (name:=Str.ofString "__next__") hT F.slot_zip_next
   (wpAny_call_entry F.slot_zip_next hT F.entry_zip_next (QN hh D st.hz st.hTI hTO st.h1 st.h2 st.hl1 st.hl2 hend fun h' e hk he=>he.elim fun o g=>?_) (F.args_zip_next_1 _))))
  exact wpAny_bind (wpAny_isInstance (T:="StopIteration") (b:=true) ⟨o,g.1,g.2⟩ isSubtype_stop (wpAny_pure (hQ _ s.toks fun c o hc e=>have n:=LP hc;hk c o n.1 n.2.1 n.2.2.1 n.2.2.2 e)))
 self:=fun i s Q E hst hQ=>wpAny_pyIter_zip hst.hz hQ
end
section
open PySem PySem.W PyProof.Rows PySem.Calls PySem.SeqAt
variable {prog:Program}{K:World→Frag}{D:Nat}{cs:Scope}
noncomputable abbrev M3 (h:Heap) (l1:Addr):Heap:=h.push { cls:=.type "tuple_iterator",data:=.fields #[.ref l1,.int 0 0] }
abbrev M4 (h:Heap) (l1 l2:Addr):Heap:=(M3 h l1).push { cls:=.type "list_iterator",data:=.fields #[.ref l2,.int 0 0] }
abbrev M5 (h:Heap) (l1 l2:Addr):Heap:=(M4 h l1 l2).push { cls:=.type "tuple",data:=.seq #[.ref h.objs.size,.ref (M3 h l1).objs.size] }
abbrev M6 (h:Heap) (l1 l2:Addr):Heap:=(M5 h l1 l2).push { cls:=.type "tuple",data:=.seq #[.none,.none] }
abbrev BU (h:Heap) (l1 l2:Addr):Heap:=(M6 h l1 l2).push { cls:=.type "zip",data:=.fields #[.none,.bool false,.bool false,.ref (M4 h l1 l2).objs.size,.ref (M5 h l1 l2).objs.size] }
theorem LR (l1 l2:Addr) (xs ys:Array Value):
  Meets (Builtin.«zip.__new__» ⟨[.type "zip",.ref l1,.ref l2],[]⟩) (fun _ R s=>s.heap.IsTuple l1 xs∧s.heap.IsList l2 ys∧
   R (.ok (.ret (.ref (M6 s.heap l1 l2).objs.size))) { s with heap:=BU s.heap l1 l2 }):=
 .of_wp fun prog w A R s h=>by
  obtain⟨hp,g,d,tk,os⟩:=s;obtain⟨hl1,hl2,h⟩:=h
  have hsub:=sub_zip
  have hL1:Heap.IsTuple (Shared.heap ⟨hp,g,d,tk,os⟩) l1 xs:=hl1
  have hL2:Heap.IsList (Shared.heap ⟨hp.push { cls:=.type "tuple_iterator",data:=.fields #[.ref l1,.int 0 0] },g,d,tk,os⟩) l2 ys:=Heap.IsList.push hl2 _
  wp_walk using wpAny_pyIter_tuple hL1,wpAny_pyIter_list hL2
  exact⟨_,rfl,h⟩
theorem Js {w:World}{A:Around}{E:Value→Shared→Prop}{s:Shared}{l1 l2:Addr}{xs ys:Array Value}{Q:Value→Shared→Prop}(hl1:s.heap.IsTuple l1 xs) (hl2:s.heap.IsList l2 ys)
  (h:∀ h',IsZip h' (s.heap.objs.size+4) (s.heap.objs.size+2) (s.heap.objs.size+3) .none→IsPair h' (s.heap.objs.size+2) (.ref s.heap.objs.size) (.ref (s.heap.objs.size+1))→
   IsPair h' (s.heap.objs.size+3) .none .none→h'.IsTupleIter s.heap.objs.size l1 0→h'.IsListIter (s.heap.objs.size+1) l2 0→h'.objs.size=s.heap.objs.size+5→
   (∀ c o,s.heap.get? c=some o→h'.get? c=some o)→Q (.ref (s.heap.objs.size+4)) { s with heap:=h' }):
  wpAny (model prog w) A (call (.type "zip") [.ref l1,.ref l2]) Q E s:=by
 refine callType_new F.called_zip (by decide) (F.typeCall_zip_2 _ _) (F.newCall_zip_2 _ _) (fun obj=>F.args_object_init_3 obj _ _) F.entry_zip_new
  (LR l1 l2 xs ys) ⟨hl1,hl2,?_⟩
 have z1:(M3 s.heap l1).objs.size=s.heap.objs.size+1:=Heap.size_push ..
 have z2:(M4 s.heap l1 l2).objs.size=s.heap.objs.size+2:=by rw[Heap.size_push,z1]
 have z3:(M5 s.heap l1 l2).objs.size=s.heap.objs.size+3:=by rw[Heap.size_push,z2]
 have z4:(M6 s.heap l1 l2).objs.size=s.heap.objs.size+4:=by rw[Heap.size_push,z3]
 have z5:(BU s.heap l1 l2).objs.size=s.heap.objs.size+5:=by rw[Heap.size_push,z4]
 have g5:(BU s.heap l1 l2).get? (M6 s.heap l1 l2).objs.size=some _:=Heap.get?_push_size _ rfl
 have g4:(BU s.heap l1 l2).get? (M5 s.heap l1 l2).objs.size=some _:=Heap.get?_push_of_some _ (Heap.get?_push_size _ rfl)
 have g3:(BU s.heap l1 l2).get? (M4 s.heap l1 l2).objs.size=some _:=Heap.get?_push_of_some _ (Heap.get?_push_of_some _ (Heap.get?_push_size _ rfl))
 have g2:(BU s.heap l1 l2).get? (M3 s.heap l1).objs.size=some _:=Heap.get?_push_of_some _ (Heap.get?_push_of_some _ (Heap.get?_push_of_some _ (Heap.get?_push_size _ rfl)))
 have g1:(BU s.heap l1 l2).get? s.heap.objs.size=some _:=Heap.get?_push_of_some _ (Heap.get?_push_of_some _ (Heap.get?_push_of_some _ (Heap.get?_push_of_some _ (Heap.get?_push_size _ rfl))))
 show _∧_
 rw[z2,z3,z4]at g5
 rw[z1,z2]at g3
 rw[z3]at g4
 rw[z1]at g2
 rw[z4]
 exact⟨⟨_,g5,rfl⟩,h _ g5 g3 g4 ⟨_,g1,rfl,rfl⟩ ⟨_,g2,rfl,rfl⟩ z5 fun c o x=>
  Heap.get?_push_of_some _ (Heap.get?_push_of_some _ (Heap.get?_push_of_some _ (Heap.get?_push_of_some _ (Heap.get?_push_of_some _ x))))⟩
noncomputable def kU:List V→List V→List (List V)
 | x::xs,y::ys=>[x,y]::kU xs ys
 | _,_=>[]
theorem BV:∀ (xs ys:List V),(kU xs ys).length=min xs.length ys.length
 | [],_=>by simp[kU]
 | _::_,[]=>by simp[kU]
 | _::r,_::q=>by
  simp only[kU,List.length_cons,BV r q]
  exact(Nat.add_min_add_right ..).symm
theorem BW:∀ (xs ys:List V) (i:Nat) {x y:V},xs[i]?=some x→ys[i]?=some y→(kU xs ys)[i]?=some [x,y]
 | [],_,_,_,_,h,_=>by simp at h
 | _::_,[],_,_,_,_,h=>by simp at h
 | x'::r,y'::q,0,x,y,h,h'=>by
  have e:x'=x:=by simpa using h
  have e':y'=y:=by simpa using h'
  subst e e'
  rfl
 | x'::r,y'::q,i+1,x,y,h,h'=>by
  have g:=BW r q i (x:=x) (y:=y) (by simpa using h) (by simpa using h')
  simpa[kU]using g
noncomputable def LS (x:V):Option (List V):=match x.un with
 | .lst xs=>some xs
 | _=>Option.none
theorem Pe {x:V}{xs:List V}(e:LS x=some xs):x.un=.lst xs:=by
 have e:(match x.un with | .lst xs=>some xs | _=>Option.none)=some xs:=e
 generalize x.un=y at e
 exact V.casesOn (motive_1:=fun y=>(match y with | .lst xs=>some xs | _=>Option.none)=some xs→y=.lst xs) y ay ay (fun _=>ay) (fun _=>ay) (fun _=>ay) (fun _=>ay) (fun _=>ay) (fun _=>ay) (fun _ _=>ay) (fun _ e=>congrArg V.lst (Option.some.inj e)) (fun _=>ay) (fun _=>ay) (fun _ _=>ay) e
def v5 (wa:S→Rs (List V)):S→Rs (List (List V)):=fun σ=>(wa σ).bind fun xs σ1=>match xs with
 | [x,y]=>match lW x,LS y with
  | some xs,some ys=>.ok (kU xs ys) σ1
  | _,_=>.no
 | _=>.no
theorem Jt {bb:Bool}{c:Act}{A:Around}(hh:A.handled=none) {W:aV}{h0:Heap}{m σ}{es k p}{l1 l2:Addr}{vs us:List Value}{xs ys:List V}(R:Rel c h0 m W σ) (hl1:l1<h0.objs.size) (hlL1:l1≠c.L) (hlf1:l1∈W.nw.map (·.1)→∃ o,(l1,o)∈W.fz)
  (hl2:l2<h0.objs.size) (hlL2:l2≠c.L) (hlf2:l2∈W.nw.map (·.1)→∃ o,(l2,o)∈W.fz) (hvs:RVs c W vs xs) (hus:RVs c W us ys):
  rx prog c A W (.Tuple es k p) (kU xs ys) (h0.objs.size+4) [h0.objs.size+4,h0.objs.size+2,h0.objs.size+3,h0.objs.size,h0.objs.size+1,l1,l2] [h0.objs.size+4,h0.objs.size+3,h0.objs.size,h0.objs.size+1]
   (fun i v h=>∃ T vals,v=.ref T∧(∃ x y,vs.toArray[i]?=some x∧us.toArray[i]?=some y∧vals=#[x,y])∧h.IsTuple T vals)
   (fun i v h=>∃ T vals,v=.ref T∧(∃ x y,vs.toArray[i]?=some x∧us.toArray[i]?=some y∧vals=#[x,y])∧h.IsTuple T vals∧We bb (h0.objs.size+4) (h0.objs.size+2) (h0.objs.size+3) h0.objs.size (h0.objs.size+1) l1 l2 vs.toArray us.toArray i T h)
   (QO bb (h0.objs.size+4) (h0.objs.size+2) (h0.objs.size+3) h0.objs.size (h0.objs.size+1) l1 l2 vs.toArray us.toArray .none):=by
 have ml:∀ {b a:Addr}{l:List Addr}{q:Addr→Prop},q a→(b∈l→q b)→b∈a::l→q b:=fun h g hb=>(List.mem_cons.mp hb).elim (fun e=>e▸h) g
 have m1:∀ {b a:Addr}{q:Addr→Prop},q a→b∈[a]→q b:=fun h hb=>List.mem_singleton.mp hb▸h
 have hLlt:c.L<h0.objs.size:=R.F.ns.lt
 have hnew:∀ b,h0.objs.size≤b→c.b.get? b=none∧b∉W.nw.map (·.1):=fun b hb=>⟨Option.eq_none_iff_forall_ne_some.mpr fun o q=>absurd (Heap.lt_size (R.F.keep _ _ q)) (Nat.not_lt.mpr hb),fun hm=>absurd (R.lt _ hm) (Nat.not_lt.mpr hb)⟩
 have hn:∀ k,(c.b.get? (h0.objs.size+k)=none∧h0.objs.size+k∉W.nw.map (·.1)):=fun k=>hnew _ (Nat.le_add_right _ _)
 have ab:∀ {b},b∉W.nw.map (·.1)→b∈W.nw.map (·.1)→∃ o,(b,o)∈W.fz:=fun h h'=>absurd h' h
 have mf:∀ {b a:Addr}{l:List Addr},(a∈W.nw.map (·.1)→∃ o,(a,o)∈W.fz)→(b∈l→b∈W.nw.map (·.1)→∃ o,(b,o)∈W.fz)→b∈a::l→b∈W.nw.map (·.1)→∃ o,(b,o)∈W.fz:=ml (q:=fun b=>b∈W.nw.map (·.1)→∃ o,(b,o)∈W.fz)
 refine⟨?_,fun hm=>ml (q:=fun b=>c.L=b→False) (ktu_ne 4 hLlt) (ml (q:=fun b=>c.L=b→False) (ktu_ne 2 hLlt) (ml (q:=fun b=>c.L=b→False) (ktu_ne 3 hLlt) (ml (q:=fun b=>c.L=b→False) (Nat.ne_of_lt hLlt) (ml (q:=fun b=>c.L=b→False) (ktu_ne 1 hLlt) (ml (q:=fun b=>c.L=b→False) hlL1.symm (m1 (q:=fun b=>c.L=b→False) hlL2.symm)))))) hm rfl,
  fun b=>ml (q:=fun b=>c.b.get? b=none∧b∉W.nw.map (·.1)) (hn 4) (ml (q:=fun b=>c.b.get? b=none∧b∉W.nw.map (·.1)) (hn 3) (ml (q:=fun b=>c.b.get? b=none∧b∉W.nw.map (·.1)) (hn 0) (m1 (q:=fun b=>c.b.get? b=none∧b∉W.nw.map (·.1)) (hn 1)))),fun b=>mf (ab (hn 4).2) (mf (ab (hn 2).2) (mf (ab (hn 3).2) (mf (ab (hn 0).2) (mf (ab (hn 1).2) (mf hlf1 (m1 (q:=fun b=>b∈W.nw.map (·.1)→∃ o,(b,o)∈W.fz) hlf2)))))),
  fun i h st b=>
   have me:∀ {b a l},(∃ o,h.get? a=some o)→(b∈l→∃ o,h.get? b=some o)→b∈a::l→∃ o,h.get? b=some o:=ml (q:=fun b=>∃ o,h.get? b=some o)
   me ⟨_,st.hz⟩ (me ⟨_,st.hTI⟩ (me (st.hTO.elim fun a h=>h.elim fun b h=>⟨_,h⟩) (me st.h1.there (me (st.h2.imp fun o h=>h.1) (me st.hl1.there (m1 (q:=fun b=>∃ o,h.get? b=some o) (st.hl2.imp fun o h=>h.1))))))),
  fun i v h hi hv=>hv.elim fun T q=>q.elim fun vals q=>q.2.1.elim fun x r=>r.elim fun y r=>?_⟩
 ·rw[BV,← hvs.1,← hus.1]
  exact KTurns.ofWalksU (LQ hh _ _ _ _ _ _ _ (ktu_apart _ _ _ hl1 hl2) vs.toArray us.toArray).toU
 ·have hx:vs[i]?=some x:=List.getElem?_toArray▸r.1
  have hy:us[i]?=some y:=List.getElem?_toArray▸r.2.1
  have hx2:=List.getElem?_eq_getElem (l:=xs) (i:=i) (hvs.1▸(List.getElem?_eq_some_iff.mp hx).1)
  have hy2:=List.getElem?_eq_getElem (l:=ys) (i:=i) (hus.1▸(List.getElem?_eq_some_iff.mp hy).1)
  exact⟨[x,y],[_,_],BW xs ys i hx2 hy2,VRs.cons (hvs.2 i x _ hx hx2) (VRs.cons (hus.2 i y _ hy hy2) VRs.nil),.tup q.1 (.inl (r.2.2▸q.2.2))⟩
theorem Vr {x v p args pos wa e es tes k tp}(hx:pF K cs x v) (hv:v=.type "zip") (hargs:args=e::es) (ha:JL prog K D cs args wa) (he:∀ env,starEach (e::es) env=(false,eval e env)::starEach es env):
  JI prog K D cs (.Tuple tes k tp) (.Call (.Name x p) args [] pos) (v5 wa):=fun c A rm fr kk s m W σ R Q E hp=>by
 subst hargs hv
 refine Call_ (lH hx fr kk R ?_)
 refine gx (.inr ⟨_,rfl⟩) (he _) (dF (ha.1 _ _) (he _)) (ha.2 c A rm fr kk s m W σ R pos _ E (nx.bind hp fun vs xs σ1 h1 tk1 m1 W1 R1 X1 ra p1=>?_))
 split at p1
 case h_2=>exact p1.elim
 rename_i x1 x2
 obtain⟨v1,v2,rfl⟩:∃ v u,vs=[v,u]:=uY ra.1
 cases hxs:lW x1 with
 | none=>rw[hxs]at p1;exact p1.elim
 | some xs'=>
 cases hys:LS x2 with
 | none=>rw[hxs,hys]at p1;exact p1.elim
 | some ys'=>
 rw[hxs,hys]at p1
 have r2:=VR.un (ra.get (i:=1) rfl rfl)
 rw[Pe hys]at r2
 refine r2.inv.elim fun a2 h=>h.elim fun us2 h=>h.elim fun n2 g=>?_
 rw[g.1]
 have hol2:=R1.fz_at g.2.1
 have hl2:h1.IsList a2 us2.toArray:=⟨_,hol2,rfl,n2,rfl⟩
 have y:=pI R1 g.2.1
 refine RV.seq (c:=c) (W:=W1) (ra.get (i:=0) rfl rfl) hxs (fun a us n e f1 f2=>?_) fun a us n e f1 f2=>?_
 ·rw[e]
  have hol:=R1.fz_at f1
  have hl:h1.IsList a us.toArray:=⟨_,hol,rfl,n,rfl⟩
  have z:=pI R1 f1
  exact call_zip_2 hl hl2 fun h' g1 g2 g3 g4 g5 hsz hk=>wpAny_pyIter_zip g1 (p1 (h1.objs.size+4) h' tk1 m1 W1 _ _ _ _ _ (R1.grow hk) (aJ.refl _) (Jt (bb:=false) rm.handled R1 (Heap.lt_size hol) z.2 z.1 (Heap.lt_size hol2) y.2 y.1 f2 g.2.2)
    ⟨g1,g2,⟨_,_,g3⟩,g4,g5,hl.at fun o e=>hk a o e,hl2.at fun o e=>hk a2 o e⟩)
 ·rw[e]
  have hol:=R1.fz_at f1
  have hl:h1.IsTuple a us.toArray:=⟨_,hol,rfl,n,rfl⟩
  have z:=pI R1 f1
  exact Js hl hl2 fun h' g1 g2 g3 g4 g5 hsz hk=>wpAny_pyIter_zip g1 (p1 (h1.objs.size+4) h' tk1 m1 W1 _ _ _ _ _ (R1.grow hk) (aJ.refl _) (Jt (bb:=true) rm.handled R1 (Heap.lt_size hol) z.2 z.1 (Heap.lt_size hol2) y.2 y.1 f2 g.2.2)
    ⟨g1,g2,⟨_,_,g3⟩,g4,g5,hl.at fun o e=>hk a o e,hl2.at fun o e=>hk a2 o e⟩)
end
section
open PySem PySem.W PyProof.Rows PySem.Calls PySem.SeqAt
variable {prog:Program}{K:World→Frag}{D:Nat}{cs:Scope}
structure tD (K:World→Frag) (C:Addr) (name:Str) (f:Addr):Prop where
 hg:∀ w,specialIn (K w) (.ref C) "__getattribute__"=some (some (.builtin "type.__getattribute__"))
 hm:∀ w,∃ mc,typeIn (K w) (.ref C)=some mc∧readsIn (K w) C mc=true∧findCls (K w) (.ref C) mc name=some (.val (.ref f))
 keep:∀ w,keepIn (K w) (.ref f)=true
theorem Vs {x C px name apos pos f spec args wa e es}(hs:MethShape cs (.Name x px) name apos args pos) (hx:Glob K cs x (.ref C)) (M:tD K C name f) (hf:JF prog K D (.ref f) spec) (hargs:args=e::es) (ha:JL prog K (D+1) cs args wa) (he:∀ env,starEach (e::es) env=(false,eval e env)::starEach es env):
  JE prog K (D+1) cs (.Call (.Attribute (.Name x px) name apos) args [] pos) (aq spec wa):=fun c A rm fr k s m W σ R Q E hp=>by
 subst hargs
 obtain⟨q,fn,ccd,r,ee⟩:=id fr.env
 obtain⟨pl,hsh⟩:=hs q c.L fn ccd r c.cl
 obtain⟨mc,h1,h2,h3⟩:=M.hm c.w
 refine MethodCall_ (pl:=pl) (oz hx fr k R ?_) (by rw[ee];exact hsh)
 refine method_of_cls R.F k.X (M.hg c.w) (cls_val R.F k.X h1 h2 h3 rfl ?_)
 dsimp only
 have R':Rel c s.heap m W σ:=R
 refine callWith_K k.X (M.keep c.w) (ha.2 c A rm fr k { s with toks:=s.toks+1 } m W σ R' pos _ E ?_) (he _) (dF (ha.1 _ _) (he _))
 have hp':=aA.ext (h':=s.heap) (tk:=s.toks+1) hp (aJ.refl W)
 refine aA.bind hp' fun vs xs σ1 h1 tk1 m1 W1 R1 X1 ra p1=>?_
 exact⟨k.X.keeps R1.F.keep,wpAny_call (hf c A rm k _ m1 W1 σ1 R1 vs xs ra Q E p1.toF)⟩
noncomputable def yh (x:Str):List Str→List Str
 | []=>[x]
 | y::r=>if PySem.Spec.ltCps y.cps.toList x.cps.toList then y::yh x r else x::y::r
def cu:List Str→List Str
 | []=>[]
 | x::r=>yh x (cu r)
theorem rQ (x:Str):∀ l:List Str,(yh x l).Perm (x::l)
 | []=>.refl _
 | y::r=>by
  unfold yh
  split
  ·exact((rQ x r).cons y).trans (.swap x y r)
  ·exact .refl _
theorem et:∀ l:List Str,(cu l).Perm l
 | []=>.refl _
 | x::r=>(rQ x (cu r)).trans ((et r).cons x)
def iM (a b:Str):Prop:=PySem.Spec.ltCps b.cps.toList a.cps.toList=false
theorem zm {a b c:Str}(h1:iM a b) (h2:iM b c):iM a c:=by
 unfold iM at *
 rw[ltCps_eq,decide_eq_false_iff_not]at *
 exact List.not_lt.mpr (List.le_trans (List.not_lt.mp h1) (List.not_lt.mp h2))
theorem LU {a b:Str}(h1:iM a b) (h2:iM b a):a=b:=by
 unfold iM at *
 rw[ltCps_eq,decide_eq_false_iff_not]at *
 have e:=List.le_antisymm (List.not_lt.mp h1) (List.not_lt.mp h2)
 cases a;cases b
 simp only[Str.mk.injEq]
 exact Array.toList_inj.mp e
theorem Ju {a b:Str}(h:PySem.Spec.ltCps a.cps.toList b.cps.toList=true):iM a b:=by
 unfold iM
 rw[ltCps_eq,decide_eq_true_eq]at h
 rw[ltCps_eq,decide_eq_false_iff_not]
 exact List.not_lt.mpr (List.le_of_lt h)
theorem ur (x:Str):∀ {l:List Str},l.Pairwise iM→(yh x l).Pairwise iM
 | [],_=>List.pairwise_singleton _ _
 | y::r,h=>by
  rw[List.pairwise_cons]at h
  unfold yh
  split
  ·rename_i hlt
   rw[List.pairwise_cons]
   refine⟨fun z hz=>?_,ur x h.2⟩
   rcases List.mem_cons.mp ((rQ x r).mem_iff.mp hz)with rfl | hz
   ·exact Ju hlt
   ·exact h.1 z hz
  ·rename_i hlt
   have hxy:iM x y:=by simpa[iM]using hlt
   rw[List.pairwise_cons,List.pairwise_cons]
   refine⟨fun z hz=>?_,h.1,h.2⟩
   rcases List.mem_cons.mp hz with rfl | hz
   ·exact hxy
   ·exact zm hxy (h.1 z hz)
theorem iO:∀ l:List Str,(cu l).Pairwise iM
 | []=>List.Pairwise.nil
 | x::r=>ur x (iO r)
theorem zo:∀ (l:List Str) (p:Str),risingS p l=true→(p::l).Pairwise iM
 | [],p,_=>List.pairwise_singleton _ _
 | x::r,p,h=>by
  simp only[risingS,Bool.and_eq_true,Bool.not_eq_true']at h
  have ih:=zo r x h.2
  rw[List.pairwise_cons]
  refine⟨fun z hz=>?_,ih⟩
  rw[List.pairwise_cons]at ih
  have hpx:iM p x:=h.1
  rcases List.mem_cons.mp hz with rfl | hz
  ·exact hpx
  ·exact zm hpx (ih.1 z hz)
theorem GO {l:List Str}(h:sortedS l=true):l.Pairwise iM:=by
 cases l with
 | nil=>exact List.Pairwise.nil
 | cons x r=>exact zo r x h
theorem oq:∀ {a b:List Str},a.Perm b→a.Pairwise iM→b.Pairwise iM→a=b
 | [],b,h,_,_=>(List.Perm.nil_eq h)
 | x::a,[],h,_,_=>by have:=h.length_eq;simp at this
 | x::a,y::b,h,ha,hb=>by
  rw[List.pairwise_cons]at ha hb
  have hxy:x=y:=by
   by_cases e:x=y
   ·exact e
   ·have hx:x∈b:=by
     rcases List.mem_cons.mp (h.mem_iff.mp (.head _))with h | h
     ·exact absurd h e
     ·exact h
    have hy:y∈a:=by
     rcases List.mem_cons.mp (h.mem_iff.mpr (.head _))with h | h
     ·exact absurd h.symm e
     ·exact h
    exact LU (ha.1 y hy) (hb.1 x hx)
  subst hxy
  rw[oq ((List.perm_cons x).mp h) ha.2 hb.2]
theorem zp {a ss:List Str}(h:a.Perm ss) (hs:sortedS a=true):a=cu ss:=oq (h.trans (et ss).symm) (GO hs) (iO ss)
def tF (x:V) (σ:S):Rs V:=match cY x σ with
 | some xs=>match strsOf xs with
  | some ss=>if ss.length<64 then .ok (.lst ((cu ss).map V.str)) σ else .no
  | Option.none=>.no
 | Option.none=>.no
theorem v7 {P F rho}:∀ {vs:List Value}{ss:List Str},StrsAre vs ss→VRs P F rho vs (ss.map V.str):=fun h=>by
 induction h with
 | nil=>exact VRs.nil
 | cons y t _ ih=>exact VRs.cons (.str _ _) ih
theorem DR {vs:List Value}{ss:List Str}(h:StrsAre vs ss):vs.length=ss.length:=by
 induction h with
 | nil=>rfl
 | cons y t _ ih=>simp[ih]
theorem LV:oB prog K D (.builtin "sorted") tF:=fun c A rm s m W σ R v x hv Q E hp=>by
 unfold tF at hp
 split at hp
 ·rename_i xs hx
  split at hp
  ·rename_i ss hss
   split at hp
   ·rename_i hz
    obtain⟨l,vs,rfl,hl,hvs⟩:=lst_is R hv hx
    have hst:=nB hss hvs
    refine sorted_N_str R.F R.N hl hst (by rw[DR hst];exact hz) fun h' vs' ss' e F' N' h1 h2 h3=>?_
    have he:=zp h2 h3
    subst he
    have N'':News c.b c.L h' ((s.heap.objs.size+1,lstOf vs' e)::W.nw):=N'
    obtain⟨R1,X1⟩:=R.freeze1 F' N'' fun p hp=>Nat.lt_succ_of_lt (Heap.lt_size (R.N p hp).1)
    have q:=v7 (P:=c.w.params) (F:=FZ c.b ((s.heap.objs.size+1,lstOf vs' e)::W.fz)) (rho:=W.rho) h1
    exact hp _ h' s.toks m _ R1 X1 (.lst (n:=e) (.inr (.head _)) q.1 q.2)
   ·exact hp.elim
  ·exact hp.elim
 ·exact hp.elim
end
section
open PySem PySem.W PyProof.Rows PySem.Calls PySem.SeqAt
variable {prog:Program}{K:World→Frag}{D:Nat}{cs:Scope}
noncomputable def BX (pn lo ce:List Str) (xs:List V):List V:=lo.map (fun n=>((pn.zip xs).lookup n).getD .unb)++ce.map fun n=>((pn.zip xs).lookup n).getD .unb
def jQ (pn lo ce:List Str) (w:W2):FS:=fun xs st=>if xs.length=pn.length then match w ⟨BX pn lo ce xs,st⟩with
 | .ok (.ret x) σ=>.ok x σ.st
 | .ok .next σ=>.ok .none σ.st
 | .ok _ _=>.no
 | .exc C=>.exc C
 | .no=>.no
 else .no
structure oG (K:World→Frag) (f:Addr) (body:List PySem.Stmt) (scope:Scope) (pn:List Str):Prop where
 there:∀ w0 (G:Prop),(∀ oc od name qual params dV kV doc pm an cdv ct osl,(K w0).lookup f=some ⟨oc,od,.func (fnOf name qual params body scope dV kV doc pm an cdv ct),osl⟩→codeIn (K w0) cdv qual=true→
  (∀ (s:Shared) vs,(K w0).In s.heap→vs.length=pn.length→BindsTo s (fnOf name qual params body scope dV kV doc pm an cdv ct) ⟨vs,[]⟩ (pn.zip vs))→G)→G
 pnd:pn.Nodup
 kinds:∀ y∈pn,scope.names.lookup y=some .local∨scope.names.lookup y=some .cell
 loc:∀ y∈Loc scope,scope.names.lookup y=some .local
 cel:∀ y∈Cel scope,scope.names.lookup y=some .cell
 cnd:((cellsFrom 0 scope.names []).map (·.1)).Nodup
 co:scope.isCoroutine=false
 gen:scope.isGenerator=false
 kind:scope.kind=.function
theorem BY {ko:Str→Option NameKind}{n:Str}(hn:ko n=some .local):∀ {binds:List (Str×Value)}{m:Str→Option Value},(binds.map (·.1)).Nodup→bindL ko binds m n=(binds.lookup n).or (m n)
 | [],m,_=>rfl
 | (x,v)::r,m,h=>by
  rw[List.map_cons,List.nodup_cons]at h
  unfold bindL
  rw[BY hn h.2,List.lookup_cons]
  by_cases e:n=x
  ·subst e
   have hr:r.lookup n=none:=by
    rw[List.lookup_eq_none_iff]
    intro p hp
    exact bne_iff_ne.mpr fun(e:n=p.1)=>h.1 (show n∈r.map (·.1)from e▸List.mem_map_of_mem hp)
   rw[hr,hn]
   simp
  ·have:(n==x)=false:=beq_eq_false_iff_ne.mpr e
   rw[this]
   split
   ·simp[e]
   ·rfl
theorem BZ {ko:Str→Option NameKind}{n:Str}(hn:ko n≠some .local):∀ {binds:List (Str×Value)}{m:Str→Option Value},(binds.map (·.1)).Nodup→bindC ko binds m n=(binds.lookup n).or (m n)
 | [],m,_=>rfl
 | (x,v)::r,m,h=>by
  rw[List.map_cons,List.nodup_cons]at h
  unfold bindC
  rw[BZ hn h.2,List.lookup_cons]
  by_cases e:n=x
  ·subst e
   have hr:r.lookup n=none:=by
    rw[List.lookup_eq_none_iff]
    intro p hp
    exact bne_iff_ne.mpr fun(e:n=p.1)=>h.1 (show n∈r.map (·.1)from e▸List.mem_map_of_mem hp)
   rw[hr,if_neg hn]
   simp
  ·have:(n==x)=false:=beq_eq_false_iff_ne.mpr e
   rw[this]
   split
   ·rfl
   ·simp[e]
theorem uu {α β:Type}{R:α→β→Prop}:∀ {ps:List Str}{vs:List α}{xs:List β}{n:Str},vs.length=xs.length→(∀ (i:Nat) v x,vs[i]?=some v→xs[i]?=some x→R v x)→
  ((ps.zip vs).lookup n=none∧(ps.zip xs).lookup n=none)∨∃ v x,(ps.zip vs).lookup n=some v∧(ps.zip xs).lookup n=some x∧R v x
 | [],_,_,_,_,_=>.inl ⟨rfl,rfl⟩
 | _::_,[],[],_,_,_=>.inl ⟨rfl,rfl⟩
 | _::_,[],_::_,_,h,_=>by simp at h
 | _::_,_::_,[],_,h,_=>by simp at h
 | p::ps,v::vs,x::xs,n,h,hr=>by
  rw[List.zip_cons_cons,List.zip_cons_cons,List.lookup_cons,List.lookup_cons]
  by_cases e:n=p
  ·have:(n==p)=true:=by simpa using e
   rw[this]
   exact .inr ⟨v,x,rfl,rfl,hr 0 v x rfl rfl⟩
  ·have:(n==p)=false:=beq_eq_false_iff_ne.mpr e
   rw[this]
   exact uu (by simpa using h) fun i a b ha hb=>hr (i+1) a b (by simpa using ha) (by simpa using hb)
theorem Rel.reenv {w:World}{b:Heap}{ns:List Str}{L:Addr}{env:Env}{stk:List Env}{h:Heap}{m W σ}(R:Rel ⟨w,b,ns,L,env,stk,[],[]⟩ h m W σ) (e:List V) (hl:e.length=ns.length)
  (he:∀ (i:Nat) n v,ns[i]?=some n→e[i]?=some v→v=.unb∨∃ u,m n=some u∧VR w.params (FZ b W.fz) W.rho u v):Rel ⟨w,b,ns,L,env,stk,[],[]⟩ h m W ⟨e,σ.st⟩:=
 ⟨R.F,R.N,R.nd,R.fz,R.off,R.rnd,R.fro,R.ffr,R.fra,R.frd,R.len,R.st,by simpa using hl,he,(fun j n v h=>by simp at h),R.stk⟩
theorem B1 {cm:Str→Option Value}{cs:List (Str×Addr)}{cells:Led}(h:CellsAre cm cs cells):cells.map (·.1)=cs.map (·.2):=by
 induction h with
 | nil=>rfl
 | cons _ _ ih=>simp[ih]
theorem DS {cm:Str→Option Value}{cs:List (Str×Addr)}{cells:Led}(h:CellsAre cm cs cells) {n:Str}{a:Addr}(e:cs.lookup n=some a):∃ o,(a,o)∈cells∧o.data=.cell (cm n):=by
 induction h with
 | nil=>simp at e
 | @cons n' c o cs cells hd _ ih=>
  rw[List.lookup_cons]at e
  split at e
  ·rename_i hq
   cases e
   rw[beq_iff_eq]at hq
   subst hq
   exact⟨o,.head _,hd⟩
  ·obtain⟨o',h1,h2⟩:=ih e
   exact⟨o',.tail _ h1,h2⟩
end
section
open PySem PySem.W PyProof.Rows PySem.Calls PySem.SeqAt
variable {prog:Program}{K:World→Frag}{D:Nat}{cs:Scope}
theorem GP {f:Addr}{body:List PySem.Stmt}{scope:Scope}{pn:List Str}{w:W2}(H:oG K f body scope pn) (hb:JS prog K D scope body w):
  JF prog K D (.ref f) (jQ pn (Loc scope) (Cel scope) w):=by
 intro c A rm kk s m W σ R vs xs hvs Q E hp
 refine H.there c.w _ fun oc od name qual params dV kV doc pm an cdv ct osl ho hcd hbind=>?_
 unfold jQ at hp
 by_cases hg:xs.length=pn.length
 case neg=>(rw[if_neg hg]at hp;exact hp.elim)
 rw[if_pos hg]at hp
 have hXs:=kk.X.keeps R.F.keep
 refine kk.top fun p' loose' mg mb T=>?_
 have hlim:=T.nolimit.keeps R.F.keep
 refine ns_obj R.F.ns fun oL hL hLd'=>?_
 have hvl:vs.length=pn.length:=hvs.1.trans hg
 have hz:((pn.zip vs).map (·.1))=pn:=List.map_fst_zip (Nat.le_of_eq hvl.symm)
 have hznd:((pn.zip vs).map (·.1)).Nodup:=hz.symm▸H.pnd
 have hkinds:∀ n,∀ x∈pn.zip vs,scope.names.lookup x.1=some .local∨(scope.names.lookup x.1=some .cell∧((cellsFrom n scope.names []).lookup x.1).isSome=true):=fun n x hx=>by
  rcases H.kinds x.1 (List.of_mem_zip hx).1 with h | h
  ·exact .inl h
  ·exact .inr ⟨h,cellsFrom_some _ _ _ (.inl h)⟩
 refine codeAny_call_function (fd:=fnOf name qual params body scope dV kV doc pm an cdv ct) (by have:=rm.depth;omega) (hXs _ _ ho) rfl H.co H.gen rfl (codeRec_of hXs hcd) (hbind s vs hXs hvl _ _ _ _ ?_)
 refine wpAny_newFunctionEnv_cells H.kind (hkinds _) fun env' he s' x=>?_
 subst he
 refine⟨hlim.keeps x.toInCall.keep,codeAny_func ?_⟩
 obtain⟨h₁,tk,rfl,_⟩:=x.done
 have hk₁:=x.toInCall.keep
 let clL:=cellsFrom (s.heap.objs.size+1) scope.names []
 let ecl:Env:=envX qual scope s.heap.objs.size f cdv clL
 have hA':(A.deeper ecl).frames=some (ecl::c.stk):=Around.frames_deeper rm.frames
 have key:∀ G:Prop,(∀ mm W1,Rel ⟨c.w,c.b,Loc scope,s.heap.objs.size,ecl,ecl::c.stk,Cel scope,clL⟩ h₁ mm W1 ⟨BX pn (Loc scope) (Cel scope) xs,σ.st⟩→aJ ⟨(c.L,oL)::W.nw,W.fz,W.rho,c.L::W.frs⟩ W1→G)→G:=by
  intro G k
  have hclnd:(clL.map (·.1)).Nodup:=cellsFrom_names scope.names 0 (s.heap.objs.size+1) [] [] rfl▸H.cnd
  obtain⟨cells,NC,Y⟩:=Cl.news (h₀:=s.heap) (Nat.le_refl _) fun n c hm=>⟨x.cell n c (lookup_of_mem_nodup hclnd hm),x.above n c hm⟩
  have RE:=R.enter (ns:=Loc scope) (env':=ecl) (stk':=ecl::c.stk) (xs:=[]) (k:=(Loc scope).length) hL hLd' x.toInCall.ns hk₁ (by simp) (fun i n v hi hv=>by simp at hv) (R.stkIn (env':=ecl) (L':=s.heap.objs.size) (by show scope.kind≠_;rw[H.kind];decide) rfl)
  have hlook:∀ n,((pn.zip vs).lookup n=none∧(pn.zip xs).lookup n=none)∨∃ v z,(pn.zip vs).lookup n=some v∧(pn.zip xs).lookup n=some z∧RV c W v z:=fun n=>uu hvs.1 hvs.2
  have RN:=RE.reenv ((Loc scope).map fun n=>((pn.zip xs).lookup n).getD .unb) (by simp) (fun i n v hi hv=>by
   rw[List.getElem?_map,hi]at hv
   have hv':((pn.zip xs).lookup n).getD .unb=v:=Option.some.inj hv
   rcases hlook n with⟨_,e2⟩ | ⟨u,z,e1,e2,hr⟩
   ·rw[e2]at hv';exact .inl hv'.symm
   ·rw[e2]at hv'
    refine .inr ⟨u,?_,hv'▸hr⟩
    have q:=BY (ko:=fun y=>scope.names.lookup y) (n:=n) (H.loc n (List.mem_of_getElem? hi)) (binds:=pn.zip vs) (m:=fun _=>none) hznd
    rw[e1]at q
    exact q)
  have cfresh:∀ p∈cells,p.1∉((c.L,oL)::W.nw).map (·.1):=fun p hp hm=>by
   have hn:=(NC p hp).2.2
   simp only[List.map_cons,List.mem_cons]at hm
   rcases hm with e | hm
   ·rw[e,hL]at hn;cases hn
   ·obtain⟨q,hq,e⟩:=List.mem_map.mp hm
    have:=(R.N q hq).1
    rw[show q.1=p.1 from e,hn]at this
    cases this
  have cnd:(cells.map (·.1)).Nodup:=by
   rw[B1 Y]
   have:=x.apart
   rw[List.nodup_iff_pairwise_ne,List.pairwise_map]
   exact this
  obtain⟨RA,XA⟩:=RN.alloc (adds:=cells) (fadds:=cells) (rad:=[]) (robj:=[]) RN.F (fun p hp=>by
   rcases List.mem_append.mp hp with h1 | h1
   ·refine⟨(NC p h1).1,(NC p h1).2.1,?_⟩
    cases q:c.b.get? p.1 with
    | none=>rfl
    | some o=>have:=R.F.keep _ _ q;rw[(NC p h1).2.2]at this;cases this
   ·exact RN.N p h1) cnd cfresh (fun p hp=>hp) rfl (fun q hq=>by simp at hq) (by simp) (fun k o h=>by simp at h)
  simp only[List.append_nil]at RA XA
  have RC:=RA.withCells (env':=ecl) (cn:=Cel scope) (cl:=clL) ((Cel scope).map fun n=>((pn.zip xs).lookup n).getD .unb) (by simp) (fun j n v hj hv=>by
   rw[List.getElem?_map,hj]at hv
   have hv':((pn.zip xs).lookup n).getD .unb=v:=Option.some.inj hv
   rcases hlook n with⟨_,e2⟩ | ⟨u,z,e1,e2,hr⟩
   ·rw[e2]at hv';exact .inl hv'.symm
   ·rw[e2]at hv'
    have hnc:=H.cel n (List.mem_of_getElem? hj)
    obtain⟨a,ha⟩:=Option.isSome_iff_exists.mp (cellsFrom_some scope.names (s.heap.objs.size+1) [] (.inl hnc))
    obtain⟨o,ho1,ho2⟩:=DS Y ha
    refine .inr ⟨a,o,u,ha,List.mem_append_left _ ho1,?_,hv'▸XA.vr hr⟩
    have q:=BZ (ko:=fun y=>scope.names.lookup y) (n:=n) (by rw[hnc];exact fun e=>by cases e) (binds:=pn.zip vs) (m:=fun _=>none) hznd
    rw[e1]at q
    rw[ho2]
    exact congrArg _ q)
  exact k _ _ RC XA
 refine key _ fun mm W1 RC XA=>?_
 have rm':cA D ⟨c.w,c.b,Loc scope,s.heap.objs.size,ecl,ecl::c.stk,Cel scope,clL⟩ (A.deeper ecl):=
  ⟨rm.handled,hA',by have:=rm.depth;show A.depth+1+4 * D+4<recursionLimit;omega,by have:=rm.units;show A.units+3+12 * D+12<cLine;omega⟩
 refine hb ⟨c.w,c.b,Loc scope,s.heap.objs.size,ecl,ecl::c.stk,Cel scope,clL⟩ (A.deeper ecl) rm' ⟨⟨_,_,_,_,rfl⟩,H.kind,rfl,rfl⟩ ⟨kk.X,⟨p',loose',mg,mb,T⟩⟩ { s with heap:=h₁,toks:=tk } _ _ _ RC _ _ ?_
 show aA _ _ _ _ _ _ (w ⟨BX pn (Loc scope) (Cel scope) xs,σ.st⟩)
 generalize w ⟨BX pn (Loc scope) (Cel scope) xs,σ.st⟩=r at hp
 cases r with
 | no=>exact hp.elim
 | exc C=>
  intro e h' tk t
  refine(dE.ext XA t).k fun B a0 hB hnw hfl hns' hfr'=>?_
  refine rk hA' rfl hfl fun h'' hfl'' up=>?_
  obtain⟨t1,t2⟩:=dE.leave R hL hLd' hB hnw hfr' hfl'' up
  exact hp e h'' tk t1 t2
 | ok fl σ''=>
  intro fv h' tk m'' W'' R2 X2 hf
  obtain⟨R3,X3⟩:=R.leave hL R2 (XA.trans X2)
  cases hf with
  | next=>exact hp _ h' tk _ R3 X3 .none
  | ret hv=>exact hp _ h' tk _ R3 X3 hv
  | brk=>exact hp.elim
  | cont=>exact hp.elim
end
section
open PySem PySem.W PyProof.Rows PySem.Calls PySem.SeqAt
variable {prog:Program}{K:World→Frag}{D:Nat}{cs:Scope}
def u7 (x:V):Option (List (V×V)):=match x.un with
 | .dct fs=>if fs.all fun f=>(eg f.1).isSome then some fs else Option.none
 | _=>Option.none
def oH (w:W1):S→Rs (List V):=fun σ=>(w σ).bind fun x σ1=>match u7 x with
 | some fs=>.ok (fs.map (·.1)) σ1
 | Option.none=>.no
theorem Jv {c:Act}{h:Heap}{m W σ}(R:Rel c h m W σ) {v:Value}{x:V}(hv:RV c W v x) {fs:List (V×V)}(e:u7 x=some fs):
  ∃ a es n kvs,v=.ref a∧FZ c.b W.fz a (dictOf es n)∧(a==sysModules)=false∧ft c.w.params (FZ c.b W.fz) W.rho es fs∧gV eg c.w.params (FZ c.b W.fz) W.rho kvs fs∧(dictOf es n).IsDictOf (strKind prog c.w) kvs:=by
 have hv':=hv.un
 unfold u7 at e
 split at e
 ·rename_i xs' hx
  rw[hx]at hv'
  split at e
  ·rename_i hall
   cases e
   cases hv' with
   | @dct a es n fs' h1 h2 h3 h4 h5 h6 h7=>
    have hd:ft c.w.params (FZ c.b W.fz) W.rho es fs:=⟨h3,h5,h4,h6,h7⟩
    obtain⟨kvs,q1,q2⟩:=rJ (n:=n) (MZ (prog:=prog)) hd fun f hf=>List.all_eq_true.mp hall f hf
    exact⟨a,es,n,kvs,rfl,h1,h2,hd,q1,q2⟩
  ·cases e
 ·cases e
theorem QP {P F rho}{kvs:List (Str×Value)}{fs:List (V×V)}(h:gV eg P F rho kvs fs):∀ (i:Nat) k x,kvs[i]?=some (k,x)→∃ f,fs[i]?=some f∧eg f.1=some k:=by
 induction h with
 | nil=>exact fun i k x h=>nomatch h
 | @cons k' v' f kvs fs hd hv hr ih=>
  intro i k x h
  cases i with
  | zero=>exact⟨f,rfl,(show k'=k from congrArg Prod.fst (Option.some.inj h))▸hd⟩
  | succ i=>exact ih i k x h
theorem QQ {e w}(h:JE prog K D cs e w):ze prog K D cs e (oH w):=fun c A rm fr k s m W σ R Q E hp=>by
 refine h c A rm fr k s m W σ R _ E (df.bind hp fun v x σ1 h1 tk1 m1 W1 R1 X1 hv p1=>?_)
 have hI:(h1.objs.size:Nat)∉W1.nw.map (·.1):=fun hm=>absurd (R1.lt _ hm) (Nat.lt_irrefl _)
 have hb:c.b.get? h1.objs.size=none:=by
  cases q:c.b.get? h1.objs.size with
  | none=>rfl
  | some o=>exact absurd (Heap.lt_size (R1.F.keep _ _ q)) (Nat.lt_irrefl _)
 have hL:c.L≠h1.objs.size:=Nat.ne_of_lt R1.F.ns.lt
 split at p1
 case h_2=>exact p1.elim
 rename_i fs hx
 obtain⟨a,es,n,kvs,rfl,hfz,hsys,hd,q1,q2⟩:=Jv (prog:=prog) R1 hv hx
 have hol:=R1.fz_at hfz
 have hne:a≠h1.objs.size:=Nat.ne_of_lt (Heap.lt_size hol)
 obtain⟨z1,z2⟩:=pI R1 hfz
 obtain⟨es',ep,g1,g2,g3,g4,g5⟩:=q2
 have hm:h1.DictAt (strKind prog c.w) a kvs ep:=⟨_,es',hol,g1,g2,g3,g4,g5⟩
 have hlen:=yd q1
 refine wpAny_pyIter_dict (s:={ s with heap:=h1,toks:=tk1 }) hsys hm ?_
 refine p1 h1.objs.size (h1.push _) tk1 m1 W1 [h1.objs.size,a] [h1.objs.size] (fun i v=>∃ k x,kvs[i]?=some (k,x)∧(strKind prog c.w).is k v=true) (fun i h=>h.IsKeyIter h1.objs.size a i kvs.length ep∧h.DictAt (strKind prog c.w) a kvs ep) (R1.grow fun b o e=>Heap.get?_push_of_some _ e) (aJ.refl _)
  ⟨by rw[List.length_map,← hlen];exact Walks.dictKeys rm.handled h1.objs.size a hne kvs ep,fun tgt i v s' Q' E' st q=>letGo_keyiter st.1 q,?_,?_,?_,?_,?_⟩ ⟨⟨_,Heap.get?_push_size _ rfl,rfl,rfl⟩,hm.at' fun o e=>Heap.get?_push_of_some _ e⟩
 ·simp only[List.mem_cons,List.not_mem_nil,or_false,not_or];exact⟨hL,z2.symm⟩
 ·intro b hb';rw[List.mem_singleton.mp hb'];exact⟨hb,hI⟩
 ·intro b hb' hm
  rcases List.mem_cons.mp hb' with rfl | hb'
  ·exact absurd hm hI
  ·rw[List.mem_singleton.mp hb']at hm ⊢;exact z1 hm
 ·intro i h st b hb'
  rcases List.mem_cons.mp hb' with rfl | hb'
  ·obtain⟨o,ho,_⟩:=st.1;exact⟨o,ho⟩
  ·rw[List.mem_singleton.mp hb'];obtain⟨o,es,ho,_⟩:=st.2;exact⟨o,ho⟩
 ·intro i v hi hP
  obtain⟨k',x',hk',his⟩:=hP
  obtain⟨f,hf,hdec⟩:=QP q1 i k' x' hk'
  exact⟨f.1,by rw[List.getElem?_map,hf];rfl,(MZ (prog:=prog)).back hdec his⟩
end
section
open PySem PySem.W PyProof.Rows PySem.Calls PySem.SeqAt
variable {prog:Program}{K:World→Frag}{D:Nat}{cs:Scope}
theorem pN {env:Env}:∀ (l:List (Str×NameKind)) (acc:List (Str×Addr)),(∀ x∈l,x.2=.free→∃ a,env.cells.lookup x.1=some a)→
  ∃ cl':List (Str×Addr),(forIn l acc fun(x:Str×NameKind) (r:List (Str×Addr))=>if x.2==.free then(do let a ← cellOf env x.1;pure (ForInStep.yield ((x.1,a)::r)))else(pure (ForInStep.yield r):Sem _))=pure cl'∧
   (∀ n,(∃ a,acc.lookup n=some a)→(∀ a,acc.lookup n=some a→env.cells.lookup n=some a)→cl'.lookup n=env.cells.lookup n)∧
   (∀ n,(n,NameKind.free)∈l→cl'.lookup n=env.cells.lookup n)
 | [],acc,_=>⟨acc,by rw[List.forIn_nil],fun n ⟨a,h⟩ g=>by rw[h,g a h],fun n h=>by simp at h⟩
 | x::l,acc,h=>by
  obtain⟨n0,kd⟩:=x
  by_cases e:kd=.free
  ·subst e
   obtain⟨a0,ha⟩:=h (n0,.free) List.mem_cons_self rfl
   obtain⟨cl',h1,h2,h3⟩:=pN l ((n0,a0)::acc) (fun y hy=>h y (List.mem_cons_of_mem _ hy))
   dsimp only at ha
   have here:cl'.lookup n0=env.cells.lookup n0:=h2 n0 ⟨a0,by rw[List.lookup_cons,beq_self_eq_true]⟩ fun a g=>by
    rw[List.lookup_cons,beq_self_eq_true]at g
    cases g;exact ha
   refine⟨cl',?_,fun n hn g=>?_,fun n hn=>?_⟩
   ·rw[List.forIn_cons]
    have e2:cellOf env n0=pure a0:=by unfold cellOf;rw[ha]
    have e4:(if(NameKind.free==NameKind.free)=true then(do let a ← cellOf env n0;pure (ForInStep.yield ((n0,a)::acc)))else(pure (ForInStep.yield acc):Sem _))=pure (ForInStep.yield ((n0,a0)::acc)):=by
     rw[e2,if_pos (by rfl),pure_bind]
    dsimp only
    rw[e4,pure_bind]
    exact h1
   ·by_cases e:n=n0
    ·subst e;exact here
    ·have e3:List.lookup n ((n0,a0)::acc)=acc.lookup n:=by
      rw[List.lookup_cons,beq_eq_false_iff_ne.mpr e]
     exact h2 n (by rw[e3];exact hn) (by rw[e3];exact g)
   ·rcases List.mem_cons.mp hn with g | g
    ·cases g;exact here
    ·exact h3 n g
  ·obtain⟨cl',h1,h2,h3⟩:=pN l acc (fun y hy=>h y (List.mem_cons_of_mem _ hy))
   refine⟨cl',?_,h2,fun n hn=>?_⟩
   ·rw[List.forIn_cons]
    have:(kd==NameKind.free)=false:=by simpa using e
    simp only[this,Bool.false_eq_true,if_false,pure_bind]
    exact h1
   ·rcases List.mem_cons.mp hn with g | g
    ·cases g;exact absurd rfl e
    ·exact h3 n g
def GQ (scope cs:Scope) (ci:List Nat):Bool:=
 (scope.names.all fun x=>x.2 != .free || ci.any fun j=>(Cel cs)[j]?==some x.1)&&
 (Cel (b6 scope cs)==ci.filterMap fun j=>(Cel cs)[j]?)&&(ci.all fun j=>((Cel cs)[j]?).isSome)&&
 ((Cel (b6 scope cs)).all fun n=>scope.names.any fun x=>x.1==n&&x.2==.free)
theorem filterMap_get {α β:Type}{f:α→Option β}:∀ {l:List α}(h:∀ x∈l,(f x).isSome) {i:Nat}{b:β},(l.filterMap f)[i]?=some b→∃ a,l[i]?=some a∧f a=some b
 | [],_,i,b,h=>by simp at h
 | x::l,hs,i,b,h=>by
  obtain⟨y,hy⟩:=Option.isSome_iff_exists.mp (hs x List.mem_cons_self)
  rw[List.filterMap_cons_some hy]at h
  cases i with
  | zero=>exact⟨x,rfl,by simp at h;rw[hy,h]⟩
  | succ i=>
   have:=filterMap_get (l:=l) (fun z hz=>hs z (List.mem_cons_of_mem _ hz)) (i:=i) (b:=b) (by simpa using h)
   obtain⟨a,g1,g2⟩:=this
   exact⟨a,by simpa using g1,g2⟩
theorem Jw {scope cs:Scope}{ci:List Nat}(h:GQ scope cs ci=true):Jc scope cs ci:=fun q L fn ccd r cl cn hcn hcl=>by
 subst hcn
 simp only[GQ,Bool.and_eq_true,List.all_eq_true]at h
 obtain⟨⟨⟨h1,h2⟩,h3⟩,h4⟩:=h
 obtain⟨cl',g1,_,g3⟩:=pN (env:=envG q cs L fn ccd r cl) scope.names [] fun x hx e=>by
  have:=h1 x hx
  rw[e]at this
  simp only[bne_self_eq_false,Bool.false_or,List.any_eq_true]at this
  obtain⟨j,hj,e2⟩:=this
  obtain⟨n,a,k1,k2⟩:=hcl j hj
  have e3:=eq_of_beq e2
  rw[k1]at e3
  cases e3
  exact⟨a,k2⟩
 refine⟨cl',?_,fun i n hi=>?_⟩
 ·unfold closureFor
  exact(bind_pure _).trans g1
 ·rw[eq_of_beq h2]at hi
  obtain⟨j,k1,k2⟩:=filterMap_get (fun j hj=>h3 j hj) hi
  refine⟨j,k1,k2,?_⟩
  have hm:n∈Cel (b6 scope cs):=by
   rw[eq_of_beq h2];exact List.mem_of_getElem? hi
  have:=h4 n hm
  simp only[List.any_eq_true,Bool.and_eq_true]at this
  obtain⟨x,hx,e1,e2⟩:=this
  obtain⟨xn,xk⟩:=x
  have e1:=eq_of_beq e1
  have e2:=eq_of_beq e2
  dsimp only at e1 e2
  subst e1;subst e2
  exact g3 _ hx
end
section
open PySem PySem.W PyProof.Rows PySem.Calls PySem.SeqAt
variable {prog:Program}{K:World→Frag}{D:Nat}{cs:Scope}
theorem B2 {w:World}:∀ {kvs:List (Str×Value)}{vs:List Value},vs.length=kvs.length→(∀ (j:Nat) (v:Value),vs[j]?=some v→∃ k x,kvs[j]?=some (k,x)∧(PySem.strKind prog w).is k v=true)→StrsAre vs (kvs.map (·.1)):=by
 intro kvs
 induction kvs with
 | nil=>
  intro vs hl _
  cases vs with
  | nil=>exact .nil
  | cons v vs=>cases hl
 | cons q kvs ih=>
  intro vs hl h
  cases vs with
  | nil=>cases hl
  | cons v vs=>
   have hr:=fun j u (hu:vs[j]?=some u)=>h (j+1) u hu
   refine(h 0 v rfl).elim fun k h=>h.elim fun x h=>?_
   cases Option.some.inj h.1
   refine(Value.isStrOf_shape h.2).elim fun t e=>?_
   cases e
   exact .cons k t (ih (Nat.succ.inj hl) fun j u hu=>hr j u hu)
theorem LW {P F rho}{kvs:List (Str×Value)}{fs:List (V×V)}(h:gV eg P F rho kvs fs):kvs.map (·.1)=fs.filterMap fun f=>eg f.1:=by
 induction h with
 | nil=>rfl
 | cons hd hv hr ih=>
  rw[List.filterMap_cons_some (f:=fun f:V×V=>eg f.1) hd,List.map_cons,ih]
def mi (x:V) (σ:S):Rs V:=match u7 x with
 | some fs=>if fs.length<64 then .ok (.lst ((cu (fs.filterMap fun f=>eg f.1)).map V.str)) σ else .no
 | Option.none=>.no
theorem LX:oB prog K D (.builtin "sorted") mi:=fun c A rm s m W σ R v x hv Q E hp=>by
 unfold mi at hp
 split at hp
 case h_2=>exact hp.elim
 rename_i fs hx
 split at hp
 case isFalse=>exact hp.elim
 rename_i hz
 obtain⟨a,es,n,kvs,rfl,hfz,hsys,hd,q1,q2⟩:=Jv (prog:=prog) R hv hx
 have hol:=R.fz_at hfz
 obtain⟨es',ep,g1,g2,g3,g4,g5⟩:=q2
 have hm:s.heap.DictAt (PySem.strKind prog c.w) a kvs ep:=⟨_,es',hol,g1,g2,g3,g4,g5⟩
 have hlen:=yd q1
 refine kdu_sorted (kdl_dict (knd:=PySem.strKind prog c.w) (kvs:=kvs) (ep:=ep) hsys) rm.handled R.F R.N hm (kdl_size (by rw[hlen];omega)) fun B h' tk vs F' N' l1 hl hv'=>?_
 have hS:StrsAre vs (kvs.map (·.1)):=B2 hl hv'
 have z:=N' (B,listOf vs.toArray 0) (.head _)
 have ho:h'.get? B=some (seqObj "list" vs.toArray 0):=z.1
 refine wpAny_call_entry slot_list_sort ⟨_,z.1,rfl⟩ entry_list_sort (list_sort_treeK PyProof.Rows.strKind_oneLt ho hS.keysOf (fun v₁ v₂ rest e=>keyKind_strs (by rw[← e];exact hS)) (by rw[hl,hlen];exact hz) fun st' hpm hs=>⟨_,rfl,?_⟩) (args_list_sort _)
 obtain⟨ss',h1,h2,h3⟩:=sorted_out_str hS hpm hs
 have he:=zp h2 h3
 subst he
 rw[LW q1]at h1
 have F4:Fr c.b c.L (sortedHeap h' B vs ((arrOf st').map (·.2))) m:=
  ((((F'.change (Heap.SameBut.update ..) z.2.1 z.2.2).push _).push _).change (Heap.SameBut.update ..) z.2.1 z.2.2)
 obtain⟨e,hoe⟩:=sortedHeap_at (vs:=vs) (out:=(arrOf st').map (·.2)) ho
 have N'':News c.b c.L (sortedHeap h' B vs ((arrOf st').map (·.2))) ((B,lstOf ((arrOf st').map (·.2)).toList e)::W.nw):=fun p hp=>by
  rcases List.mem_cons.mp hp with rfl | hp
  ·exact⟨hoe,z.2⟩
  ·have y:=N' p (.tail _ hp)
   exact⟨(sortedHeap_old (Nat.ne_of_lt (l1 p hp)) (Heap.lt_size y.1)).trans y.1,y.2⟩
 obtain⟨R1,X1⟩:=R.freeze1 F4 N'' l1
 have q:=v7 (P:=c.w.params) (F:=FZ c.b ((B,lstOf ((arrOf st').map (·.2)).toList e)::W.fz)) (rho:=W.rho) h1
 exact hp _ _ tk m _ R1 X1 (.lst (n:=e) (.inr (.head _)) q.1 q.2)
end
end
section
open PySem
section
variable {prog:Program}{w:World}{M:Model}{A:Around}{E:Value→Shared→Prop}{R:Result→Shared→Prop}{h:Heap}{g:Array GenState}{d:Drawn}{t:Nat}{os:OsState}
variable {nm q:Str}{C N:Addr}{bs bm bmB:List Value}{hdct:Bool}{sn:List Str}{sub:List Value}{ab:Bool}{col:Option Bool}{dd:Option Addr}{k0 k1 k2 k3 k5:Option Value}{B newId initId:String}
structure pO (B:String) (bm:List Value):Prop where
 hasB:bm.contains (.type B)=true
 hasBase:bm.contains (.type "BaseException")=true
 noAttr:bm.contains (.type "AttributeError")=false
 noName:bm.contains (.type "NameError")=false
theorem B3 (F:ExcBaseFacts B newId initId bmB) (U:pO B bm) {rest:List Value}{Q:Unit→Shared→Prop}(hC:h.get? C=some (excClassObj nm q C N bs bm hdct sn sub ab col dd k0 k1 k2 k3 k5 newId))
  (hq:Q () ⟨h,g,d,t,os⟩):wpAny M A (checkBuiltinCall newId ⟨.ref C::rest,[]⟩) Q E ⟨h,g,d,t,os⟩:=by
 have hcont:(Value.ref C::bm).contains (.type B)=true:=by rw[List.contains_cons,U.hasB,Bool.or_true]
 have hstar:=F.noStar
 simp only[checkBuiltinCall,F.newKind,F.newSplit,F.newRow]
 repeat (first | refine wpAny_loadPart_at hC ?_ | (refine wpAny_isSubtype_exc hC ?_;rw[hcont]) | refine wpAny_staticBase_exc hC ?_ | refine wpAny_madeBy_exc hC ?_ | simp only[bne_self_eq_false,Bool.false_eq_true,if_false] | wp_step)
 exact hq
theorem QR (F:ExcBaseFacts B newId initId bmB) (U:pO B bm) {rest:List Value}(hC:h.get? C=some (excClassObj nm q C N bs bm hdct sn sub ab col dd k0 k1 k2 k3 k5 newId))
  (hq:R (.ok (.ret (.ref (h.objs.size+1)))) ⟨(h.push { cls:=.type "tuple",data:=.seq rest.toArray }).push
   { cls:=.ref C,data:=.fields #[.ref h.objs.size,.none,.none,.none,.bool false,.none] },g,d,t,os⟩) (hrest:rest.length≤sizeLine:=by size_fits):
  codeAny (model prog w) A (.builtin newId ⟨.ref C::rest,[]⟩) R ⟨h,g,d,t,os⟩:=by
 have hends:=F.ends
 have hcB:(Value.ref C::bm).contains (.type B)=true:=by rw[List.contains_cons,U.hasB,Bool.or_true]
 have hcA:(Value.ref C::bm).contains (.type "AttributeError")=false:=by rw[List.contains_cons,U.noAttr];rfl
 have hcN:(Value.ref C::bm).contains (.type "NameError")=false:=by rw[List.contains_cons,U.noName];rfl
 refine codeAny_builtinAt F.entry ?_
 unfold Builtin.«BaseException.__new__»
 refine wpAt_bind ?_
 show wpAt _ _ _ (stack >>= _) _ _ _
 refine wpAt_bind (wpAt_stack fun p below=>wpAt_of_wpAny ?_)
 wp_walk
 refine wpAt_of_wpAny ?_
 rw[F.owner]
 repeat (first | with_reducible refine wpAny_madeHere_exc F.canon hC ?_ | with_reducible refine wpAny_loadPart_at hC ?_ | (with_reducible refine wpAny_isSubtype_exc hC ?_;first | rw[hcB] | rw[hcA] | rw[hcN]) | wp_step)
 show R _ _
 rw[Heap.size_push]
 exact hq
theorem GR {name:Str}{mN mM:Str→Option Value}{Mb:Addr}{c0:Value}{dM:Option Addr}{cd:ClassData}{sl:Array (Option Value)}{tl:List Value}{v:Value}{Q:Option Value→Shared→Prop}
  (hC:h.get? C=some (excClassObj nm q C N bs (.ref Mb::tl) hdct sn sub ab col dd k0 k1 k2 k3 k5 newId)) (hn:h.Ns N mN) (hi:mN name=none)
  (hM:h.get? Mb=some { cls:=c0,dict:=dM,data:=.cls cd,slots:=sl }) (hnM:h.Ns cd.ns mM) (hiM:mM name=some v)
  (hq:Q (some v) ⟨h,g,d,t,os⟩):wpAny M A (typeLookup (.ref C) name) Q E ⟨h,g,d,t,os⟩:=by
 rw[typeLookup_eq]
 refine wpAny_bind (wpAny_mroOf_exc hC ?_)
 rw[lookupAlong_cons]
 refine wpAny_bind (wpAny_classOwn_exc hC hn ?_)
 rw[hi]
 dsimp only
 rw[lookupAlong_cons]
 refine wpAny_bind (wpAny_classOwn_cls hM hnM ?_)
 rw[hiM]
 exact wpAny_pure hq
theorem B4 (F:ExcBaseFacts B newId initId bmB) {Mb:Addr}{tl:List Value}(U:pO B (.ref Mb::tl)) {mN mM:Str→Option Value}{rest:List Value}{fI:Addr}{oI:Obj}{c0:Value}{dM:Option Addr}{cd:ClassData}{sl:Array (Option Value)}{Q:Fin→Shared→Prop}
  (hC:h.get? C=some (excClassObj nm q C N bs (.ref Mb::tl) hdct sn sub ab col dd k0 k1 k2 k3 k5 newId)) (hn:h.Ns N mN) (hi:mN "__init__"=none)
  (hM:h.get? Mb=some { cls:=c0,dict:=dM,data:=.cls cd,slots:=sl }) (hnM:h.Ns cd.ns mM) (hiM:mM "__init__"=some (.ref fI))
  (hfI:h.get? fI=some oI) (hfc:oI.cls=.type "function")
  (hq:∀ h' e,Heap.MadeExcOf h h' e (.ref C) rest→
   wpAny (model prog w) A (call (.ref fI) (.ref e::rest)) (fun r s'=>r=.none∧Q (.done (.ret (.ref e))) s') E ⟨h',g,d,t,os⟩) (hrest:rest.length≤sizeLine:=by size_fits):
  wpAny (model prog w) A (Builtin.«type.__call__» ⟨.ref C::rest,[]⟩) Q E ⟨h,g,d,t,os⟩:=by
 repeat (first | with_reducible refine wpAny_loadPart_at hC ?_ | with_reducible refine wpAny_madeBy_exc hC ?_ | wp_step)
 refine codeAny_call_builtin_code (Code.quiet_builtin _ F.quiet) (B3 F U hC ?_)
 refine QR F U hC ?_ hrest
 show wpAny _ _ _ _ _ _
 let oT:Obj:={ cls:=.type "tuple",data:=.seq rest.toArray }
 let oE:Obj:={ cls:=.ref C,data:=.fields #[.ref h.objs.size,.none,.none,.none,.bool false,.none] }
 have up2:∀ b o,h.get? b=some o→((h.push oT).push oE).get? b=some o:=fun b o e=>Heap.get?_push_of_some _ (Heap.get?_push_of_some _ e)
 have hC₁:=up2 _ _ hC
 have hfI₁:=up2 _ _ hfI
 have hM₁:=up2 _ _ hM
 have hn₁:((h.push oT).push oE).Ns N mN:=hn.keeps up2
 have hnM₁:((h.push oT).push oE).Ns cd.ns mM:=hnM.keeps up2
 have hget:((h.push { cls:=.type "tuple",data:=.seq rest.toArray }).push
   { cls:=.ref C,data:=.fields #[.ref h.objs.size,.none,.none,.none,.bool false,.none] }).get? (h.objs.size+1)=some
   { cls:=.ref C,data:=.fields #[.ref h.objs.size,.none,.none,.none,.bool false,.none] }:=by heap_get
 have hcC:(Value.ref C::.ref Mb::tl).contains (.ref C)=true:=by simp
 unfold isInstance
 repeat (first | with_reducible refine wpAny_loadPart_at hget ?_ | (with_reducible refine wpAny_isSubtype_exc hC₁ ?_;rw[hcC]) | wp_step)
 show wpAny _ _ (typeLookup (.ref C) _) _ _ _
 refine GR hC₁ hn₁ hi hM₁ hnM₁ hiM ?_
 refine wpAny_holding (wpAny_bind ?_)
 unfold bindSpecial
 refine wpAny_bind (wpAny_typeOf (T:="function") ⟨_,hfI₁,hfc⟩ ?_)
 rw[if_pos (by decide)]
 refine wpAny_pure (wpAny_bind (wpAny_mono (hq _ (h.objs.size+1) ⟨up2,Heap.get?_none_of_le (Nat.le_succ _),h.objs.size,hget,Heap.get?_none_of_le (Nat.le_refl _),?_⟩) (fun r s' hr=>?_) fun _ _ x=>x))
 ·exact Heap.get?_push_of_some _ (Heap.get?_push_at rfl rfl)
 ·obtain⟨rfl,hQ⟩:=hr
  wp_walk
  exact hQ
theorem Pf (F:ExcBaseFacts B newId initId bmB) {Mb:Addr}{tl:List Value}(U:pO B (.ref Mb::tl)) {mN mM:Str→Option Value}{rest:List Value}{fI:Addr}{oI:Obj}{c0:Value}{dM:Option Addr}{cd:ClassData}{sl:Array (Option Value)}{Q:Value→Shared→Prop}
  (hC:h.get? C=some (excClassObj nm q C N bs (.ref Mb::tl) hdct sn sub ab col dd k0 k1 k2 k3 k5 newId)) (hn:h.Ns N mN) (hi:mN "__init__"=none)
  (hM:h.get? Mb=some { cls:=c0,dict:=dM,data:=.cls cd,slots:=sl }) (hnM:h.Ns cd.ns mM) (hiM:mM "__init__"=some (.ref fI))
  (hfI:h.get? fI=some oI) (hfc:oI.cls=.type "function")
  (hq:∀ h' e,Heap.MadeExcOf h h' e (.ref C) rest→
   wpAny (model prog w) (A.under (.builtin "type.__call__" ⟨.ref C::rest,[]⟩)) (call (.ref fI) (.ref e::rest)) (fun r s'=>r=.none∧Q (.ref e) s') E ⟨h',g,d,t,os⟩) (hrest:rest.length≤sizeLine:=by size_fits):
  wpAny (model prog w) A (call (.ref C) rest) Q E ⟨h,g,d,t,os⟩:=by
 have f1:=tc_lookup
 have f2:=tc_bind (.ref C)
 have hT:(⟨h,g,d,t,os⟩:Shared).TypeIs (.ref C) "type":=⟨_,hC,rfl⟩
 refine wpAny_call (codeAny_of_tree ?_)
 show wpAny _ _ (callAny (.ref C) _) _ _ _
 repeat (any_goals (first | assumption | with_reducible refine wpAny_loadPart_at hC ?_ | wp_step))
 refine⟨rfl,?_⟩
 refine codeAny_call_builtin_at (Code.quiet_builtin _ (by decide +kernel)) entry_typeCall (wpAny_check_type_call_sub hC (B4 (hrest:=hrest) F U hC hn hi hM hnM hiM hfI hfc fun h' e hm=>?_))
 exact hq h' e hm
end
end
section
open PySem
section
variable {prog:Program}{w:World}{A:Around}{E:Value→Shared→Prop}{h:Heap}{g:Array GenState}{d:Drawn}{t:Nat}{os:OsState}
variable {nm q:Str}{C N:Addr}{bs bm bmB:List Value}{hdct:Bool}{sn:List Str}{sub:List Value}{ab:Bool}{col:Option Bool}{dd:Option Addr}{k0 k1 k2 k3 k5:Option Value}{B newId initId:String}
theorem zS (F:ExcBaseFacts B newId initId bmB) (U:pO B bm) {M:Model}{e:Addr}{oe:Obj}{rest:List Value}{Q:Unit→Shared→Prop}
  (hC:h.get? C=some (excClassObj nm q C N bs bm hdct sn sub ab col dd k0 k1 k2 k3 k5 newId)) (he:h.get? e=some oe) (hcls:oe.cls=.ref C) (hq:Q () ⟨h,g,d,t,os⟩):
  wpAny M A (checkBuiltinCall initId ⟨.ref e::rest,[]⟩) Q E ⟨h,g,d,t,os⟩:=by
 have hcB:(Value.ref C::bm).contains (.type B)=true:=by rw[List.contains_cons,U.hasB,Bool.or_true]
 have hshort:=F.noStar
 simp only[checkBuiltinCall,F.initKind,F.initSplit,F.initRow]
 repeat (first | (with_reducible refine wpAny_loadPart_at he ?_;rw[hcls]) | with_reducible refine wpAny_loadPart_at hC ?_ | (with_reducible refine wpAny_isSubtype_exc hC ?_;rw[hcB]) | wp_step)
 refine wpAny_onRaise ?_
 rw[show ∀ (a b:String) (n:Nat),Bind.check ⟨.positional,"*",B,.self,[⟨"args",.varPos,false⟩]⟩ a b n (List.map (fun x=>x.fst) ({ pos:=Value.ref e::rest }:Args).kw)=pure ()from
  fun a b n=>check_star_args _ _ _ _ _ _]
 exact wpAny_pure hq
end
end
section
open PySem PySem.W PyProof.Rows PySem.Calls
section
variable {prog:Program}{K:World→Frag}{D:Nat}{cs:Scope}
noncomputable def gg:W2:=fun σ=>.ok .cont σ
theorem Jx {p}:JX prog K D cs (.Continue p) gg:=fun c A rm fr k s m W σ R Q E hp=>by
 show wpAny _ _ (do standAt p;pure Flow.cont) _ _ _
 exact wpAny_bind (wpAny_standAt (wpAny_pure (hp _ s.heap s.toks m W R (aJ.refl _) .cont)))
def u9 (w:W1):W1:=fun σ=>match w σ with
 | .ok x σ'=>match frz σ.st.length σ'.st 30 x with
  | some y=>if(σ'.st.take σ.st.length).all (hV σ.st.length 30)then if σ'.env.all (low σ.st.length 30)then .ok y ⟨σ'.env,σ'.st.take σ.st.length⟩else .no else .no
  | Option.none=>.no
 | .exc C=>.exc C
 | .no=>.no
theorem XF {e w}(h:JE prog K D cs e w):JE prog K D cs e (u9 w):=by
 intro c A rm fr kk s m W σ R Q E hp
 refine h c A rm fr kk s m W σ R Q E ?_
 unfold u9 at hp
 generalize w σ=r at hp
 cases r with
 | no=>exact hp
 | exc C=>exact hp
 | ok x σ'=>
  dsimp only at hp
  cases hy:frz σ.st.length σ'.st 30 x with
  | none=>rw[hy]at hp;exact hp.elim
  | some y=>
   rw[hy]at hp
   exact aA.iteB hp fun hall hp=>aA.iteB hp fun henv hp=>fun a h' tk m' W' R' X hv=>BG R R' X hall fun W1 X1 hfz hlow hfrz build=>
    hp a h' tk m' W1 (build σ'.env R'.elen (fun i n v hi hw=>(R'.env i n v hi hw).imp id fun h=>h.imp fun u g=>⟨g.1,hlow v u (List.all_eq_true.mp henv v (List.mem_of_getElem? hw)) g.2⟩)
     (fun j n v hj hw=>(R'.cell j n v hj hw).imp id fun h=>h.imp fun a h=>h.imp fun o h=>h.imp fun u g=>⟨g.1,hfz _ g.2.1,g.2.2.1,hlow v u (List.all_eq_true.mp henv v (List.mem_of_getElem? hw)) g.2.2.2⟩)) X1 (hfrz x y a hy hv)
noncomputable def lQ (k:Nat) (fs:List (Nat×V)):Bool:=fs.all fun f=>f.1<48&&f.1 != k
theorem v8 {P F rho}{name:Str}{k:Nat}(hn:∀ i,i<48→i≠k→attrName i≠name):∀ {es:List DictEntry}{fs:List (Nat×V)},jy P F rho es fs→lQ k fs=true→getL name es=some Option.none
 | [],_,_,_=>rfl
 | _::_,[],h,_=>by have:=h.len;simp at this
 | e::es,f::fs,h,q=>by
  obtain⟨t,hk⟩:=h.key 0 e f rfl rfl
  have q0:(decide (f.1<48)&&f.1 != k)=true∧lQ k fs=true:=by simpa only [lQ,List.all_cons,Bool.and_eq_true]using q
  obtain⟨q1,q2⟩:=q0
  simp only[Bool.and_eq_true,decide_eq_true_eq,bne_iff_ne]at q1
  have ih:=v8 hn h.tail q2
  have hne:(attrName f.1==name)=false:=beq_eq_false_iff_ne.mpr (hn _ q1.1 q1.2)
  have hrk:e.refKey=false:=by unfold DictEntry.refKey;rw[hk]
  unfold getL at ih ⊢
  rw[List.find?_cons,hk,j8,hne]
  dsimp only
  split at ih
  ·cases ih
  ·rename_i h1
   rw[h1]
   dsimp only
   split at ih
   ·cases ih
   ·rename_i h2
    rw[List.any_cons,hrk,Bool.false_or,if_neg h2]
def oJ (k:Nat) (tbl:List (Addr×FS)) (wo:W1) (wa:S→Rs (List V)):W1:=fun σ=>(wo σ).bind fun x σ1=>match f9 x σ1 with
 | some (C,fs)=>if lQ k fs then match tbl.lookup C with
  | some spec=>(wa σ1).bind fun xs σ2=>(spec (x::xs) σ2.st).rs σ2.env
  | Option.none=>.no
  else .no
 | Option.none=>.no
theorem QS {o name apos args pos tbl wo wa e es}(hs:MethShape cs o name apos args pos) {ka:Nat}(hn:∀ i,i<48→i≠ka→attrName i≠name) (ht:∀ C spec,(C,spec)∈tbl→∃ f,MethAt K C name f∧JF prog K D (.ref f) spec) (ho:JE prog K (D+1) cs o wo) (ha:JL prog K (D+1) cs args wa)
  (hargs:args=e::es) (he:∀ env,starEach (e::es) env=(false,eval e env)::starEach es env):JE prog K (D+1) cs (.Call (.Attribute o name apos) args [] pos) (oJ ka tbl wo wa):=fun c A rm fr k s m W σ R Q E hp=>by
 subst hargs
 obtain⟨q,fn,ccd,r,ee⟩:=id fr.env
 obtain⟨pl,hsh⟩:=hs q c.L fn ccd r c.cl
 refine MethodCall_ (pl:=pl) (ho c A rm fr k s m W σ R _ E (aA.bind hp fun v x σ1 h1 tk1 m1 W1 R1 X1 ra p1=>?_)) (by rw[ee];exact hsh)
 split at p1
 ·rename_i C fs hi
  split at p1
  ·rename_i hno
   split at p1
   ·rename_i spec hl
    obtain⟨a',dx,es',n,rfl,I,fr'⟩:=tu R1 ra hi
    obtain⟨f,M,hf⟩:=ht C spec (lookup_mem hl)
    refine method_inst R1.F k.X I (M.hg c.w) (M.hf c.w) (M.ht c.w) (v8 hn fr' hno) ?_
    dsimp only
    refine callWith_K k.X (M.keep c.w) (ha.2 c A rm fr k _ m1 W1 σ1 R1 pos _ E (aA.bind p1 fun vs xs σ2 h2 tk2 m2 W2 R2 X2 rb p2=>?_)) (he _) (dF (ha.1 _ _) (he _))
    exact⟨k.X.keeps R2.F.keep,wpAny_call (hf c A rm k _ m2 W2 σ2 R2 _ (x::xs) (VRs.cons (ra.ext X2) rb) Q E p2.toF)⟩
   ·exact p1.elim
  ·exact p1.elim
 ·exact p1.elim
end
end
section
open PySem PySem.Builtin PySem.Builtin.ObjectAttr
section
variable {prog:Program}{w:World}{A:Around}{E:Value→Shared→Prop}{h:Heap}{g:Array GenState}{d:Drawn}{t:Nat}{os:OsState}
variable {nm q:Str}{C N x Mb:Addr}{bs bmB:List Value}{sn:List Str}{sub:List Value}{ab:Bool}{col:Option Bool}{dd:Option Addr}{k0 k1 k2 k3 k5:Option Value}{B newId sa owner:String}
 {mN mM mA:Str→Option Value}{name:Str}{v:Value}{c0:Value}{dM:Option Addr}{cd:ClassData}{sl:Array (Option Value)}
theorem oK {name:Str}{hdct:Bool}{y:Option Value}{M:Model}{Q:Option Value→Shared→Prop}
  (hC:h.get? C=some (excClassObj nm q C N bs (.ref Mb::bmB) hdct sn sub ab col dd k0 k1 k2 k3 k5 newId)) (hn:h.Ns N mN) (hi:mN name=none)
  (hM:h.get? Mb=some { cls:=c0,dict:=dM,data:=.cls cd,slots:=sl }) (hnM:h.Ns cd.ns mM) (hiM:mM name=none)
  (hbm:mroOf (.type B)=pure bmB) (hB:typeLookup (.type B) name=pure y)
  (hq:Q y ⟨h,g,d,t,os⟩):wpAny M A (typeLookup (.ref C) name) Q E ⟨h,g,d,t,os⟩:=by
 have hrest:lookupAlong bmB name=pure y:=by rw[typeLookup_eq,hbm]at hB;exact hB
 rw[typeLookup_eq]
 refine wpAny_bind (wpAny_mroOf_exc hC ?_)
 rw[lookupAlong_cons]
 refine wpAny_bind (wpAny_classOwn_exc hC hn ?_)
 rw[hi]
 dsimp only
 rw[lookupAlong_cons]
 refine wpAny_bind (wpAny_classOwn_cls hM hnM ?_)
 rw[hiM]
 dsimp only
 rw[hrest]
 exact wpAny_pure hq
theorem DT {M:Model}{o:Obj}{nameV:Value}{Q:Unit→Shared→Prop}(SF:StoreFacts B bmB sa owner)
  (hC:h.get? C=some (excClassObj nm q C N bs (.ref Mb::bmB) true sn sub ab col dd k0 k1 k2 k3 k5 newId)) (hx:h.get? x=some o) (hc:o.cls=.ref C) (hq:Q () ⟨h,g,d,t,os⟩):
  wpAny M A (checkBuiltinCall sa ⟨[.ref x,nameV,v],[]⟩) Q E ⟨h,g,d,t,os⟩:=by
 have hcB:(Value.ref C::.ref Mb::bmB).contains (.type owner)=true:=by rw[List.contains_cons,List.contains_cons,SF.hasOwner];simp
 have ha:=SF.args (.ref x) nameV v
 simp only[checkBuiltinCall,SF.kind,SF.split]
 refine wpAny_bind ?_
 ·unfold isInstance
  repeat (first | (with_reducible refine wpAny_loadPart_at hx ?_;rw[hc]) | (with_reducible refine wpAny_isSubtype_exc hC ?_;rw[hcB]) | wp_step)
  cases hsig:Manifest.signature? sa with
  | none=>exact wpAny_pure hq
  | some sig=>
   simp only[argsOk,hsig]at ha
   show wpAny M A (Bind.checkArgs sa sig ⟨[.ref x,nameV,v],[]⟩) Q E _
   rw[show Bind.checkArgs sa sig ⟨[.ref x,nameV,v],[]⟩=pure ()from ha];exact wpAny_pure hq
theorem yi {tk:Tok}{Q:Fin→Shared→Prop}{ns:List Str}(SF:StoreFacts B bmB sa owner)
    (hC:h.get? C=some (excClassObj nm q C N bs (.ref Mb::bmB) true sn sub ab col dd k0 k1 k2 k3 k5 newId)) (hn:h.Ns N mN) (hna:mN name=none)
    (hM:h.get? Mb=some { cls:=c0,dict:=dM,data:=.cls cd,slots:=sl }) (hnM:h.Ns cd.ns mM) (hiM:mM name=none)
    (hB:typeLookup (.type B) name=pure none) (I:h.Inst x C mA)
    (hq:∀ h' tk',h'.Inst x C (fun y=>if y=name then some v else mA y)→
      (∀ b o,b≠x→(∀ o₀ dx,h.get? x=some o₀→o₀.dict=some dx→b≠dx)→h.get? b=some o→h'.get? b=some o)→
      (∀ o₀,h.get? x=some o₀→∃ o₁,h'.get? x=some o₁∧o₁.cls=o₀.cls∧o₁.data=o₀.data∧o₁.slots=o₀.slots∧((∀ dx,o₁.dict=some dx→o₀.dict=some dx∨h.get? dx=none)))→Q (.done (.ret .none)) ⟨h',g,d,tk',os⟩) (hw:Within mA ns) (hsz:ns.length≤100):
    wpAny (model prog w) A (Builtin.«object.__setattr__» ⟨[.ref x,.str name tk,v],[]⟩) Q E ⟨h,g,d,t,os⟩:=by
  obtain⟨o,hx,hc,hnc,hd⟩:=I
  have hpass:=SF.passes (.ref x)
  have hsz':ns.length+1≤sizeLine:=by rw[sizeLine_eq];omega
  unfold Builtin.«object.__setattr__»
  repeat (first | rw[refuse_eq] | (rw[refuseLoop_ref,refuseLoop_ref,hpass]) | (with_reducible refine wpAny_loadPart_at hx ?_;rw[hc]) | with_reducible refine wpAny_mroOf_exc hC ?_ | (with_reducible refine oK hC hn hna hM hnM hiM SF.mro hB ?_) | wp_step)
  rcases hd with⟨hdn,hmA⟩ | ⟨dx,hdx,hne,hns⟩
  · rw[hdn,if_neg (by simp[typeHasDict])]
    split
    · rename_i hcd
      cases hcd
    split
    · rename_i c hcd
      exact absurd hcd (hnc c)
    · have hx₁:(h.push { cls:=.type "dict",data:=.dict #[] }).get? x=some o:=Heap.get?_push_of_some _ hx
      have hxs:x≠h.objs.size:=Nat.ne_of_lt (Heap.lt_size hx)
      refine wpAny_bind (wpAny_alloc' ?_)
      refine wpAny_bind (wpAny_update' hx₁ ?_)
      refine wpAny_pure ?_
      have hgd:((h.push { cls:=.type "dict",data:=.dict #[] }).update x fun o=>{ cls:=o.cls,dict:=some h.objs.size,data:=o.data,slots:=o.slots }).get? h.objs.size
         =some { cls:=.type "dict",data:=.dict #[] }:=
        (Heap.get?_update_ne _ _ _ _ hxs.symm).trans (Heap.get?_push_at rfl rfl)
      have hnd:((h.push { cls:=.type "dict",data:=.dict #[] }).update x fun o=>{ cls:=o.cls,dict:=some h.objs.size,data:=o.data,slots:=o.slots }).Ns h.objs.size (fun _=>none):=
        ⟨_,#[],_,hgd,rfl,fun e he=>absurd he (by simp),fun _=>rfl⟩
      show wpAny _ _ (storeInDict h.objs.size (.str name tk) name v) _ _ _
      unfold storeInDict newKeyGuard
      refine wpAny_bind (wpAny_pure (wpAny_bind (wpAny_nsSet1 (Heap.Ns1.of_empty hnd) fun h' hn' hs=>?_)))
      obtain⟨oD,esD,epD,hoD,hdD,hcD⟩:=hn'.count (Within.cons name v Within.nil)
      refine wpAny_bind (wpAny_lookBehind hoD (by rw[hdD];exact pastItsLine_dict (Nat.le_trans hcD (by rw[List.length_cons,List.length_nil,sizeLine_eq];omega))) ?_)
      wp_walk
      have hx':h'.get? x=some { cls:=o.cls,dict:=some h.objs.size,data:=o.data,slots:=o.slots }:=by
        refine(hs.2 x hxs).trans (Heap.get?_update_self _ hx₁ ?_)
        have hfr:=(Heap.get?_some_iff.mp hx).2
        obtain⟨oc,od,odt,osl⟩:=o
        cases odt <;> first | rfl | exact hfr
      refine hq h' _ ⟨{ cls:=o.cls,dict:=some h.objs.size,data:=o.data,slots:=o.slots },hx',hc,hnc,.inr ⟨h.objs.size,rfl,hxs.symm,?_⟩⟩ (fun b ob hbx _ hb=>?_)
        (fun o₀ h₀=>by obtain rfl:o=o₀:=Option.some.inj (hx.symm.trans h₀);exact⟨_,hx',rfl,rfl,rfl,fun dx e=>.inr (by cases e;exact Heap.get?_none_of_le (Nat.le_refl _))⟩)
      · obtain⟨o',es,ep,e1,e2,e3,eu,e4⟩:=hn'
        exact⟨o',es,ep,e1,e2,e3,eu,fun y=>by rw[e4 y];by_cases hy:y=name <;> simp[hy,hmA]⟩
      · exact(hs.2 b (Nat.ne_of_lt (Heap.lt_size hb))).trans ((Heap.get?_update_ne _ _ _ _ hbx).trans (Heap.get?_push_of_some _ hb))
  · rw[hdx]
    refine wpAny_pure ?_
    show wpAny _ _ (storeInDict dx (.str name tk) name v) _ _ _
    unfold storeInDict newKeyGuard
    refine wpAny_bind (wpAny_pure (wpAny_bind (wpAny_nsSet1 hns fun h' hn' hs=>?_)))
    obtain⟨oD,esD,epD,hoD,hdD,hcD⟩:=hn'.count (Within.cons name v hw)
    refine wpAny_bind (wpAny_lookBehind hoD (by rw[hdD];exact pastItsLine_dict (Nat.le_trans hcD (by rw[List.length_cons];omega))) ?_)
    wp_walk
    refine hq h' _ ⟨o,(hs.2 x hne.symm).trans hx,hc,hnc,.inr ⟨dx,hdx,hne,hn'⟩⟩ (fun b ob _ hbd hb=>?_)
      (fun o₀ h₀=>⟨o₀,(hs.2 x hne.symm).trans h₀,rfl,rfl,rfl,fun _ e=>.inl e⟩)
    exact(hs.2 b (hbd o dx hx hdx)).trans hb
theorem qp {Q:Unit→Shared→Prop}{ns:List Str}(SF:StoreFacts B bmB sa owner)
  (hC:h.get? C=some (excClassObj nm q C N bs (.ref Mb::bmB) true sn sub ab col dd k0 k1 k2 k3 k5 newId)) (hn:h.Ns N mN) (hns:mN "__setattr__"=none) (hna:mN name=none)
  (hM:h.get? Mb=some { cls:=c0,dict:=dM,data:=.cls cd,slots:=sl }) (hnM:h.Ns cd.ns mM) (hsM:mM "__setattr__"=none) (hiM:mM name=none)
  (hB:typeLookup (.type B) name=pure none) (I:h.Inst x C mA)
  (hq:∀ h' tk',h'.Inst x C (fun y=>if y=name then some v else mA y)→
   (∀ b o,b≠x→(∀ o₀ dx,h.get? x=some o₀→o₀.dict=some dx→b≠dx)→h.get? b=some o→h'.get? b=some o)→
   (∀ o₀,h.get? x=some o₀→∃ o₁,h'.get? x=some o₁∧o₁.cls=o₀.cls∧o₁.data=o₀.data∧o₁.slots=o₀.slots∧((∀ dx,o₁.dict=some dx→o₀.dict=some dx∨h.get? dx=none)))→Q () ⟨h',g,d,tk',os⟩) (hw:Within mA ns) (hsz:ns.length≤100):
  wpAny (model prog w) A (setAttr (.ref x) name v) Q E ⟨h,g,d,t,os⟩:=by
 obtain⟨o,hx,hc,_⟩:=id I
 have f3:=SF.slot.bind (.ref x)
 unfold setAttr callSpecial? specialOf
 repeat (any_goals (first | assumption | (with_reducible refine wpAny_loadPart_at hx ?_;rw[hc]) | (with_reducible refine oK hC hn hns hM hnM hsM SF.mro SF.slot.lookup ?_) | wp_step))
 refine codeAny_call_builtin SF.slot.plain SF.entry (DT SF hC hx hc (yi SF hC hn hna hM hnM hiM hB I (fun h' tk' I' hk hsame=>?_) hw hsz))
 repeat (any_goals (first | assumption | wp_step))
 exact hq h' tk' I' hk hsame
end
end
section
open PySem PySem.W PyProof.Rows PySem.Calls
section
section
variable {prog:Program}{w:World}{A:Around}{E:Value→Shared→Prop}{h:Heap}{g:Array GenState}{d:Drawn}{t:Nat}{os:OsState}
variable {nm q:Str}{C N:Addr}{bs bm bmB:List Value}{hdct:Bool}{sn:List Str}{sub:List Value}{ab:Bool}{col:Option Bool}{dd:Option Addr}{k0 k1 k2 k3 k5:Option Value}{B newId initId:String}
theorem B5 (F:ExcBaseFacts B newId initId bmB) (U:pO B bm) {e t0:Addr}{oe:Obj}{vs:Array Value}{rest:List Value}{Q:Value→Shared→Prop}
  (hC:h.get? C=some (excClassObj nm q C N bs bm hdct sn sub ab col dd k0 k1 k2 k3 k5 newId)) (he:h.get? e=some oe) (hcls:oe.cls=.ref C) (hd:oe.data=.fields vs) (h0:vs[0]?=some (.ref t0))
  (hq:Q .none ⟨(h.push { cls:=.type "tuple",data:=.seq rest.toArray }).update e (Obj.mapFields (·.setIfInBounds 0 (.ref h.objs.size))),g,d,t,os⟩) (hrest:rest.length≤sizeLine):
  wpAny (model prog w) A (call (.builtin initId) (.ref e::rest)) Q E ⟨h,g,d,t,os⟩:=by
 refine wpAny_call (codeAny_call_builtin F.init.plain F.initEntry (zS F U hC he hcls ?_))
 unfold Builtin.«BaseException.__init__»
 dsimp only
 rw[if_neg (by simp)]
 unfold newTuple Builtin.BaseException.bexcPut
 have hsz:0<vs.size:=(Array.getElem?_eq_some_iff.mp h0).1
 have he₁:=Heap.get?_push_of_some (h:=h) { cls:=.type "tuple",data:=.seq rest.toArray } he
 refine wpAny_bind (wpAny_newObj_type (wpAny_bind (wpAny_bind (wpAny_field he₁ hd h0 (wpAny_bind (wpAny_setField he₁ hd hsz ?_))))) (by show rest.toArray.size≤sizeLine;rw[List.size_toArray];exact hrest))
 exact wpAny_letGo (wpAny_pure hq)
end
def bmE:List Value:=[.type "Exception",.type "BaseException",.type "object"]
theorem v9 (Mb:Addr):pO "Exception" (.ref Mb::bmE):=⟨by rw[List.contains_cons,show bmE.contains _=true from by decide +kernel,Bool.or_true],by rw[List.contains_cons,show bmE.contains _=true from by decide +kernel,Bool.or_true],
 by rw[List.contains_cons,show bmE.contains _=false from by decide +kernel];rfl,by rw[List.contains_cons,show bmE.contains _=false from by decide +kernel];rfl⟩
noncomputable def initBody (p1 p2 p3 p4 p5 p6 p7 p8 p9 p10 p11 p12 p13 p14:Pos):List PySem.Stmt:=
  [.Expr (.Call (.Attribute (.Name "Exception" p1) "__init__" p2) [.Name "self" p3,.Name "what" p4] [] p5) p6,
   .Assign [.Attribute (.Name "self" p7) "what" p8] (.Name "what" p9) p10,
   .Assign [.Attribute (.Name "self" p11) "at" p12] (.Name "at" p13) p14]
structure QT (K:World→Frag) (C Mb fI:Addr) (scope:Scope) (p1 p2 p3 p4 p5 p6 p7 p8 p9 p10 p11 p12 p13 p14:Pos):Prop where
 cls:∀ w (G:Prop),(∀ nm q N bs sn sub ab col dd k0 k1 k2 k3 k5,(K w).lookup C=some (excClassObj nm q C N bs (.ref Mb::bmE) true sn sub ab col dd k0 k1 k2 k3 k5 "Exception.__new__")→nsOkIn (K w) N=true→
  nsIn (K w) N "__init__"=some none→nsIn (K w) N "__setattr__"=some none→nsIn (K w) N "what"=some none→nsIn (K w) N "at"=some none→G)→G
 sup:∀ w (G:Prop),(∀ c0 dM cd sl,(K w).lookup Mb=some { cls:=c0,dict:=dM,data:=.cls cd,slots:=sl }→nsOkIn (K w) cd.ns=true→nsIn (K w) cd.ns "__init__"=some (some (.ref fI))→
  nsIn (K w) cd.ns "__setattr__"=some none→nsIn (K w) cd.ns "what"=some none→nsIn (K w) cd.ns "at"=some none→G)→G
 fn:de K fI (initBody p1 p2 p3 p4 p5 p6 p7 p8 p9 p10 p11 p12 p13 p14) scope ["self","what","at"] 2 0 [.none]
 fcls:∀ w o,(K w).lookup fI=some o→o.cls=.type "function"
 glob:pF K scope "Exception" (.type "Exception")
 shape:MethShape scope (.Name "Exception" p1) "__init__" p2 [.Name "self" p3,.Name "what" p4] p5
 inter:∀ q L fn ccd r cl,interactive (envG q scope L fn ccd r cl)=false
 sw1:∀ env,swapsWith (.Call (.Attribute (.Name "Exception" p1) "__init__" p2) [.Name "self" p3,.Name "what" p4] [] p5) none p6.line env=pure false
 sw2:∀ env,swapsWith (.Name "what" p9) (some (.Attribute (.Name "self" p7) "what" p8)) p10.line env=pure false
 sw3:∀ env,swapsWith (.Name "at" p13) (some (.Attribute (.Name "self" p11) "at" p12)) p14.line env=pure false
structure ExcAt (h0:Heap) (C e L:Addr) (mA m:Str→Option Value) (h:Heap):Prop where
 keep:∀ b o,h0.get? b=some o→h.get? b=some o
 ne:h0.get? e=none
 nL:h0.get? L=none
 eL:L≠e
 ns:h.Ns L m
 inst:h.Inst e C mA
 obj:∀ G:Prop,(∀ oe vs t0,h.get? e=some oe→oe.cls=.ref C→oe.data=.fields vs→vs[1]?=some .none→vs[0]?=some (.ref t0)→(∀ dx,oe.dict=some dx→h0.get? dx=none∧L≠dx)→G)→G
theorem ExcAt.store {h0 h h':Heap}{C e L:Addr}{mA mA' m:Str→Option Value}(X:ExcAt h0 C e L mA m h) (I:h'.Inst e C mA')
  (hk:∀ b o,b≠e→(∀ o₀ dx,h.get? e=some o₀→o₀.dict=some dx→b≠dx)→h.get? b=some o→h'.get? b=some o)
  (hs:∀ o₀,h.get? e=some o₀→∃ o₁,h'.get? e=some o₁∧o₁.cls=o₀.cls∧o₁.data=o₀.data∧o₁.slots=o₀.slots∧(∀ dx,o₁.dict=some dx→o₀.dict=some dx∨h.get? dx=none)):ExcAt h0 C e L mA' m h':=by
 refine X.obj _ fun oe vs t0 a1 a2 a3 a4 a5 a6=>?_
 have ap:∀ b o,h0.get? b=some o→b≠e∧∀ o₀ dx,h.get? e=some o₀→o₀.dict=some dx→b≠dx:=fun b o hb=>by
  refine⟨fun q=>(by rw[q,X.ne]at hb;cases hb),fun o₀ dx h1 h2 q=>?_⟩
  rw[a1]at h1
  cases h1
  rw[q,(a6 dx h2).1]at hb
  cases hb
 obtain⟨o₁,b1,b2,b3,b4,b5⟩:=hs _ a1
 obtain⟨oL,es,ep,c1,c2⟩:=X.ns
 refine⟨fun b o hb=>hk b o (ap b o hb).1 (ap b o hb).2 (X.keep b o hb),X.ne,X.nL,X.eL,⟨oL,es,ep,hk _ _ X.eL (fun o₀ dx h1 h2 q=>?_) c1,c2⟩,I,fun G k=>k o₁ vs t0 b1 (b2.trans a2) (b3.trans a3) a4 a5 fun dx hd=>?_⟩
 ·rw[a1]at h1
  cases h1
  exact(a6 dx h2).2 q
 ·rcases b5 dx hd with q | q
  ·exact a6 dx q
  ·refine⟨?_,fun z=>?_⟩
   ·cases z:h0.get? dx with
    | none=>rfl
    | some o=>rw[X.keep _ _ z]at q;cases q
   ·rw[← z,c1]at q;cases q
end
section
variable {prog:Program}{K:World→Frag}{D:Nat}{cs:Scope}
variable {C Mb fI:Addr}{scope:Scope}{p1 p2 p3 p4 p5 p6 p7 p8 p9 p10 p11 p12 p13 p14:Pos}
theorem GS {K:Frag}{h:Heap}{N:Addr}{mg:Str→Option Value}{n:Str}{v:Value}(X:K.In h) (G:h.Ns N mg) (e:nsIn K N n=some (some v)):mg n=some v:=by
 obtain⟨o,es,ep,ho,hd,_,hf⟩:=G
 unfold nsIn at e
 split at e
 ·rename_i c d es' n' sl q
  have:=X _ _ q
  rw[ho]at this
  cases this
  cases hd
  split at e
  ·rename_i en he
   cases e
   rw[← hf]
   unfold nsFind findBy
   rw[← Array.find?_toList,he]
   rfl
  ·split at e <;> cases e
 ·cases e
theorem Vt (a b c:Value):∀ y,(List.zip [("self":Str),"what","at"] [a,b,c]).reverse.lookup y=if y="at" then some c else if y="what" then some b else if y="self" then some a else none:=fun y=>by
 show List.lookup y [("at",c),("what",b),("self",a)]=_
 simp only[List.lookup]
 by_cases e1:y="at"
 ·subst e1;rfl
 ·rw[if_neg e1,beq_eq_false_iff_ne.mpr e1]
  by_cases e2:y="what"
  ·subst e2;rfl
  ·rw[if_neg e2,beq_eq_false_iff_ne.mpr e2]
   by_cases e3:y="self"
   ·subst e3;rfl
   ·rw[if_neg e3,beq_eq_false_iff_ne.mpr e3]
theorem zT:findCls [] (.type "Exception") (.type "type") "__init__"=some (.val (.builtin "Exception.__init__")):=by kernel_rfl
theorem Pg:typeLookup (.type "Exception") "what"=pure none:=by rw[typeLookup_type,builtinLookup_eq_fast];kernel_rfl
theorem Vu:typeLookup (.type "Exception") "at"=pure none:=by rw[typeLookup_type,builtinLookup_eq_fast];kernel_rfl
theorem oO {M:Model}{A:Around}{E:Value→Shared→Prop}{s:Shared}{x:Str}{p:Pos}{v:Value}{m:Str→Option Value}{Q:Value→Shared→Prop}{q:Str}{L:Addr}{fn:Option Addr}{cd:Value}{fr:Option Addr}{cl:List (Str×Addr)}
  (hk:scope.kind=.function) (hl:scope.names.lookup x=some .local) (hn:s.heap.Ns L m) (hv:m x=some v) (h:Q v s) (hd:(x==("__debug__":Str))=false):wpAny M A (eval (.Name x p) (envG q scope L fn cd fr cl)) Q E s:=
 wpAny_Name (wpAny_loadName_local (env:=envG q scope L fn cd fr cl) hk hl hn hv h) hd
theorem LY (X:QT K C Mb fI scope p1 p2 p3 p4 p5 p6 p7 p8 p9 p10 p11 p12 p13 p14) {w:World}{A:Around}{E:Value→Shared→Prop}{b:Heap}{s:Shared}{v:Value}(kX:(K w).In b) {p:Program}{loose:List Str}{mg mb:Str→Option Value}(T:TopRead p loose mg mb b)
  (kb:∀ a o,b.get? a=some o→s.heap.get? a=some o) (hdep:A.depth+8<recursionLimit) {Q:Value→Shared→Prop}
  (hQ:∀ e h' tk oe vs t0,(∀ a o,s.heap.get? a=some o→h'.get? a=some o)→s.heap.get? e=none→h'.get? C=s.heap.get? C→h'.get? e=some oe→oe.cls=.ref C→oe.data=.fields vs→vs[1]?=some .none→vs[0]?=some (.ref t0)→
   Q (.ref e) { s with heap:=h',toks:=tk }):
  wpAny (model prog w) A (call (.ref C) [v]) Q E s:=by
 refine X.cls w _ fun nm q N bs sn sub ab col dd k0 k1 k2 k3 k5 lC oN iN1 iN2 iN3 iN4=>X.sup w _ fun c0 dM cd sl lM oM iM1 iM2 iM3 iM4=>X.fn.there w _ fun oc od name qual params dV kV doc pm an cdv ct osl ho hcd hbind=>?_
 obtain⟨h,g,d,t,os⟩:=s
 have F:=PySem.F.excBase_Exception
 have hX:(K w).In h:=fun a o q=>kb a o (kX a o q)
 have hnN:h.Ns N (h.nsMap N):=.of_isNs (isNs_of_in hX oN)
 have hnM:h.Ns cd.ns (h.nsMap cd.ns):=.of_isNs (isNs_of_in hX oM)
 have hfc:=X.fcls w _ ho
 refine Pf (bmB:=bmE) F (v9 Mb) (hX _ _ lC) hnN (nsMap_none_of_in hX oN iN1) (hX _ _ lM) hnM (GS hX hnM iM1) (hX _ _ ho) hfc (fun h1 e hm=>?_) (by rw[sizeLine_eq];simp)
 have hX1:(K w).In h1:=fun a o q=>hm.keeps a o (hX a o q)
 refine wpAny_call (codeAny_call_def (fd:=fnOf name qual params (initBody p1 p2 p3 p4 p5 p6 p7 p8 p9 p10 p11 p12 p13 p14) scope dV kV doc pm an cdv ct) (body:=initBody p1 p2 p3 p4 p5 p6 p7 p8 p9 p10 p11 p12 p13 p14) (binds:=([("self":Str),"what","at"]).zip ([.ref e,v]++[.none])) (by show A.depth+1<recursionLimit;omega) (hX1 _ _ ho) rfl ((T.nolimit.keeps kb).keeps hm.keeps) (codeRec_of hX1 hcd) rfl
  (hbind ⟨h1,g,d,t,os⟩ [.ref e,v] hX1 rfl) X.fn.cell (fun y hy=>X.fn.loc y.1 (List.of_mem_zip hy).1) (fun h2 hns hk=>?_) X.fn.co X.fn.gen X.fn.kind)
 have hL:h1.get? h1.objs.size=none:=Heap.get?_none_of_le (Nat.le_refl _)
 have low:∀ a o,h.get? a=some o→a<h1.objs.size:=fun a o q=>Heap.lt_size (hm.keeps _ _ q)
 have eL:h1.objs.size≠e:=by
  obtain⟨t1,q,_⟩:=hm.there
  exact Nat.ne_of_gt (Heap.lt_size q)
 have k02:∀ a o,h.get? a=some o→h2.get? a=some o:=fun a o q=>hk _ _ (hm.keeps _ _ q)
 have hns':h2.Ns h1.objs.size (fun y=>if y="at" then some .none else if y="what" then some v else if y="self" then some (.ref e)else none):=Eq.mp (congrArg (Heap.Ns h2 h1.objs.size) (funext (Vt (.ref e) v .none))) hns
 have l1:=X.fn.loc "self" (.head _)
 have l2:=X.fn.loc "what" (.tail _ (.head _))
 have l3:=X.fn.loc "at" (.tail _ (.tail _ (.head _)))
 have hXX:(K w).In h1:=hX1
 suffices key:∀ (A':Around) (E':Value→Shared→Prop) (Q':Flow→Shared→Prop),(∀ h5 tk mA,ExcAt h C e h1.objs.size mA (fun y=>if y="at" then some .none else if y="what" then some v else if y="self" then some (.ref e)else none) h5→Q' .next ⟨h5,g,d,tk,os⟩)→wpAny (model prog w) A' (execs (initBody p1 p2 p3 p4 p5 p6 p7 p8 p9 p10 p11 p12 p13 p14) (envG qual scope h1.objs.size (some fI) cdv (some h1.objs.size) [])) Q' E' _ from
  key _ _ _ fun h5 tk mA X5=>⟨rfl,X5.obj _ fun oe vs t0 b1 b2 b3 b4 b5 _=>hQ e h5 _ oe vs t0 X5.keep hm.new ((X5.keep _ _ (hX _ _ lC)).trans (hX _ _ lC).symm) b1 b2 b3 b4 b5⟩
 intro A' E' Q' hQ'
 refine wpAny_execs_cons (wpAny_Expr_any ?_ (X.inter _ _ _ _ _ _) (X.sw1 _))
 obtain⟨pl,hsh⟩:=X.shape qual h1.objs.size (some fI) cdv (some h1.objs.size) []
 refine MethodCall_ (pl:=pl) (Name_function_global X.fn.kind X.glob.kind (loadGlobal_builtin (env:=envG qual scope h1.objs.size (some fI) cdv (some h1.objs.size) []) ((T.g.keeps kb).keeps k02) (mg_none_of kX T.g (X.glob.at_ w)) ((T.b.keeps kb).keeps k02) ((T.builtins _ X.glob.nn).trans X.glob.boot) ?_) X.glob.nodebug) hsh
 refine method_type (h₀:=h1) (L:=h1.objs.size) (m:=_) ⟨hns',hk,Nat.le_refl _⟩ hXX (T:="Exception") (v:=.builtin "Exception.__init__") rfl (by decide +kernel) zT rfl ?_
 refine gx (.inl ⟨_,rfl⟩) rfl rfl (args_cons (oO X.fn.kind l1 hns' rfl (args_cons (oO X.fn.kind l2 hns' rfl (args_nil ?_) (by decide))) (by decide)))
 obtain⟨t0,q1,q2,q3⟩:=hm.there
 have q1':=hk _ _ q1
 have hC2:=k02 _ _ (hX _ _ lC)
 refine B5 F (v9 Mb) hC2 q1' rfl rfl rfl ?_ (by rw[sizeLine_eq];simp)
 let oT:Obj:={ cls:=.type "tuple",data:=.seq [v].toArray }
 let h3:Heap:=(h2.push oT).update e (Obj.mapFields (·.setIfInBounds 0 (.ref h2.objs.size)))
 have q1'':=Heap.get?_push_of_some (h:=h2) oT q1'
 have hE3:h3.get? e=some (Obj.mapFields (·.setIfInBounds 0 (.ref h2.objs.size)) _):=Heap.get?_update_self _ q1'' (Obj.isFreed_of_fields (Obj.data_mapFields rfl _))
 have k03:∀ a o,h.get? a=some o→h3.get? a=some o:=fun a o q=>by
  refine(Heap.get?_update_ne _ _ _ _ fun z=>?_).trans (Heap.get?_push_of_some _ (k02 _ _ q))
  rw[z,hm.new]at q;cases q
 have nL:h.get? h1.objs.size=none:=by
  cases z:h.get? h1.objs.size with
  | none=>rfl
  | some o=>exact absurd (low _ _ z) (Nat.lt_irrefl _)
 have X3:ExcAt h C e h1.objs.size (fun _=>none) (fun y=>if y="at" then some .none else if y="what" then some v else if y="self" then some (.ref e)else none) h3:=by
  refine⟨k03,hm.new,nL,eL,?_,⟨_,hE3,rfl,fun c z=>(by cases z),.inl ⟨rfl,fun _=>rfl⟩⟩,fun G k=>k _ _ _ hE3 rfl rfl rfl rfl fun dx z=>(by cases z)⟩
  obtain⟨oL,es,ep,c1,c2⟩:=hns'
  exact⟨oL,es,ep,(Heap.get?_update_ne _ _ _ _ eL).trans (Heap.get?_push_of_some _ c1),c2⟩
 show wpAny _ _ (execs [_,_] (envG qual scope h1.objs.size (some fI) cdv (some h1.objs.size) [])) _ _ ⟨h3,g,d,_,os⟩
 have next:∀ {h3:Heap}{mA},ExcAt h C e h1.objs.size mA (fun y=>if y="at" then some .none else if y="what" then some v else if y="self" then some (.ref e)else none) h3→
   h3.get? C=some (excClassObj nm q C N bs (.ref Mb::bmE) true sn sub ab col dd k0 k1 k2 k3 k5 "Exception.__new__")∧h3.Ns N (h.nsMap N)∧h3.get? Mb=some { cls:=c0,dict:=dM,data:=.cls cd,slots:=sl }∧h3.Ns cd.ns (h.nsMap cd.ns):=fun Z=>
  ⟨Z.keep _ _ (hX _ _ lC),hnN.keeps Z.keep,Z.keep _ _ (hX _ _ lM),hnM.keeps Z.keep⟩
 obtain⟨a1,a2,a3,a4⟩:=next X3
 refine wpAny_execs_cons (plainObj_wpAny_Assign_Attribute (oO X.fn.kind l2 X3.ns rfl (oO X.fn.kind l1 X3.ns rfl ?_ (by decide)) (by decide)) (X.sw2 _))
 refine qp (ns:=[]) PySem.F.store_Exception a1 a2 (nsMap_none_of_in hX oN iN2) (nsMap_none_of_in hX oN iN3) a3 a4 (nsMap_none_of_in hX oM iM2) (nsMap_none_of_in hX oM iM3) Pg X3.inst (fun h4 t4 I4 kk4 ss4=>?_) Within.nil (by simp)
 have X4:=X3.store I4 kk4 ss4
 obtain⟨a1,a2,a3,a4⟩:=next X4
 refine wpAny_execs_cons (plainObj_wpAny_Assign_Attribute (oO X.fn.kind l3 X4.ns rfl (oO X.fn.kind l1 X4.ns rfl ?_ (by decide)) (by decide)) (X.sw3 _))
 refine qp (ns:=["what"]) PySem.F.store_Exception a1 a2 (nsMap_none_of_in hX oN iN2) (nsMap_none_of_in hX oN iN4) a3 a4 (nsMap_none_of_in hX oM iM2) (nsMap_none_of_in hX oM iM4) Vu X4.inst (fun h5 t5 I5 kk5 ss5=>?_) (Within.nil.cons _ _) (by simp)
 have X5:=X4.store I5 kk5 ss5
 exact wpAny_execs_nil (hQ' h5 _ _ X5)
end
section
variable {prog:Program}{K:World→Frag}{D:Nat}{cs:Scope}
variable {C Mb fI:Addr}{scope:Scope}{p1 p2 p3 p4 p5 p6 p7 p8 p9 p10 p11 p12 p13 p14:Pos}
theorem zq {c:Act}{h h':Heap}(hk:∀ b o,h.get? b=some o→h'.get? b=some o) (as:List Addr):∀ {l:List Env},
  (∀ e∈l,e.scope.kind≠.module∧∃ a o,e.frame=some a∧a∈as∧h.get? a=some o∧∀ vs,o.data≠.fields vs)→h'.FunFrames (hideAll h as) l
 | [],_=>trivial
 | e::l,H=>by
  obtain⟨h1,a,o,h2,h3,h4,h5⟩:=H e (.head _)
  exact⟨h1,⟨a,o,h2,hideAll_none _ h3,hk _ _ h4,h5⟩,zq (c:=c) hk as fun x hx=>H x (.tail _ hx)⟩
theorem Rel.thrown {c:Act}{h h':Heap}{m:Str→Option Value}{W:aV}{σ:S}{C e t0:Addr}{oe:Obj}{vs:Array Value}(R:Rel c h m W σ) (hk:∀ b o,h.get? b=some o→h'.get? b=some o) (hn:h.get? e=none)
  (he:h'.get? e=some oe) (hc:oe.cls=.ref C) (hd:oe.data=.fields vs) (h1:vs[1]?=some .none) (h0:vs[0]?=some (.ref t0)):dE c W C e h':=by
 have hb:c.b.get? c.L=none:=by
  cases q:c.b.get? c.L with
  | none=>rfl
  | some o=>exact absurd (Heap.lt_size q) (Nat.not_lt.mpr R.F.above)
 obtain⟨oL,esL,epL,hL,hLd,hLk⟩:=id R.F.ns
 have hfr:∀ x∈c.stk,x.scope.kind≠.module∧∃ a o,x.frame=some a∧a∈c.stk.filterMap (·.frame)∧h.get? a=some o∧∀ vs,o.data≠.fields vs:=fun x hx=>by
  obtain⟨a1,a,a2,a3⟩:=R.stk x hx
  refine⟨a1,a,?_⟩
  have hm:a∈c.stk.filterMap (·.frame):=List.mem_filterMap.mpr ⟨x,hx,a2⟩
  rcases a3 with rfl | a3
  ·exact⟨oL,a2,hm,hL,fun vs z=>by rw[hLd]at z;cases z⟩
  ·obtain⟨p,hp,rfl⟩:=List.mem_map.mp (R.fra a a3)
   exact⟨p.2,a2,hm,(R.N p hp).1,R.frd p hp a3⟩
 have as:∀ a∈c.stk.filterMap (·.frame),a=c.L∨a∈W.frs:=fun a ha=>by
  obtain⟨x,hx,hf⟩:=List.mem_filterMap.mp ha
  obtain⟨_,a',a2,a3⟩:=R.stk x hx
  rw[a2]at hf
  cases hf
  exact a3
 refine⟨hideAll h (c.stk.filterMap (·.frame)),.ref t0,fun b o q=>hideAll_get _ (R.F.keep _ _ q) fun hm=>?_,fun p hp ha hf=>hideAll_get _ (R.N p hp).1 fun hm=>?_,⟨fun b o q=>hk _ _ (of_hideAll _ q),?_,zq (c:=c) hk _ hfr,.inr ⟨oe,vs,he,hc,hd,h1,h0⟩⟩,⟨m,oL,esL,epL,hk _ _ hL,hLd,hLk⟩,fun p hp hf ha=>⟨p.2.slots,hk _ _ (R.N p hp).1⟩⟩
 ·rcases as b hm with rfl | z
  ·rw[hb]at q;cases q
  ·obtain⟨p,hp,rfl⟩:=List.mem_map.mp (R.fra b z)
   rw[(R.N p hp).2.2]at q;cases q
 ·rcases as _ hm with z | z
  ·exact(R.N p hp).2.1 z
  ·exact hf z
 ·cases z:(hideAll h (c.stk.filterMap (·.frame))).get? e with
  | none=>rfl
  | some o=>rw[of_hideAll _ z]at hn;cases hn
theorem GT {M:Model}{A:Around}{E:Value→Shared→Prop}{env:Env}{nm q:Str}{N:Addr}{bs bm:List Value}{hdct:Bool}{sn:List Str}{sub:List Value}{ab:Bool}{col:Option Bool}{dd:Option Addr}{k0 k1 k2 k3 k5:Option Value}{newId:String}
  {s:Shared}{x:Sem Value}{Q:Flow→Shared→Prop}(hbase:bm.contains (.type "BaseException")=true) (hh:A.handled=none)
  (h:wpAny M A x (fun v s₁=>∃ e oe,v=.ref e∧s₁.heap.get? C=some (excClassObj nm q C N bs bm hdct sn sub ab col dd k0 k1 k2 k3 k5 newId)∧
   s₁.heap.get? e=some oe∧oe.cls=.ref C∧(∃ vs,oe.data=.fields vs∧vs[1]?=some .none)∧E (.ref e) s₁) E s):
  wpAny M A (raiseStmt env (some x) none) Q E s:=by
 have hcB:(Value.ref C::bm).contains (.type "BaseException")=true:=by rw[List.contains_cons,hbase,Bool.or_true]
 unfold raiseStmt
 refine wpAny_bind (wpAny_mono h (fun v s₁ h₁=>?_) fun _ _ x=>x)
 obtain⟨e,⟨oc,od,odt,osl⟩,rfl,hC,he,hcls,⟨vs,hvs,hv1⟩,hE⟩:=h₁
 dsimp only at hcls hvs
 subst hcls hvs
 obtain⟨hp,g,d,tk,os⟩:=s₁
 repeat (first | with_reducible refine wpAny_loadPart_at he ?_ | with_reducible refine wpAny_loadPart_at hC ?_ | (with_reducible refine wpAny_isSubtype_exc hC ?_;rw[hcB]) | wp_step)
 rw[hv1]
 refine wpAny_pure ?_
 rw[if_neg (by decide)]
 exact wpAny_pure (wpAny_raiseNew_none hh hE)
def GU (K:World→Frag) (C Mb fI:Addr) (scope:Scope):Prop:=∀ G:Prop,(∀ p1 p2 p3 p4 p5 p6 p7 p8 p9 p10 p11 p12 p13 p14,QT K C Mb fI scope p1 p2 p3 p4 p5 p6 p7 p8 p9 p10 p11 p12 p13 p14→G)→G
noncomputable def B6 (C:Addr):W2:=fun _=>.exc C
theorem B7 (e:PySem.Expr) (env:Env):evalOpt (some e) env=some (eval e env):=by rfl
theorem GV (env:Env):evalOpt Option.none env=Option.none:=by rfl
theorem QU {x px cp p e1 wa}(X:GU K C Mb fI scope) (hx:Glob K cs x (.ref C)) (hk:∀ w,keepIn (K w) (.ref C)=true) (ha:JE prog K D cs e1 wa) (hw:∃ y,wa=fun σ=>.ok y σ) (he:∀ env,starEach [e1] env=(false,eval e1 env)::starEach [] env) (hD:2≤D):
  JX prog K D cs (.Raise (some (.Call (.Name x px) [e1] [] cp)) none p) (B6 C):=fun c A rm fr k s m W σ R Q E hp=>by
 refine X _ fun p1 p2 p3 p4 p5 p6 p7 p8 p9 p10 p11 p12 p13 p14 X=>X.cls c.w _ fun nm q N bs sn sub ab col dd k0 k1 k2 k3 k5 lC _ _ _ _ _=>k.top fun p' loose' mg mb T=>?_
 obtain⟨y,hy⟩:=hw
 have hC:=(k.X.keeps R.F.keep) _ _ lC
 have hp':∀ e h' tk,dE c W C e h'→E (.ref e) { s with heap:=h',toks:=tk }:=hp
 rw[arm_exec_Raise]
 rw[B7,GV]
 simp only[Option.map]
 refine wpAny_bind (wpAny_standAt (GT (bm:=.ref Mb::bmE) (C:=C) (nm:=nm) (q:=q) (N:=N) (bs:=bs) (hdct:=true) (sn:=sn) (sub:=sub) (ab:=ab) (col:=col) (dd:=dd) (k0:=k0) (k1:=k1) (k2:=k2) (k3:=k3) (k5:=k5) (newId:="Exception.__new__") (v9 Mb).hasBase rm.handled ?_))
 refine wpAny_bind (wpAny_mono (Call_ (oz hx fr k R ?_)) (fun v s₃ h₃=>wpAny_bind (wpAny_standAt (wpAny_pure h₃))) fun _ _ x=>x)
 refine callWith_K k.X (hk c.w) (spliced_more (ha c A rm fr k s m W σ R _ E ?_) (he _)) (he _) rfl
 rw[hy]
 intro v h1 tk1 m1 W1 R1 X1 ra
 refine args_nil ⟨k.X.keeps R1.F.keep,?_⟩
 refine LY X (b:=c.b) k.X T R1.F.keep (by have:=rm.depth;omega) fun e h' tk oe vs t0 a1 a2 a3 a4 a5 a6 a7 a8=>?_
 exact⟨e,oe,rfl,a3.trans ((k.X.keeps R1.F.keep) _ _ lC),a4,a5,⟨vs,a6,a7⟩,hp' e h' tk ((R1.thrown a1 a2 a4 a5 a6 a7 a8).ext X1)⟩
end
section
variable {prog:Program}{K:World→Frag}{D:Nat}{cs:Scope}
variable {C Mb fI:Addr}{scope:Scope}{p1 p2 p3 p4 p5 p6 p7 p8 p9 p10 p11 p12 p13 p14:Pos}
theorem DU {M:Model}{A:Around}{E:Value→Shared→Prop}{s:Shared}{B:Heap}{env:Env}{outer:List Env}{L e:Addr}{cls a0:Value}{Q:Unit→Shared→Prop}
  (hfr:A.frames=some (env::outer)) (hf:env.frame=some L) (hfl:th B (env::outer) e cls a0 s.heap)
  (hQ:∀ h',Heap.HeldW B (env::outer) e cls a0 L h'→s.heap.UpToSlots h'→Q () { s with heap:=h' }):wpAny M A (noteFrame (.ref e) env) Q E s:=by
 obtain⟨f1,f2,f3,f4 | ⟨oe,vs,g1,g2,g3,g4,g5⟩⟩:=hfl
 ·exact wpAny_looks_onW hfr hf ⟨f1,f2,f3,f4⟩ hQ
 ·subst g2
  unfold noteFrame
  simp only[hf]
  refine wpAny_bind (wpAny_field g1 g3 g4 ?_)
  rw[if_neg (by decide)]
  refine wpAny_entryW hfr f3 hf g1 f1 f2 g3 (Array.getElem?_eq_some_iff.mp g4).1 g5 fun h' hN=>?_
  obtain⟨k1,k2,k3,k4⟩:=hN
  exact hQ h' ⟨k1,f2,k2,k3⟩ k4
theorem Rel.caught {c:Act}{h h6:Heap}{m m':Str→Option Value}{W:aV}{σ:S}{B:Heap}(R:Rel c h m W σ) (he:σ.st=[]) (hB:c.b.StaysIn B) (hnw:∀ p∈W.nw,p.1∉W.frs→B.get? p.1=some p.2)
  (st:B.StaysIn h6) (hns:h6.Ns c.L m') (hfr:∀ p∈W.nw,p.1∈W.frs→∃ sl,h6.get? p.1=some { p.2 with slots:=sl }):
  ∃ W',Rel c h6 m' W' ⟨σ.env.map fun _=>.unb,[]⟩∧aJ W W':=by
 have hrho:W.rho=[]:=List.length_eq_zero_iff.mp (R.len.trans (by rw[he];rfl))
 have FP:∀ p∈W.nw,∃ o,h6.get? p.1=some o∧(p.1∉W.frs→o=p.2)∧(p.1∈W.frs→∃ sl,o={ p.2 with slots:=sl }):=fun p hp=>by
  by_cases hf:p.1∈W.frs
  ·obtain⟨sl,q⟩:=hfr p hp hf
   exact⟨_,q,fun n=>absurd hf n,fun _=>⟨sl,rfl⟩⟩
  ·exact⟨_,st _ _ (hnw p hp hf),fun _=>rfl,fun n=>absurd n hf⟩
 let nw':Led:=W.nw.map fun p=>(p.1,(h6.get? p.1).getD p.2)
 have keys:nw'.map (·.1)=W.nw.map (·.1):=by simp[nw',Function.comp_def]
 have same:∀ p∈W.nw,p.1∉W.frs→p∈nw':=fun p hp hf=>by
  obtain⟨o,q,q2,_⟩:=FP p hp
  refine List.mem_map.mpr ⟨p,hp,?_⟩
  rw[q,Option.getD_some,q2 hf]
 refine⟨⟨nw',W.fz,[],W.frs⟩,⟨⟨hns,fun b o q=>st _ _ (hB b o q),R.F.above⟩,fun p hp=>?_,keys.symm▸R.nd,fun p hp=>same p (R.fz p hp) (R.ffr p hp),fun q hq=>by simp at hq,.nil,fun q hq=>by simp at hq,R.ffr,
  fun a ha=>keys.symm▸R.fra a ha,fun p hp hf vs=>?_,rfl,fun k o h=>by simp at h,by simpa using R.elen,fun i n v _ hv=>.inl ?_,fun i n v _ hv=>.inl ?_,R.stk⟩,
  fun p hp=>hp,fun k q h=>(by rw[hrho]at h;simp at h),fun a ha=>keys.symm▸ha,fun q hq=>by simp at hq,fun p hp _ hf=>same p hp hf,rfl,fun p hp hf _=>?_,fun p hp=>.inl hp⟩
 ·obtain⟨p',hp',rfl⟩:=List.mem_map.mp hp
  obtain⟨o,q,_⟩:=FP p' hp'
  refine⟨?_,(R.N p' hp').2⟩
  show h6.get? p'.1=some ((h6.get? p'.1).getD p'.2)
  rw[q];rfl
 ·obtain⟨p',hp',rfl⟩:=List.mem_map.mp hp
  obtain⟨o,q,_,q3⟩:=FP p' hp'
  obtain⟨sl,rfl⟩:=q3 hf
  show((h6.get? p'.1).getD p'.2).data≠_
  rw[q]
  exact R.frd p' hp' hf vs
 ·dsimp only at hv
  rw[List.getElem?_map]at hv
  cases z:σ.env[i]? <;> rw[z]at hv <;> simp at hv
  exact hv.symm
 ·dsimp only at hv
  rw[List.getElem?_map]at hv
  cases z:σ.env[c.ns.length+i]? <;> rw[z]at hv <;> simp at hv
  exact hv.symm
 ·obtain⟨o,q,_,q3⟩:=FP p hp
  obtain⟨sl,rfl⟩:=q3 hf
  refine⟨sl,List.mem_map.mpr ⟨p,hp,?_⟩⟩
  rw[q];rfl
noncomputable def yj (C:Addr) (a:W2):W2:=fun σ=>match a σ with
 | .ok f σ'=>.ok f σ'
 | .exc C'=>if C'=C∧σ.st.isEmpty=true then .ok (.ret .none) ⟨σ.env.map fun _=>.unb,[]⟩else .no
 | .no=>.no
theorem M7 {x px b p k kp rp hp wb}(X:GU K C Mb fI scope) (hx:Glob K cs x (.ref C)) (hb:JS prog K D cs b wb):
  MV prog K D cs [.Try b [.ExceptHandler (some (.Name x px)) none [.Return (some (.Constant .none k kp)) rp] hp] [] [] p] (yj C wb):=fun c A rm fr kk top s m W σ R Q E hq=>by
 obtain⟨outer,hstk,hfrm⟩:=top
 refine X _ fun p1 p2 p3 p4 p5 p6 p7 p8 p9 p10 p11 p12 p13 p14 X=>X.cls c.w _ fun nm q N bs sn sub ab col dd k0 k1 k2 k3 k5 lC _ _ _ _ _=>kk.top fun p' loose' mg mb T=>?_
 have hA:A.frames=some (c.env::outer):=hstk▸rm.frames
 refine wpAny_execs_cons (wpAny_Try_except (hb c A rm fr kk s m W σ R _ _ ?_))
 unfold yj at hq
 cases hw:wb σ with
 | no=>rw[hw]at hq;exact hq.elim
 | ok f σ'=>
  rw[hw]at hq
  intro fv h' tk m' W' R' X' hf
  have:=hq fv h' tk m' W' R' X' hf
  cases hf with
  | next=>exact wpAny_execs_nil (wpAny_execs_nil this)
  | ret hv=>exact this
  | brk=>exact this
  | cont=>exact this
 | exc C'=>
  rw[hw]at hq
  dsimp only at hq
  by_cases hc:C'=C∧σ.st.isEmpty=true
  case neg=>rw[if_neg hc]at hq;exact hq.elim
  rw[if_pos hc]at hq
  obtain⟨rfl,hemp⟩:=hc
  have hst:σ.st=[]:=List.isEmpty_iff.mp hemp
  have hrho:W.rho=[]:=List.length_eq_zero_iff.mp (R.len.trans (by rw[hst];rfl))
  have noq:∀ p:Addr×Obj,∀ z∈W.rho,p.1≠z.2:=fun p z hz=>by rw[hrho]at hz;simp at hz
  intro e h1 tk1 hT
  refine hT.k fun B a0 hB hnw hal hm1 hfr1=>hm1.elim fun m1 hns1=>?_
  rw[hstk]at hal
  refine DU hA hfrm hal fun h4 hheld4 up4=>?_
  refine wpAny_landsW hheld4 fun h5 hfl5 up5=>?_
  obtain⟨f1,f2,f3,f4⟩:=id hfl5
  obtain⟨ob,hob,hobc⟩:=hfl5.there
  have b5:∀ a o,c.b.get? a=some o→h5.get? a=some o:=fun a o q=>f1 _ _ (hB a o q)
  refine wpAny_handleBy_cons (codeAny_handlers_test ?_) (by intro z;cases z)
  obtain⟨qn,fn,ccd,frr,ee⟩:=fr.env
  have hname:∀ {A':Around}{E':Value→Shared→Prop}{Q':Value→Shared→Prop}{s':Shared},s'.heap=h5→Q' (.ref C') s'→wpAny (model prog c.w) A' (eval (.Name x px) c.env) Q' E' s':=fun hs hq'=>by
   rw[ee]
   exact Name_function_global fr.kind hx.kind (loadGlobal_global (env:=envG qn cs c.L fn ccd frr c.cl) (hs▸T.g.keeps b5) (mg_of kk.X T.g (hx.at_ c.w)) hq') hx.nodebug
  refine hname rfl ?_
  refine wpAny_excMatches_sub_self (b5 _ _ (kk.X _ _ lC)) hob hobc (v9 Mb).hasBase ?_
  rw[if_pos rfl]
  refine codeAny_handlers_suite (lands_againW hfl5 fun h6 hfl6 up6=>?_)
  have up:h1.UpToSlots h6:=(up4.trans up5).trans up6
  obtain⟨W',R',X'⟩:=R.caught (m':=m1) hst hB (fun p hp hf=>hnw p hp (noq p) hf) hfl6.1 (up.ns hns1) (fun p hp hf=>by
   obtain⟨sl,hsl⟩:=hfr1 p hp hf (noq p)
   obtain⟨sl',hsl'⟩:=up _ _ hsl (R.frd p hp hf)
   exact⟨sl',hsl'⟩)
  have:=hq (.ret .none) h6 tk1 m1 W' R' X' (.ret .none)
  exact wpAny_execs_cons (wpAny_Return_some (Constant_none this))
end
section
noncomputable def kvOf (e:DictEntry):Value×Value:=(e.key,e.val)
inductive mj:Obj→Obj→Prop
 | dict {c d es n es' n' sl}:es.toList.map kvOf=es'.toList.map kvOf→mj ⟨c,d,.dict es n,sl⟩ ⟨c,d,.dict es' n',sl⟩
 | refl (o):mj o o
inductive ec:Frag→Frag→Prop
 | nil:ec [] []
 | cons {a o o' K K'}:mj o o'→ec K K'→ec ((a,o)::K) ((a,o')::K')
theorem ec.look {a:Addr}:∀ {K K':Frag},ec K K'→(K.lookup a=none∧K'.lookup a=none)∨∃ o o',K.lookup a=some o∧K'.lookup a=some o'∧mj o o'
 | _,_,.nil=>.inl ⟨rfl,rfl⟩
 | _,_,.cons (a:=b) ho h=>by
  simp only[List.lookup]
  cases q:a==b with
  | true=>exact .inr ⟨_,_,rfl,rfl,ho⟩
  | false=>exact h.look
theorem E3 {name:Str}:∀ {l l':List DictEntry},l.map kvOf=l'.map kvOf→(l.find? (·.key.isStr name)).map (·.val)=(l'.find? (·.key.isStr name)).map (·.val)∧l.any (·.refKey)=l'.any (·.refKey)
 | [],[],_=>⟨rfl,rfl⟩
 | [],_::_,h=>by simp at h
 | _::_,[],h=>by simp at h
 | e::l,e'::l',h=>by
  simp only[List.map_cons,List.cons.injEq,kvOf,Prod.mk.injEq]at h
  obtain⟨⟨h1,h2⟩,h3⟩:=h
  have ih:=E3 (name:=name) h3
  simp only[List.find?_cons,List.any_cons,DictEntry.refKey,h1]
  refine⟨?_,by have:=ih.2;simp only[DictEntry.refKey]at this;rw[this]⟩
  split
  ·simp[h2]
  ·exact ih.1
noncomputable def GW (l:List DictEntry) (name:Str):Option (Option Value):=match l.find? (·.key.isStr name)with
 | some e=>some (some e.val)
 | none=>if l.any (·.refKey)then none else some none
theorem LZ {l l':List DictEntry}{name:Str}(h:l.map kvOf=l'.map kvOf):GW l name=GW l' name:=by
 obtain⟨e1,e2⟩:=E3 (name:=name) h
 unfold GW
 rw[e2]
 revert e1
 cases l.find? (·.key.isStr name) <;> cases l'.find? (·.key.isStr name) <;> intro e1
 ·rfl
 ·cases e1
 ·cases e1
 ·exact congrArg some e1
variable {K K':Frag}(x:ec K K')
include x
theorem ec.nsIn (ns:Addr) (name:Str):nsIn K ns name=nsIn K' ns name:=by
 unfold PySem.W.nsIn
 rcases x.look (a:=ns)with⟨h1,h2⟩ | ⟨o,o',h1,h2,h⟩
 ·rw[h1,h2]
 ·rw[h1,h2]
  cases h with
  | refl=>rfl
  | dict he=>
   exact LZ he
theorem ec.cls {α:Type}(a:Addr) (f:ClassData→Array (Option Value)→α) (g:α):(match K.lookup a with | some ⟨_,_,.cls cd,sl⟩=>f cd sl | _=>g)=(match K'.lookup a with | some ⟨_,_,.cls cd,sl⟩=>f cd sl | _=>g):=by
 rcases x.look (a:=a)with⟨h1,h2⟩ | ⟨o,o',h1,h2,h⟩
 ·rw[h1,h2]
 ·rw[h1,h2]
  cases h <;> rfl
theorem ec.ownIn (name:Str) (v:Value):ownIn K name v=ownIn K' name v:=by
 unfold PySem.W.ownIn
 cases v <;> try rfl
 exact(x.cls _ (fun cd _=>PySem.W.nsIn K cd.ns name) none).trans (by simp only[x.nsIn];rfl)
theorem ec.alongIn (name:Str) (l:List Value):alongIn K name l=alongIn K' name l:=by
 induction l with
 | nil=>rfl
 | cons c r ih=>simp only[PySem.W.alongIn,x.ownIn,ih]
theorem ec.findIn (t:Value) (name:Str):findIn K t name=findIn K' t name:=by
 unfold PySem.W.findIn
 cases t <;> try rfl
 exact(x.cls _ (fun cd _=>PySem.W.alongIn K name cd.mro) none).trans (by simp only[x.alongIn];rfl)
theorem ec.typeIn (v:Value):typeIn K v=typeIn K' v:=by
 unfold PySem.W.typeIn
 cases v <;> try rfl
 rename_i a
 dsimp only
 rcases x.look (a:=a)with⟨h1,h2⟩ | ⟨o,o',h1,h2,h⟩
 ·rw[h1,h2]
 ·rw[h1,h2]
  cases h <;> rfl
theorem ec.specialIn (v:Value) (name:Str):specialIn K v name=specialIn K' v name:=by
 unfold PySem.W.specialIn
 rw[x.typeIn];simp only[x.findIn]
theorem ec.takesIn (v:Value):takesIn K v=takesIn K' v:=by
 unfold PySem.W.takesIn
 simp only[x.specialIn]
theorem ec.clsIn (C:Addr):clsIn K C=clsIn K' C:=x.cls C (fun cd _=>some cd) none
theorem ec.mroIn (C:Addr) (b:Value):mroIn K C b=mroIn K' C b:=by
 unfold PySem.W.mroIn
 rw[x.clsIn]
theorem ec.subIn (t b:Value):subIn K t b=subIn K' t b:=by
 unfold PySem.W.subIn
 cases t <;> try rfl
 exact x.mroIn _ _
theorem ec.instIn (t b:Value):instIn K t b=instIn K' t b:=by
 unfold PySem.W.instIn
 rw[x.typeIn];simp only[x.subIn]
theorem ec.attrCheck (C:Addr) (i:Nat):j9 K C i=j9 K' C i:=by
 unfold Mine.j9 plainGet hasDictIn
 simp only[x.findIn,x.clsIn]
theorem ec.setCheck (C:Addr) (i:Nat):lV K C i=lV K' C i:=by
 unfold Mine.lV plainOver takerIn hasDictIn
 simp only[x.findIn,x.clsIn,x.takesIn]
theorem ec.makesIn (C:Addr):makesIn K C=makesIn K' C:=by
 unfold PySem.W.makesIn
 rw[x.specialIn,x.instIn]
 exact x.cls C (fun cd sl=>_) false
theorem ec.keepIn (f:Value):keepIn K f=keepIn K' f:=by
 unfold PySem.W.keepIn
 cases f <;> try rfl
 rename_i a
 dsimp only
 rw[x.specialIn]
 rcases x.look (a:=a)with⟨h1,h2⟩ | ⟨o,o',h1,h2,h⟩
 ·rw[h1,h2]
 ·rw[h1,h2]
  cases h <;> rfl
theorem ec.isFn (f:Value):isFn K f=isFn K' f:=by unfold PySem.W.isFn;rw[x.typeIn]
theorem ec.plainGet (C:Addr) (n:Str):plainGet K C n=plainGet K' C n:=by unfold PySem.W.plainGet;simp only[x.findIn]
theorem ec.codeIn (cd:Value) (q:Str):codeIn K cd q=codeIn K' cd q:=by
 unfold PySem.W.codeIn
 cases cd <;> try rfl
 rename_i a
 dsimp only
 rcases x.look (a:=a)with⟨h1,h2⟩ | ⟨o,o',h1,h2,h⟩
 ·rw[h1,h2]
 ·rw[h1,h2]
  cases h <;> rfl
theorem ec.findCls (c mc:Value) (n:Str):findCls K c mc n=findCls K' c mc n:=by
 unfold PySem.W.findCls
 simp only[x.findIn,x.specialIn,x.takesIn,x.typeIn]
theorem ec.readsIn (C:Addr) (mc:Value):readsIn K C mc=readsIn K' C mc:=by
 unfold PySem.W.readsIn
 simp only[x.findIn,x.nsIn,x.subIn,x.typeIn]
end
noncomputable section
abbrev PW:=PySem.Challenge.pw_nz0174_01
noncomputable def PB:List PySem.Stmt:=PW.main.body
def aW (i:Nat):PySem.Stmt:=match PB[i]? with | some s=>s | _=>.Pass default
def bG (i j:Nat):PySem.Stmt:=match PB[i]? with | some (.ClassDef _ _ _ b _ _ _ _ _ _ _)=>(match b[j]? with | some s=>s | _=>.Pass default) | _=>.Pass default
abbrev nO:Value:=.none
noncomputable abbrev rF (a:Addr):Value:=.ref a
noncomputable abbrev uS (x:Str) (t:Nat):Value:=.str x t
noncomputable abbrev iN (i:Int):Value:=.int i 0
noncomputable abbrev yT (x:String):Value:=.type x
noncomputable def tP (l:List Value):Obj:=⟨.type "tuple",none,.seq ⟨l⟩ 0,#[]⟩
noncomputable def gW (l:List Value):Obj:=⟨.none,none,.fields ⟨l⟩,#[]⟩
noncomputable def bB (c:String) (l:List Value):Obj:=⟨.type c,none,.fields ⟨l⟩,#[]⟩
noncomputable def jz (a d m:Value):Obj:=⟨.type "frame",none,.plain,#[some a,some (.ref 3),some d,none,some m,none,some (.ref 0)]⟩
noncomputable def dn (P:Params) (l:List (String×Nat×Value)) (n:Nat):Obj:=⟨.type "dict",none,.dict ⟨l.map fun x=>⟨PyData.keyHash P (Str.ofString x.1),.str (Str.ofString x.1) x.2.1,x.2.2⟩⟩ n,#[]⟩
noncomputable def kc (x:Str) (bs mro:List Value) (ns:Addr) (sub:List Value) (a:Option Value) (t:Nat) (nw:String):Obj:=⟨.type "type",none,.cls { name:=x,bases:=bs,mro:=mro,ns:=ns,qualname:=x,subclasses:=sub },#[a,none,some (.str x t),some (.str x (t+8)),some (.builtin nw),some (.bool true)]⟩
noncomputable def GX:Str:="/claim/cut.py"
def jA (x:Str) (t:Nat) (l:Int) (a b:Addr):Obj:=bB "code" [.str x t,.str x (t+1),.str GX (t+2),.int l 0,.int 0 0,.int 0 0,.int 0 0,.int 0 0,.ref a,.bool false,.int 181 0,.ref b,.none,.none,.none,.none,.int (t+3) 0,.int l 0,.str GX (t+4)]
noncomputable def M8:Nat→List Str→List Value
 | _,[]=>[]
 | t,x::r=>.str x t::M8 (t+1) r
noncomputable def QV {α:Type}(s:PySem.Stmt) (z:α) (k:Str→Arguments→List PySem.Stmt→Scope→Pos→α):α:=match s with
 | .FunctionDef n a b _ _ _ sc _ _ p=>k n a b sc p
 | _=>z
def M9 (c:Value) (s:PySem.Stmt) (q:Str) (g:Addr) (m dv cd:Value):Obj:=QV s ⟨c,none,.plain,#[]⟩ fun n a b sc _=>⟨c,none,.func { name:=n,qualname:=q,params:=a,body:=.stmts b,scope:=sc,globals:=g,closure:=[],defaults:=dv,kwdefaults:=.none,pyModule:=m,code:=cd },#[]⟩
noncomputable def Wf (sc:Scope):List Str:=(sc.names.filter fun x=>match x.2 with | .local=>true | _=>false).map (·.1)
def Wg (f k t:Nat) (s:PySem.Stmt) (q:Str):Obj:=QV s (gW []) fun n a _ sc p=>
 let e:=t+3+(if k==7 then(Wf sc).length else 0)
 bB "code" [.str n t,.str q (t+1),.str GX (t+2),.int p.line 0,.int a.args.length 0,.int 0 0,.int 0 0,.int 3 0,.ref (f - (k - 1)),.bool true,.int 181 0,.ref (f - (k - 2)),.none,
  if k==7 then .ref (f - 4)else .none,if k==7 then .ref (f - 3)else .none,.ref (f - 2),.int e 0,.int p.line 0,.str GX (e+1)]
def G7 (f t:Nat) (s:PySem.Stmt) (q:Str) (m dv:Value):List Obj:=[tP [],gW [],tP (M8 (t+3) (QV s [] fun _ _ _ sc _=>Wf sc)),tP [],M9 .none s q 0 .none .none .none,Wg f 7 t s q,M9 (.type "function") s q 3 m dv (.ref (f - 1))]
def G5 (f t:Nat) (s:PySem.Stmt) (q:Str) (m dv:Value):List Obj:=[tP [],gW [],M9 .none s q 0 .none .none .none,Wg f 5 t s q,M9 (.type "function") s q 3 m dv (.ref (f - 1))]
noncomputable def aB (i:Nat):Value:=match[(Str.ofString "__main__",164),(Str.ofString "octetmint.basics",194),(Str.ofString "octetmint.forms",351),(Str.ofString "octetmint.operands",513),(Str.ofString "octetmint.registers",852),(Str.ofString "octetmint.modrm",977),(Str.ofString "octetmint.prefixes",1057),(Str.ofString "octetmint.decoder",1204),(Str.ofString "octetmint.printer",1505),(Str.ofString "octetmint.sweep",1688),(Str.ofString "octetmint.arith",1809),(Str.ofString "octetmint.flow",1846),(Str.ofString "octetmint.iset",1869),(Str.ofString "law_nz0174_01",1971)][i]? with | some x=>.str x.1 x.2 | _=>.none
def Wh (k:Nat):Obj:=kc "MintError" [yT "Exception"] [rF 46,yT "Exception",yT "BaseException",yT "object"] 45 ([rF 59,rF 71,rF 83].take k) (some (rF 22)) 198 "Exception.__new__"
def QW (k:Nat):Obj:=kc "Operand" [yT "object"] [rF 311,yT "object"] 310 ([rF 346,rF 380,rF 421,rF 474].take k) none 515 "object.__new__"
def Wi (P:Params):Obj:={ dn P [("type.__subclasses__.Exception.0",232,iN 46),("type.__subclasses__.Exception.n",233,iN 1)] 2 with cls:=.none }
def ZL:List (String×Nat×Value):=[("__doc__",166,nO),("__package__",167,nO),("__loader__",168,.builtin "__main__.__loader__#opaque"),("__spec__",169,nO),("__annotations__",170,rF 6),("__builtins__",171,rF 4),("__file__",173,uS "/claim/cut.py" 172),("__cached__",174,nO),("_wall",193,rF 21),("FIGURES",197,uS "0123456789abcdef" 196),("MintError",235,rF 46),("OperandError",251,rF 59),("EncodeError",267,rF 71),("DecodeError",283,rF 83),("mask",290,rF 92),("wrap",298,rF 99),("signed",307,rF 106),("fits_signed",316,rF 113),("from_little",326,rF 120),("from_little_signed",333,rF 127),("figures_of",343,rF 134),("hex_text",350,rF 141),("CONDITIONS",354,uS "o no b ae e ne be a s ns p np l ge le g" 353),("LOCKED",356,uS "add adc and or sbb sub xor inc dec neg not xchg xadd cmpxchg bts btr btc" 355),("MOVED",358,uS "movsb movsw movsd movsq stosb stosw stosd stosq lodsb lodsw lodsd lodsq" 357),("COMPARED",360,uS "cmpsb cmpsw cmpsd cmpsq scasb scasw scasd scasq" 359),("condition_names",366,rF 148),("is_fixed",373,rF 155),("is_immediate",380,rF 162),("is_relative",387,rF 169),("takes_memory",394,rF 176),("kind_size",401,rF 183),("kind_width",408,rF 190),("slot_of",415,rF 197),("Form",498,rF 255),("can_lock",505,rF 266),("repeats",512,rF 273),("Operand",564,rF 311),("Reg",603,rF 346),("Imm",645,rF 380),("Rel",695,rF 421),("Mem",771,rF 474),("Instruction",844,rF 525),("operand_size",851,rF 536),("NAMES_8",855,uS "al cl dl bl spl bpl sil dil" 854),("NAMES_16",857,uS "ax cx dx bx sp bp si di" 856),("NAMES_32",859,uS "eax ecx edx ebx esp ebp esi edi" 858),("NAMES_64",861,uS "rax rcx rdx rbx rsp rbp rsi rdi" 860),("HIGH_NAMES",863,uS "ah ch dh bh" 862),("Register",933,rF 588),("early_names",940,rF 599),("late_ending",947,rF 606),("gpr",956,rF 613),("high",963,rF 620),("xmm",970,rF 627),("rip",976,rF 634),("NO_INDEX",980,.int 4 979),("NO_BASE",982,.int 5 981),("WITH_SIB",984,.int 4 983),("FROM_RIP",986,.int 5 985),("unpack_three",993,rF 641),("unpack_modrm",1000,rF 648),("unpack_sib",1007,rF 655),("octet_at",1015,rF 662),("disp_width_of",1024,rF 669),("read_modrm",1038,rF 676),("memory_of",1056,rF 683),("FS",1060,.int 100 1059),("GS",1062,.int 101 1061),("DATA_prefixes",1064,.int 102 1063),("REPNE",1066,.int 242 1065),("REP",1068,.int 243 1067),("LOCK",1070,.int 240 1069),("rex_bits",1077,rF 690),("is_rex",1084,rF 697),("segment_octet",1091,rF 704),("sort_of",1098,rF 711),("Prefixes",1175,rF 764),("with_rex",1183,rF 775),("with_legacy",1193,rF 782),("read_prefixes",1203,rF 789),("MOST_OCTETS",1207,.int 15 1206),("ESCAPE",1209,.int 15 1208),("DATA_decoder",1211,.int 102 1210),("NOP",1213,.int 144 1212),("REGISTER",1215,.int 3 1214),("Decoded",1257,rF 813),("Frame",1347,rF 869),("fits_size",1355,rF 880),("fits_mod",1361,rF 885),("fits_nop",1370,rF 892),("picked",1379,rF 899),("register_at",1388,rF 906),("reg_operand",1397,rF 913),("rm_operand",1408,rF 920),("plus_operand",1417,rF 927),("fixed_operand",1424,rF 934),("field_at",1434,rF 941),("written_operand",1443,rF 948),("operands_of",1457,rF 955),("check_used",1463,rF 960),("prefix_word",1473,rF 967),("read_frame",1479,rF 972),("decode",1494,rF 980),("decode_or_none",1504,rF 988),("COUNT_NAMES",1508,uS "rol ror rcl rcr shl shr sar shld shrd" 1507),("TARGET_NAMES",1510,uS "jmp call" 1509),("PLAIN_INTEL",1512,uS "cbw cwde cdqe cwd cdq cqo movsd cmpsd stosd lodsd scasd" 1511),("PLAIN_ATT",1514,uS "cbtw cwtl cltq cwtd cltd cqto movsl cmpsl stosl lodsl scasl" 1513),("size_letter",1521,rF 995),("size_word",1528,rF 1002),("plus_text",1536,rF 1009),("sum_text",1544,rF 1016),("ahead_text",1551,rF 1023),("is_general",1558,rF 1030),("is_count",1567,rF 1037),("memory_att",1576,rF 1044),("operand_att",1583,rF 1051),("suffix_of",1594,rF 1058),("extending_name",1604,rF 1065),("is_wide_constant",1613,rF 1072),("att_name",1624,rF 1079),("with_prefix",1635,rF 1086),("is_target",1642,rF 1093),("texts_att",1652,rF 1100),("write_att",1660,rF 1107),("memory_intel",1671,rF 1114),("operand_intel",1678,rF 1121),("write_intel",1687,rF 1128),("BAD",1691,uS "(bad)" 1690),("Row",1740,rF 1159),("written",1748,rF 1170),("names_by_place",1757,rF 1177),("named_operand",1767,rF 1184),("named",1780,rF 1191),("row_at",1794,rF 1198),("sweep",1808,rF 1206),("every_size",1816,rF 1213),("kind_of",1824,rF 1220),("paired",1832,rF 1227),("load_forms",1845,rF 1235),("jump_forms",1856,rF 1242),("call_forms",1862,rF 1249),("loop_forms",1868,rF 1256),("codes_of",1876,rF 1261),("InstructionSet",1970,rF 1330),("_law_pen",1978,rF 1339),("_law_draw",1991,rF 1346),("_law_pick",1999,rF 1353),("_law_little",2005,rF 1358),("_law_rows",2019,rF 1365),("_law_laid",2033,rF 1372),("_law_names",2043,rF 1379),("_law_name_at",2049,rF 1384),("_law_due",2062,rF 1391),("_law_told",2071,rF 1398),("law",2077,rF 1403)]
noncomputable def ZM:List (Int×Int×Addr):=[(1,0,20),(6,0,27),(17,0,55),(19,0,67),(21,0,79),(23,0,91),(25,0,98),(27,0,105),(32,0,112),(35,0,119),(42,0,126),(46,0,133),(53,0,140),(62,0,147),(64,0,154),(66,0,161),(68,0,168),(70,0,175),(72,0,182),(80,0,189),(86,0,196),(96,0,203),(127,0,265),(129,0,272),(134,0,279),(147,0,321),(158,0,354),(170,0,388),(185,0,429),(213,0,482),(240,0,535),(250,0,542),(272,0,598),(282,0,605),(290,0,612),(297,0,619),(301,0,626),(305,0,633),(312,0,640),(314,0,647),(316,0,654),(318,0,661),(322,0,668),(332,0,675),(344,0,682),(361,0,689),(365,0,696),(367,0,703),(373,0,710),(383,0,717),(423,0,774),(425,0,781),(447,0,788),(467,0,795),(477,0,823),(528,0,879),(536,0,884),(538,0,891),(543,0,898),(550,0,905),(554,0,912),(559,0,919),(567,0,926),(570,0,933),(578,0,940),(583,0,947),(589,0,954),(605,0,959),(613,0,966),(623,0,971),(632,0,979),(640,0,987),(650,0,994),(660,0,1001),(672,0,1008),(678,0,1015),(684,0,1022),(688,0,1029),(690,0,1036),(697,0,1043),(713,0,1050),(725,0,1057),(742,0,1064),(753,0,1071),(761,0,1078),(775,0,1085),(782,0,1092),(786,0,1099),(794,0,1106),(797,0,1113),(818,0,1120),(830,0,1127),(837,0,1134),(850,0,1169),(852,0,1176),(859,0,1183),(866,0,1190),(873,0,1197),(880,0,1205),(887,0,1212),(889,0,1219),(891,0,1226),(893,0,1234),(900,0,1241),(907,0,1248),(909,0,1255),(912,0,1260),(916,0,1267),(957,0,1338),(959,0,1345),(976,0,1352),(978,0,1357),(980,0,1364),(992,0,1371),(999,0,1378),(1006,0,1383),(1009,0,1390),(1022,0,1397),(1027,0,1402)]
def Wj (P:Params) (m:Nat) (v:Value):Obj:=dn P ((("__name__",165,v)::ZL).take m) m
def Wk (k:Nat):Obj:=gW ((ZM.flatMap fun x=>[.int x.1 0,.int x.2.1 0,.ref x.2.2]).take k)
def ix (l:List Obj) (i:Nat):Obj:=match l[i]? with | some o=>o | _=>tP []
def Jy:List Obj:=G7 36 210 (bG 3 0) "MintError.__init__" (aB 1) (rF 29)
def Na:List Obj:=G7 92 284 (aW 7) "mask" (aB 1) nO
def Nb:List Obj:=G7 99 291 (aW 8) "wrap" (aB 1) nO
def GY:List Obj:=G7 106 299 (aW 9) "signed" (aB 1) nO
def GZ:List Obj:=G7 120 317 (aW 11) "from_little" (aB 1) nO
def G0:List Obj:=G7 127 327 (aW 12) "from_little_signed" (aB 1) nO
def G1:List Obj:=G7 134 334 (aW 13) "figures_of" (aB 1) nO
def G2:List Obj:=G7 141 344 (aW 14) "hex_text" (aB 1) nO
def G3:List Obj:=G7 148 361 (aW 20) "condition_names" (aB 2) nO
def G4:List Obj:=G7 155 367 (aW 21) "is_fixed" (aB 2) nO
def G6:List Obj:=G7 162 374 (aW 22) "is_immediate" (aB 2) nO
def G8:List Obj:=G7 169 381 (aW 23) "is_relative" (aB 2) nO
def G9:List Obj:=G7 176 388 (aW 24) "takes_memory" (aB 2) nO
def Ha:List Obj:=G7 183 395 (aW 25) "kind_size" (aB 2) nO
def Hb:List Obj:=G7 190 402 (aW 26) "kind_width" (aB 2) nO
def Hc:List Obj:=G7 197 409 (aW 27) "slot_of" (aB 2) nO
def va:List Obj:=G5 210 433 (bG 28 0) "Form.__init__" (aB 2) (rF 205)
def Hd:List Obj:=G7 224 446 (bG 28 2) "Form.slots" (aB 2) nO
def He:List Obj:=G7 231 453 (bG 28 3) "Form.has_modrm" (aB 2) nO
def Hf:List Obj:=G7 238 460 (bG 28 4) "Form.has_plus" (aB 2) nO
def Hg:List Obj:=G7 287 527 (bG 32 0) "Operand.__init__" (aB 3) nO
def Hh:List Obj:=G7 329 577 (bG 33 0) "Reg.__init__" (aB 3) nO
def Hi:List Obj:=G7 336 585 (bG 33 1) "Reg.told" (aB 3) nO
def B8:List Obj:=G7 397 659 (bG 35 0) "Rel.__init__" (aB 3) (rF 390)
def Hj:List Obj:=G7 404 668 (bG 35 1) "Rel.told" (aB 3) nO
def B9:List Obj:=G7 438 711 (bG 36 0) "Mem.__init__" (aB 3) (rF 431)
def Hk:List Obj:=G7 445 725 (bG 36 1) "Mem.told" (aB 3) nO
def Hl:List Obj:=G7 464 747 (bG 36 4) "Mem.is_rip" (aB 3) nO
def Hm:List Obj:=G7 491 785 (bG 37 0) "Instruction.__init__" (aB 3) (rF 484)
def Hn:List Obj:=G5 496 795 (bG 37 1) "Instruction.told" (aB 3) nO
def Ho:List Obj:=G7 522 824 (bG 37 5) "Instruction.replaced" (aB 3) nO
def Hp:List Obj:=G7 550 876 (bG 45 0) "Register.__init__" (aB 4) nO
def Hq:List Obj:=G7 599 934 (aW 46) "early_names" (aB 4) nO
def Hr:List Obj:=G7 613 948 (aW 48) "gpr" (aB 4) nO
def Hs:List Obj:=G7 634 971 (aW 51) "rip" (aB 4) nO
def Ht:List Obj:=G7 641 987 (aW 57) "unpack_three" (aB 5) nO
def Hu:List Obj:=G7 648 994 (aW 58) "unpack_modrm" (aB 5) nO
def Hv:List Obj:=G7 655 1001 (aW 59) "unpack_sib" (aB 5) nO
def Hw:List Obj:=G7 662 1008 (aW 60) "octet_at" (aB 5) nO
def Hx:List Obj:=G7 669 1016 (aW 61) "disp_width_of" (aB 5) nO
def Hy:List Obj:=G7 676 1025 (aW 62) "read_modrm" (aB 5) nO
def Hz:List Obj:=G7 683 1039 (aW 63) "memory_of" (aB 5) nO
def HA:List Obj:=G7 690 1071 (aW 71) "rex_bits" (aB 6) nO
def HC:List Obj:=G7 697 1078 (aW 72) "is_rex" (aB 6) nO
def HD:List Obj:=G7 711 1092 (aW 74) "sort_of" (aB 6) nO
def yk:List Obj:=G7 726 1115 (bG 75 0) "Prefixes.__init__" (aB 6) (rF 719)
def HE:List Obj:=G7 740 1134 (bG 75 2) "Prefixes.has_rex" (aB 6) nO
def HG:List Obj:=G7 775 1176 (aW 76) "with_rex" (aB 6) nO
def HH:List Obj:=G7 782 1184 (aW 77) "with_legacy" (aB 6) nO
def HI:List Obj:=G7 789 1194 (aW 78) "read_prefixes" (aB 6) nO
def HJ:List Obj:=G7 803 1228 (bG 85 0) "Decoded.__init__" (aB 7) nO
def HL:List Obj:=G7 831 1270 (bG 86 0) "Frame.__init__" (aB 7) nO
def HM:List Obj:=G7 838 1281 (bG 86 1) "Frame.has_rex" (aB 7) nO
def HN:List Obj:=G7 845 1288 (bG 86 2) "Frame.is_narrow" (aB 7) nO
def HO:List Obj:=G7 852 1295 (bG 86 3) "Frame.take_code" (aB 7) nO
def HP:List Obj:=G7 859 1304 (bG 86 4) "Frame.take_must" (aB 7) nO
def HQ:List Obj:=G7 866 1313 (bG 86 5) "Frame.take_modrm" (aB 7) nO
def HR:List Obj:=G7 880 1348 (aW 87) "fits_size" (aB 7) nO
def HS:List Obj:=G5 885 1356 (aW 88) "fits_mod" (aB 7) nO
def HT:List Obj:=G7 892 1362 (aW 89) "fits_nop" (aB 7) nO
def HU:List Obj:=G7 899 1371 (aW 90) "picked" (aB 7) nO
def HV:List Obj:=G7 906 1380 (aW 91) "register_at" (aB 7) nO
def HW:List Obj:=G7 913 1389 (aW 92) "reg_operand" (aB 7) nO
def HX:List Obj:=G7 920 1398 (aW 93) "rm_operand" (aB 7) nO
def HY:List Obj:=G7 941 1425 (aW 96) "field_at" (aB 7) nO
def HZ:List Obj:=G7 948 1435 (aW 97) "written_operand" (aB 7) nO
def H0:List Obj:=G7 955 1444 (aW 98) "operands_of" (aB 7) nO
def H1:List Obj:=G5 960 1458 (aW 99) "check_used" (aB 7) nO
def H3:List Obj:=G7 967 1464 (aW 100) "prefix_word" (aB 7) nO
def H4:List Obj:=G5 972 1474 (aW 101) "read_frame" (aB 7) nO
def H5:List Obj:=G7 980 1481 (aW 102) "decode" (aB 7) (rF 973)
def H6:List Obj:=G7 988 1496 (aW 103) "decode_or_none" (aB 7) (rF 981)
def H7:List Obj:=G7 995 1515 (aW 109) "size_letter" (aB 8) nO
def AH:List Obj:=G7 1002 1522 (aW 110) "size_word" (aB 8) nO
def AI:List Obj:=G7 1009 1529 (aW 111) "plus_text" (aB 8) nO
def AJ:List Obj:=G7 1016 1537 (aW 112) "sum_text" (aB 8) nO
def AK:List Obj:=G7 1023 1545 (aW 113) "ahead_text" (aB 8) nO
def AL:List Obj:=G7 1030 1552 (aW 114) "is_general" (aB 8) nO
def AM:List Obj:=G7 1037 1559 (aW 115) "is_count" (aB 8) nO
def AN:List Obj:=G7 1044 1568 (aW 116) "memory_att" (aB 8) nO
def AO:List Obj:=G7 1051 1577 (aW 117) "operand_att" (aB 8) nO
def AP:List Obj:=G7 1058 1584 (aW 118) "suffix_of" (aB 8) nO
def AQ:List Obj:=G7 1072 1605 (aW 120) "is_wide_constant" (aB 8) nO
def AR:List Obj:=G7 1079 1614 (aW 121) "att_name" (aB 8) nO
def AS:List Obj:=G7 1086 1625 (aW 122) "with_prefix" (aB 8) nO
def AU:List Obj:=G7 1093 1636 (aW 123) "is_target" (aB 8) nO
def AV:List Obj:=G7 1100 1643 (aW 124) "texts_att" (aB 8) nO
def AW:List Obj:=G7 1107 1653 (aW 125) "write_att" (aB 8) nO
def AX:List Obj:=G7 1114 1661 (aW 126) "memory_intel" (aB 8) nO
def AY:List Obj:=G7 1121 1672 (aW 127) "operand_intel" (aB 8) nO
def AZ:List Obj:=G7 1128 1679 (aW 128) "write_intel" (aB 8) nO
def A0:List Obj:=G7 1142 1704 (bG 131 0) "Row.__init__" (aB 9) nO
def A1:List Obj:=G7 1149 1715 (bG 131 1) "Row.end" (aB 9) nO
def A2:List Obj:=G7 1156 1722 (bG 131 2) "Row.told" (aB 9) nO
def A3:List Obj:=G7 1170 1741 (aW 132) "written" (aB 9) nO
def A4:List Obj:=G7 1177 1749 (aW 133) "names_by_place" (aB 9) nO
def A5:List Obj:=G7 1184 1758 (aW 134) "named_operand" (aB 9) nO
def A6:List Obj:=G7 1191 1768 (aW 135) "named" (aB 9) nO
def A7:List Obj:=G7 1198 1781 (aW 136) "row_at" (aB 9) nO
def wc:List Obj:=G7 1206 1796 (aW 137) "sweep" (aB 9) (rF 1199)
def A8:List Obj:=G7 1213 1811 (aW 139) "every_size" (aB 10) nO
def A9:List Obj:=G7 1220 1817 (aW 140) "kind_of" (aB 10) nO
def Ba:List Obj:=G7 1227 1825 (aW 141) "paired" (aB 10) nO
def Bb:List Obj:=G7 1235 1834 (aW 142) "load_forms" (aB 10) (rF 1228)
def Bc:List Obj:=G7 1242 1848 (aW 144) "jump_forms" (aB 11) nO
def Bd:List Obj:=G7 1249 1857 (aW 145) "call_forms" (aB 11) nO
def Be:List Obj:=G7 1256 1863 (aW 146) "loop_forms" (aB 11) nO
def Bf:List Obj:=G5 1261 1871 (aW 148) "codes_of" (aB 12) nO
def Bg:List Obj:=G7 1275 1889 (bG 149 0) "InstructionSet.__init__" (aB 12) nO
def Bh:List Obj:=G7 1301 1922 (bG 149 4) "InstructionSet.at" (aB 12) nO
def Bi:List Obj:=G5 1339 1973 (aW 151) "_law_pen" (aB 13) nO
def Bj:List Obj:=G7 1346 1979 (aW 152) "_law_draw" (aB 13) nO
def Bk:List Obj:=G7 1353 1992 (aW 153) "_law_pick" (aB 13) nO
def Bl:List Obj:=G5 1358 2000 (aW 154) "_law_little" (aB 13) nO
def Bm:List Obj:=G7 1365 2006 (aW 155) "_law_rows" (aB 13) nO
def Bn:List Obj:=G7 1372 2020 (aW 156) "_law_laid" (aB 13) nO
def Bo:List Obj:=G7 1379 2034 (aW 157) "_law_names" (aB 13) nO
def Bp:List Obj:=G5 1384 2044 (aW 158) "_law_name_at" (aB 13) nO
def Bq:List Obj:=G7 1391 2050 (aW 159) "_law_due" (aB 13) nO
def Br:List Obj:=G7 1398 2063 (aW 160) "_law_told" (aB 13) nO
def Bs:List Obj:=G5 1403 2072 (aW 161) "law" (aB 13) nO
def b2 (P:Params):Obj:=Wi P
def b3 (P:Params):Obj:=Wj P 158 (aB 13)
def Wl (P:Params):Obj:=tP [nO]
def QX (P:Params):Obj:=dn P [("__module__",205,aB 1),("__firstlineno__",209,.int 6 208),("__init__",218,rF 36),("told",225,rF 43),("__static_attributes__",228,rF 44),("__weakref__",230,rF 47),("__doc__",231,nO)] 3
def QY (P:Params):Obj:=Wh 3
def Wm (P:Params):Obj:=dn P [("__module__",243,aB 1),("__firstlineno__",247,.int 17 246),("__static_attributes__",248,rF 57),("__doc__",249,nO)] 2
def Wn (P:Params):Obj:=kc "OperandError" [rF 46] [rF 59,rF 46,yT "Exception",yT "BaseException",yT "object"] 58 [] (some (rF 50)) 236 "Exception.__new__"
def Wo (P:Params):Obj:=dn P [("__module__",259,aB 1),("__firstlineno__",263,.int 19 262),("__static_attributes__",264,rF 69),("__doc__",265,nO)] 2
def Wp (P:Params):Obj:=kc "EncodeError" [rF 46] [rF 71,rF 46,yT "Exception",yT "BaseException",yT "object"] 70 [] (some (rF 62)) 252 "Exception.__new__"
def QZ (P:Params):Obj:=dn P [("__module__",275,aB 1),("__firstlineno__",279,.int 21 278),("__static_attributes__",280,rF 81),("__doc__",281,nO)] 2
def Q1 (P:Params):Obj:=kc "DecodeError" [rF 46] [rF 83,rF 46,yT "Exception",yT "BaseException",yT "object"] 82 [] (some (rF 74)) 268 "Exception.__new__"
def Q3 (P:Params):Obj:=tP [.int 0 428,.int (-1) 430,.int 0 431,.int 0 432,.bool false]
def Q4 (P:Params):Obj:=dn P [("__module__",423,aB 2),("__firstlineno__",427,.int 96 426),("__init__",438,rF 210),("told",445,rF 217),("slots",452,rF 224),("has_modrm",459,rF 231),("has_plus",466,rF 238),("memory_size",473,rF 245),("needs_memory",480,rF 252),("__static_attributes__",491,rF 253),("__dict__",493,rF 256),("__weakref__",495,rF 257),("__doc__",496,nO)] 4
def Q5 (P:Params):Obj:=kc "Form" [yT "object"] [rF 255,yT "object"] 254 [] none 416 "object.__new__"
def Q6 (P:Params):Obj:=dn P [("__module__",522,aB 3),("__firstlineno__",526,.int 134 525),("__init__",534,rF 287),("told",541,rF 294),("symbol",548,rF 301),("registers",555,rF 308),("__static_attributes__",557,rF 309),("__dict__",559,rF 312),("__weakref__",561,rF 313),("__doc__",562,nO)] 4
def Q7 (P:Params):Obj:=QW 4
def Q8 (P:Params):Obj:=dn P [("__module__",572,aB 3),("__firstlineno__",576,.int 147 575),("__init__",584,rF 329),("told",591,rF 336),("registers",598,rF 343),("__static_attributes__",600,rF 344),("__doc__",601,nO)] 2
def Q9 (P:Params):Obj:=kc "Reg" [rF 311] [rF 346,rF 311,yT "object"] 345 [] (some (rF 316)) 565 "object.__new__"
def Ra (P:Params):Obj:=dn P [("__module__",611,aB 3),("__firstlineno__",615,.int 158 614),("__init__",625,rF 363),("told",632,rF 370),("symbol",639,rF 377),("__static_attributes__",642,rF 378),("__doc__",643,nO)] 2
def Rb (P:Params):Obj:=kc "Imm" [rF 311] [rF 380,rF 311,yT "object"] 379 [] (some (rF 349)) 604 "object.__new__"
def Rc (P:Params):Obj:=tP [uS "" 658]
def Rd (P:Params):Obj:=dn P [("__module__",653,aB 3),("__firstlineno__",657,.int 170 656),("__init__",667,rF 397),("told",674,rF 404),("symbol",681,rF 411),("target",689,rF 418),("__static_attributes__",692,rF 419),("__doc__",693,nO)] 2
def Re (P:Params):Obj:=kc "Rel" [rF 311] [rF 421,rF 311,yT "object"] 420 [] (some (rF 383)) 646 "object.__new__"
def Rg (P:Params):Obj:=tP [.int 0 708,uS "" 709,uS "" 710]
def Rh (P:Params):Obj:=dn P [("__module__",703,aB 3),("__firstlineno__",707,.int 185 706),("__init__",724,rF 438),("told",733,rF 445),("symbol",740,rF 452),("registers",746,rF 457),("is_rip",753,rF 464),("is_absolute",760,rF 471),("__static_attributes__",768,rF 472),("__doc__",769,nO)] 2
def Ri (P:Params):Obj:=kc "Mem" [rF 311] [rF 474,rF 311,yT "object"] 473 [] (some (rF 424)) 696 "object.__new__"
def Rj (P:Params):Obj:=tP [uS "" 784]
def Rk (P:Params):Obj:=dn P [("__module__",779,aB 3),("__firstlineno__",783,.int 213 782),("__init__",794,rF 491),("told",800,rF 496),("memory_at",809,rF 503),("memory",817,rF 510),("symbols",823,rF 515),("replaced",833,rF 522),("__static_attributes__",837,rF 523),("__dict__",839,rF 526),("__weakref__",841,rF 527),("__doc__",842,nO)] 4
def Rl (P:Params):Obj:=kc "Instruction" [yT "object"] [rF 525,yT "object"] 524 [] none 772 "object.__new__"
def Rm (P:Params):Obj:=dn P [("__module__",871,aB 4),("__firstlineno__",875,.int 250 874),("__init__",886,rF 550),("code",893,rF 557),("is_extended",900,rF 564),("is_high",907,rF 571),("needs_rex",914,rF 578),("told",921,rF 585),("__static_attributes__",926,rF 586),("__dict__",928,rF 589),("__weakref__",930,rF 590),("__doc__",931,nO)] 4
def Rn (P:Params):Obj:=kc "Register" [yT "object"] [rF 588,yT "object"] 587 [] none 864 "object.__new__"
def Ro (P:Params):Obj:=tP [uS "" 1111,.bool false,.int 0 1112,.bool false,.int (-1) 1114]
def Rq (P:Params):Obj:=dn P [("__module__",1106,aB 6),("__firstlineno__",1110,.int 383 1109),("__init__",1126,rF 726),("told",1133,rF 733),("has_rex",1140,rF 740),("bits",1147,rF 747),("count",1154,rF 754),("octets",1162,rF 761),("__static_attributes__",1168,rF 762),("__dict__",1170,rF 765),("__weakref__",1172,rF 766),("__doc__",1173,nO)] 4
def Rr (P:Params):Obj:=kc "Prefixes" [yT "object"] [rF 764,yT "object"] 763 [] none 1099 "object.__new__"
def Rt (P:Params):Obj:=dn P [("__module__",1223,aB 7),("__firstlineno__",1227,.int 467 1226),("__init__",1238,rF 803),("told",1245,rF 810),("__static_attributes__",1250,rF 811),("__dict__",1252,rF 814),("__weakref__",1254,rF 815),("__doc__",1255,nO)] 4
def Ru (P:Params):Obj:=kc "Decoded" [yT "object"] [rF 813,yT "object"] 812 [] none 1216 "object.__new__"
def Rv (P:Params):Obj:=dn P [("__module__",1265,aB 7),("__firstlineno__",1269,.int 477 1268),("__init__",1280,rF 831),("has_rex",1287,rF 838),("is_narrow",1294,rF 845),("take_code",1303,rF 852),("take_must",1312,rF 859),("take_modrm",1321,rF 866),("__static_attributes__",1340,rF 867),("__dict__",1342,rF 870),("__weakref__",1344,rF 871),("__doc__",1345,nO)] 4
def Rw (P:Params):Obj:=kc "Frame" [yT "object"] [rF 869,yT "object"] 868 [] none 1258 "object.__new__"
def Rx (P:Params):Obj:=tP [.int 0 1480]
def Ry (P:Params):Obj:=tP [.int 0 1495]
def Nc (P:Params):Obj:=dn P [("__module__",1699,aB 9),("__firstlineno__",1703,.int 837 1702),("__init__",1714,rF 1142),("end",1721,rF 1149),("told",1728,rF 1156),("__static_attributes__",1733,rF 1157),("__dict__",1735,rF 1160),("__weakref__",1737,rF 1161),("__doc__",1738,nO)] 4
def Nd (P:Params):Obj:=kc "Row" [yT "object"] [rF 1159,yT "object"] 1158 [] none 1692 "object.__new__"
def Nf (P:Params):Obj:=tP [nO,uS "att" 1795]
def Ng (P:Params):Obj:=tP [.int 0 1833]
def Nh (P:Params):Obj:=dn P [("__module__",1884,aB 12),("__firstlineno__",1888,.int 916 1887),("__init__",1899,rF 1275),("told",1905,rF 1280),("find",1913,rF 1287),("has",1921,rF 1294),("at",1931,rF 1301),("names",1938,rF 1308),("codes",1945,rF 1315),("counts",1951,rF 1320),("memory_sizes",1959,rF 1327),("__static_attributes__",1963,rF 1328),("__dict__",1965,rF 1331),("__weakref__",1967,rF 1332),("__doc__",1968,nO)] 4
def Ni (P:Params):Obj:=kc "InstructionSet" [yT "object"] [rF 1330,yT "object"] 1329 [] none 1877 "object.__new__"
def ZN (P:Params):List Obj:=[[boot_o_0 P,boot_o_1 P,b2 P,b3 P,boot_o_4 P,boot_o_5 P,boot_o_6 P,boot_o_7 P,boot_o_8 P,boot_o_9 P,boot_o_10 P,tP [],Wk 357,jA "<module>" 182 1 11 12,jz (rF 13) (rF 3) (aB 0)],
 G7 21 187 (aW 0) "_wall" (aB 0) nO,
 [tP [yT "Exception"],bB "builtin_function_or_method" [.builtin "type.__prepare__",yT "type"],dn P [("__module__",205,aB 1),("__qualname__",207,uS "MintError" 206),("__firstlineno__",209,.int 6 208),("__init__",218,rF 36),("told",225,rF 43),("__static_attributes__",228,rF 44)] 6,tP [],gW [iN 8,iN 4,rF 35,iN 13,iN 4,rF 42],jA "MintError" 200 6 25 26,jz (rF 27) (rF 24) (aB 1),Wl P],
 Jy,
 G7 43 219 (bG 3 1) "MintError.told" (aB 1) nO,
 [tP [uS "at" 226,uS "what" 227],QX P,QY P,bB "getset_descriptor" [uS "__weakref__" 229,rF 46,.builtin "ExceptionGroup.__weakref__",nO],bB "super" [rF 46,rF 46,rF 46],bB "builtin_function_or_method" [.builtin "object.__init_subclass__",rF 46],tP [rF 46],bB "builtin_function_or_method" [.builtin "type.__prepare__",yT "type"],dn P [("__module__",243,aB 1),("__qualname__",245,uS "OperandError" 244),("__firstlineno__",247,.int 17 246),("__static_attributes__",248,rF 57)] 4,tP [],gW [],jA "OperandError" 238 17 53 54,jz (rF 55) (rF 52) (aB 1),tP [],Wm P,Wn P,bB "super" [rF 59,rF 59,rF 59],bB "builtin_function_or_method" [.builtin "object.__init_subclass__",rF 59],tP [rF 46],bB "builtin_function_or_method" [.builtin "type.__prepare__",yT "type"],dn P [("__module__",259,aB 1),("__qualname__",261,uS "EncodeError" 260),("__firstlineno__",263,.int 19 262),("__static_attributes__",264,rF 69)] 4,tP [],gW [],jA "EncodeError" 254 19 65 66,jz (rF 67) (rF 64) (aB 1),tP [],Wo P,Wp P,bB "super" [rF 71,rF 71,rF 71],bB "builtin_function_or_method" [.builtin "object.__init_subclass__",rF 71],tP [rF 46],bB "builtin_function_or_method" [.builtin "type.__prepare__",yT "type"],dn P [("__module__",275,aB 1),("__qualname__",277,uS "DecodeError" 276),("__firstlineno__",279,.int 21 278),("__static_attributes__",280,rF 81)] 4,tP [],gW [],jA "DecodeError" 270 21 77 78,jz (rF 79) (rF 76) (aB 1),tP [],QZ P,Q1 P,bB "super" [rF 83,rF 83,rF 83],bB "builtin_function_or_method" [.builtin "object.__init_subclass__",rF 83]],
 Na,
 Nb,
 GY,
 G7 113 308 (aW 10) "fits_signed" (aB 1) nO,
 GZ,
 G0,
 G1,
 G2,
 G3,
 G4,
 G6,
 G8,
 G9,
 Ha,
 Hb,
 Hc,
 [tP [],bB "builtin_function_or_method" [.builtin "type.__prepare__",yT "type"],dn P [("__module__",423,aB 2),("__qualname__",425,uS "Form" 424),("__firstlineno__",427,.int 96 426),("__init__",438,rF 210),("told",445,rF 217),("slots",452,rF 224),("has_modrm",459,rF 231),("has_plus",466,rF 238),("memory_size",473,rF 245),("needs_memory",480,rF 252),("__static_attributes__",491,rF 253)] 11,tP [],gW [iN 98,iN 4,rF 209,iN 110,iN 4,rF 216,iN 113,iN 4,rF 223,iN 116,iN 4,rF 230,iN 119,iN 4,rF 237,iN 122,iN 4,rF 244,iN 125,iN 4,rF 251],jA "Form" 418 96 201 202,jz (rF 203) (rF 200) (aB 2),Q3 P],
 va,
 G7 217 439 (bG 28 1) "Form.told" (aB 2) nO,
 Hd,
 He,
 Hf,
 G7 245 467 (bG 28 5) "Form.memory_size" (aB 2) nO,
 G7 252 474 (bG 28 6) "Form.needs_memory" (aB 2) nO,
 [tP [uS "digit" 481,uS "escape" 482,uS "is_wide" 483,uS "kinds" 484,uS "must" 485,uS "name" 486,uS "number" 487,uS "opcode" 488,uS "places" 489,uS "size" 490],Q4 P,Q5 P,bB "getset_descriptor" [uS "__dict__" 492,rF 255,.builtin "function.__dict__",.builtin "function.__dict__#set"],bB "getset_descriptor" [uS "__weakref__" 494,rF 255,.builtin "ExceptionGroup.__weakref__",nO],bB "super" [rF 255,rF 255,rF 255],bB "builtin_function_or_method" [.builtin "object.__init_subclass__",rF 255]],
 G7 266 499 (aW 29) "can_lock" (aB 2) nO,
 G7 273 506 (aW 30) "repeats" (aB 2) nO,
 [tP [],bB "builtin_function_or_method" [.builtin "type.__prepare__",yT "type"],dn P [("__module__",522,aB 3),("__qualname__",524,uS "Operand" 523),("__firstlineno__",526,.int 134 525),("__init__",534,rF 287),("told",541,rF 294),("symbol",548,rF 301),("registers",555,rF 308),("__static_attributes__",557,rF 309)] 8,tP [],gW [iN 136,iN 4,rF 286,iN 139,iN 4,rF 293,iN 142,iN 4,rF 300,iN 145,iN 4,rF 307],jA "Operand" 517 134 277 278,jz (rF 279) (rF 276) (aB 3)],
 Hg,
 G7 294 535 (bG 32 1) "Operand.told" (aB 3) nO,
 G7 301 542 (bG 32 2) "Operand.symbol" (aB 3) nO,
 G7 308 549 (bG 32 3) "Operand.registers" (aB 3) nO,
 [tP [uS "kind" 556],Q6 P,Q7 P,bB "getset_descriptor" [uS "__dict__" 558,rF 311,.builtin "function.__dict__",.builtin "function.__dict__#set"],bB "getset_descriptor" [uS "__weakref__" 560,rF 311,.builtin "ExceptionGroup.__weakref__",nO],bB "super" [rF 311,rF 311,rF 311],bB "builtin_function_or_method" [.builtin "object.__init_subclass__",rF 311],tP [rF 311],bB "builtin_function_or_method" [.builtin "type.__prepare__",yT "type"],dn P [("__module__",572,aB 3),("__qualname__",574,uS "Reg" 573),("__firstlineno__",576,.int 147 575),("__init__",584,rF 329),("told",591,rF 336),("registers",598,rF 343),("__static_attributes__",600,rF 344)] 7,tP [],gW [iN 149,iN 4,rF 328,iN 153,iN 4,rF 335,iN 156,iN 4,rF 342],jA "Reg" 567 147 319 320,jz (rF 321) (rF 318) (aB 3)],
 Hh,
 Hi,
 G7 343 592 (bG 33 2) "Reg.registers" (aB 3) nO,
 [tP [uS "register" 599],Q8 P,Q9 P,bB "super" [rF 346,rF 346,rF 346],bB "builtin_function_or_method" [.builtin "object.__init_subclass__",rF 346],tP [rF 311],bB "builtin_function_or_method" [.builtin "type.__prepare__",yT "type"],dn P [("__module__",611,aB 3),("__qualname__",613,uS "Imm" 612),("__firstlineno__",615,.int 158 614),("__init__",625,rF 363),("told",632,rF 370),("symbol",639,rF 377),("__static_attributes__",642,rF 378)] 7,tP [],gW [iN 160,iN 4,rF 362,iN 165,iN 4,rF 369,iN 168,iN 4,rF 376],jA "Imm" 606 158 352 353,jz (rF 354) (rF 351) (aB 3),tP [uS "" 616]],
 G7 363 617 (bG 34 0) "Imm.__init__" (aB 3) (rF 356),
 G7 370 626 (bG 34 1) "Imm.told" (aB 3) nO,
 G7 377 633 (bG 34 2) "Imm.symbol" (aB 3) nO,
 [tP [uS "name" 640,uS "worth" 641],Ra P,Rb P,bB "super" [rF 380,rF 380,rF 380],bB "builtin_function_or_method" [.builtin "object.__init_subclass__",rF 380],tP [rF 311],bB "builtin_function_or_method" [.builtin "type.__prepare__",yT "type"],dn P [("__module__",653,aB 3),("__qualname__",655,uS "Rel" 654),("__firstlineno__",657,.int 170 656),("__init__",667,rF 397),("told",674,rF 404),("symbol",681,rF 411),("target",689,rF 418),("__static_attributes__",692,rF 419)] 8,tP [],gW [iN 172,iN 4,rF 396,iN 177,iN 4,rF 403,iN 180,iN 4,rF 410,iN 183,iN 4,rF 417],jA "Rel" 648 170 386 387,jz (rF 388) (rF 385) (aB 3),Rc P],
 B8,
 Hj,
 G7 411 675 (bG 35 2) "Rel.symbol" (aB 3) nO,
 G7 418 682 (bG 35 3) "Rel.target" (aB 3) nO,
 [tP [uS "name" 690,uS "worth" 691],Rd P,Re P,bB "super" [rF 421,rF 421,rF 421],bB "builtin_function_or_method" [.builtin "object.__init_subclass__",rF 421],tP [rF 311],bB "builtin_function_or_method" [.builtin "type.__prepare__",yT "type"],dn P [("__module__",703,aB 3),("__qualname__",705,uS "Mem" 704),("__firstlineno__",707,.int 185 706),("__init__",724,rF 438),("told",733,rF 445),("symbol",740,rF 452),("registers",746,rF 457),("is_rip",753,rF 464),("is_absolute",760,rF 471),("__static_attributes__",768,rF 472)] 10,tP [],gW [iN 187,iN 4,rF 437,iN 197,iN 4,rF 444,iN 202,iN 4,rF 451,iN 205,iN 4,rF 456,iN 208,iN 4,rF 463,iN 211,iN 4,rF 470],jA "Mem" 698 185 427 428,jz (rF 429) (rF 426) (aB 3),Rg P],
 B9,
 Hk,
 G7 452 734 (bG 36 2) "Mem.symbol" (aB 3) nO,
 G5 457 741 (bG 36 3) "Mem.registers" (aB 3) nO,
 Hl,
 G7 471 754 (bG 36 5) "Mem.is_absolute" (aB 3) nO,
 [tP [uS "base" 761,uS "index" 762,uS "name" 763,uS "scale" 764,uS "segment" 765,uS "size" 766,uS "worth" 767],Rh P,Ri P,bB "super" [rF 474,rF 474,rF 474],bB "builtin_function_or_method" [.builtin "object.__init_subclass__",rF 474],tP [],bB "builtin_function_or_method" [.builtin "type.__prepare__",yT "type"],dn P [("__module__",779,aB 3),("__qualname__",781,uS "Instruction" 780),("__firstlineno__",783,.int 213 782),("__init__",794,rF 491),("told",800,rF 496),("memory_at",809,rF 503),("memory",817,rF 510),("symbols",823,rF 515),("replaced",833,rF 522),("__static_attributes__",837,rF 523)] 10,tP [],gW [iN 215,iN 4,rF 490,iN 220,iN 4,rF 495,iN 223,iN 4,rF 502,iN 229,iN 4,rF 509,iN 233,iN 4,rF 514,iN 236,iN 4,rF 521],jA "Instruction" 774 213 480 481,jz (rF 482) (rF 479) (aB 3),Rj P],
 Hm,
 Hn,
 G7 503 801 (bG 37 2) "Instruction.memory_at" (aB 3) nO,
 G7 510 810 (bG 37 3) "Instruction.memory" (aB 3) nO,
 G5 515 818 (bG 37 4) "Instruction.symbols" (aB 3) nO,
 Ho,
 [tP [uS "name" 834,uS "operands" 835,uS "prefix" 836],Rk P,Rl P,bB "getset_descriptor" [uS "__dict__" 838,rF 525,.builtin "function.__dict__",.builtin "function.__dict__#set"],bB "getset_descriptor" [uS "__weakref__" 840,rF 525,.builtin "ExceptionGroup.__weakref__",nO],bB "super" [rF 525,rF 525,rF 525],bB "builtin_function_or_method" [.builtin "object.__init_subclass__",rF 525]],
 G7 536 845 (aW 38) "operand_size" (aB 3) nO,
 [tP [],bB "builtin_function_or_method" [.builtin "type.__prepare__",yT "type"],dn P [("__module__",871,aB 4),("__qualname__",873,uS "Register" 872),("__firstlineno__",875,.int 250 874),("__init__",886,rF 550),("code",893,rF 557),("is_extended",900,rF 564),("is_high",907,rF 571),("needs_rex",914,rF 578),("told",921,rF 585),("__static_attributes__",926,rF 586)] 10,tP [],gW [iN 252,iN 4,rF 549,iN 258,iN 4,rF 556,iN 261,iN 4,rF 563,iN 264,iN 4,rF 570,iN 267,iN 4,rF 577,iN 270,iN 4,rF 584],jA "Register" 866 250 540 541,jz (rF 542) (rF 539) (aB 4)],
 Hp,
 G7 557 887 (bG 45 1) "Register.code" (aB 4) nO,
 G7 564 894 (bG 45 2) "Register.is_extended" (aB 4) nO,
 G7 571 901 (bG 45 3) "Register.is_high" (aB 4) nO,
 G7 578 908 (bG 45 4) "Register.needs_rex" (aB 4) nO,
 G7 585 915 (bG 45 5) "Register.told" (aB 4) nO,
 [tP [uS "kind" 922,uS "name" 923,uS "number" 924,uS "size" 925],Rm P,Rn P,bB "getset_descriptor" [uS "__dict__" 927,rF 588,.builtin "function.__dict__",.builtin "function.__dict__#set"],bB "getset_descriptor" [uS "__weakref__" 929,rF 588,.builtin "ExceptionGroup.__weakref__",nO],bB "super" [rF 588,rF 588,rF 588],bB "builtin_function_or_method" [.builtin "object.__init_subclass__",rF 588]],
 Hq,
 G7 606 941 (aW 47) "late_ending" (aB 4) nO,
 Hr,
 G7 620 957 (aW 49) "high" (aB 4) nO,
 G7 627 964 (aW 50) "xmm" (aB 4) nO,
 Hs,
 Ht,
 Hu,
 Hv,
 Hw,
 Hx,
 Hy,
 Hz,
 HA,
 HC,
 G7 704 1085 (aW 73) "segment_octet" (aB 6) nO,
 HD,
 [tP [],bB "builtin_function_or_method" [.builtin "type.__prepare__",yT "type"],dn P [("__module__",1106,aB 6),("__qualname__",1108,uS "Prefixes" 1107),("__firstlineno__",1110,.int 383 1109),("__init__",1126,rF 726),("told",1133,rF 733),("has_rex",1140,rF 740),("bits",1147,rF 747),("count",1154,rF 754),("octets",1162,rF 761),("__static_attributes__",1168,rF 762)] 10,tP [],gW [iN 385,iN 4,rF 725,iN 392,iN 4,rF 732,iN 395,iN 4,rF 739,iN 398,iN 4,rF 746,iN 401,iN 4,rF 753,iN 404,iN 4,rF 760],jA "Prefixes" 1101 383 715 716,jz (rF 717) (rF 714) (aB 6),Ro P],
 yk,
 G7 733 1127 (bG 75 1) "Prefixes.told" (aB 6) nO,
 HE,
 G7 747 1141 (bG 75 3) "Prefixes.bits" (aB 6) nO,
 G7 754 1148 (bG 75 4) "Prefixes.count" (aB 6) nO,
 G7 761 1155 (bG 75 5) "Prefixes.octets" (aB 6) nO,
 [tP [uS "is_data" 1163,uS "is_lock" 1164,uS "repeat" 1165,uS "rex" 1166,uS "segment" 1167],Rq P,Rr P,bB "getset_descriptor" [uS "__dict__" 1169,rF 764,.builtin "function.__dict__",.builtin "function.__dict__#set"],bB "getset_descriptor" [uS "__weakref__" 1171,rF 764,.builtin "ExceptionGroup.__weakref__",nO],bB "super" [rF 764,rF 764,rF 764],bB "builtin_function_or_method" [.builtin "object.__init_subclass__",rF 764]],
 HG,
 HH,
 HI,
 [tP [],bB "builtin_function_or_method" [.builtin "type.__prepare__",yT "type"],dn P [("__module__",1223,aB 7),("__qualname__",1225,uS "Decoded" 1224),("__firstlineno__",1227,.int 467 1226),("__init__",1238,rF 803),("told",1245,rF 810),("__static_attributes__",1250,rF 811)] 6,tP [],gW [iN 469,iN 4,rF 802,iN 475,iN 4,rF 809],jA "Decoded" 1218 467 793 794,jz (rF 795) (rF 792) (aB 7)],
 HJ,
 G7 810 1239 (bG 85 1) "Decoded.told" (aB 7) nO,
 [tP [uS "form" 1246,uS "instruction" 1247,uS "length" 1248,uS "prefixes" 1249],Rt P,Ru P,bB "getset_descriptor" [uS "__dict__" 1251,rF 813,.builtin "function.__dict__",.builtin "function.__dict__#set"],bB "getset_descriptor" [uS "__weakref__" 1253,rF 813,.builtin "ExceptionGroup.__weakref__",nO],bB "super" [rF 813,rF 813,rF 813],bB "builtin_function_or_method" [.builtin "object.__init_subclass__",rF 813],tP [],bB "builtin_function_or_method" [.builtin "type.__prepare__",yT "type"],dn P [("__module__",1265,aB 7),("__qualname__",1267,uS "Frame" 1266),("__firstlineno__",1269,.int 477 1268),("__init__",1280,rF 831),("has_rex",1287,rF 838),("is_narrow",1294,rF 845),("take_code",1303,rF 852),("take_must",1312,rF 859),("take_modrm",1321,rF 866),("__static_attributes__",1340,rF 867)] 10,tP [],gW [iN 479,iN 4,rF 830,iN 500,iN 4,rF 837,iN 503,iN 4,rF 844,iN 506,iN 4,rF 851,iN 517,iN 4,rF 858,iN 523,iN 4,rF 865],jA "Frame" 1260 477 821 822,jz (rF 823) (rF 820) (aB 7)],
 HL,
 HM,
 HN,
 HO,
 HP,
 HQ,
 [tP [uS "b" 1322,uS "begin" 1323,uS "code_at" 1324,uS "disp" 1325,uS "escape" 1326,uS "mod" 1327,uS "modrm_at" 1328,uS "must" 1329,uS "opcode" 1330,uS "prefixes" 1331,uS "r" 1332,uS "reg" 1333,uS "rest_at" 1334,uS "rm" 1335,uS "sib" 1336,uS "w" 1337,uS "width" 1338,uS "x" 1339],Rv P,Rw P,bB "getset_descriptor" [uS "__dict__" 1341,rF 869,.builtin "function.__dict__",.builtin "function.__dict__#set"],bB "getset_descriptor" [uS "__weakref__" 1343,rF 869,.builtin "ExceptionGroup.__weakref__",nO],bB "super" [rF 869,rF 869,rF 869],bB "builtin_function_or_method" [.builtin "object.__init_subclass__",rF 869]],
 HR,
 HS,
 HT,
 HU,
 HV,
 HW,
 HX,
 G7 927 1409 (aW 94) "plus_operand" (aB 7) nO,
 G7 934 1418 (aW 95) "fixed_operand" (aB 7) nO,
 HY,
 HZ,
 H0,
 H1,
 H3,
 H4,
 [Rx P],
 H5,
 [Ry P],
 H6,
 H7,
 AH,
 AI,
 AJ,
 AK,
 AL,
 AM,
 AN,
 AO,
 AP,
 G7 1065 1595 (aW 119) "extending_name" (aB 8) nO,
 AQ,
 AR,
 AS,
 AU,
 AV,
 AW,
 AX,
 AY,
 AZ,
 [tP [],bB "builtin_function_or_method" [.builtin "type.__prepare__",yT "type"],dn P [("__module__",1699,aB 9),("__qualname__",1701,uS "Row" 1700),("__firstlineno__",1703,.int 837 1702),("__init__",1714,rF 1142),("end",1721,rF 1149),("told",1728,rF 1156),("__static_attributes__",1733,rF 1157)] 7,tP [],gW [iN 839,iN 4,rF 1141,iN 845,iN 4,rF 1148,iN 848,iN 4,rF 1155],jA "Row" 1694 837 1132 1133,jz (rF 1134) (rF 1131) (aB 9)],
 A0,
 A1,
 A2,
 [tP [uS "at" 1729,uS "instruction" 1730,uS "octets" 1731,uS "text" 1732],Nc P,Nd P,bB "getset_descriptor" [uS "__dict__" 1734,rF 1159,.builtin "function.__dict__",.builtin "function.__dict__#set"],bB "getset_descriptor" [uS "__weakref__" 1736,rF 1159,.builtin "ExceptionGroup.__weakref__",nO],bB "super" [rF 1159,rF 1159,rF 1159],bB "builtin_function_or_method" [.builtin "object.__init_subclass__",rF 1159]],
 A3,
 A4,
 A5,
 A6,
 A7,
 [Nf P],
 wc,
 A8,
 A9,
 Ba,
 [Ng P],
 Bb,
 Bc,
 Bd,
 Be,
 Bf,
 [tP [],bB "builtin_function_or_method" [.builtin "type.__prepare__",yT "type"],dn P [("__module__",1884,aB 12),("__qualname__",1886,uS "InstructionSet" 1885),("__firstlineno__",1888,.int 916 1887),("__init__",1899,rF 1275),("told",1905,rF 1280),("find",1913,rF 1287),("has",1921,rF 1294),("at",1931,rF 1301),("names",1938,rF 1308),("codes",1945,rF 1315),("counts",1951,rF 1320),("memory_sizes",1959,rF 1327),("__static_attributes__",1963,rF 1328)] 13,tP [],gW [iN 918,iN 4,rF 1274,iN 933,iN 4,rF 1279,iN 936,iN 4,rF 1286,iN 939,iN 4,rF 1293,iN 942,iN 4,rF 1300,iN 945,iN 4,rF 1307,iN 948,iN 4,rF 1314,iN 951,iN 4,rF 1319,iN 954,iN 4,rF 1326],jA "InstructionSet" 1879 916 1265 1266,jz (rF 1267) (rF 1264) (aB 12)],
 Bg,
 G5 1280 1900 (bG 149 1) "InstructionSet.told" (aB 12) nO,
 G7 1287 1906 (bG 149 2) "InstructionSet.find" (aB 12) nO,
 G7 1294 1914 (bG 149 3) "InstructionSet.has" (aB 12) nO,
 Bh,
 G7 1308 1932 (bG 149 5) "InstructionSet.names" (aB 12) nO,
 G7 1315 1939 (bG 149 6) "InstructionSet.codes" (aB 12) nO,
 G5 1320 1946 (bG 149 7) "InstructionSet.counts" (aB 12) nO,
 G7 1327 1952 (bG 149 8) "InstructionSet.memory_sizes" (aB 12) nO,
 [tP [uS "by_code" 1960,uS "by_name" 1961,uS "forms" 1962],Nh P,Ni P,bB "getset_descriptor" [uS "__dict__" 1964,rF 1330,.builtin "function.__dict__",.builtin "function.__dict__#set"],bB "getset_descriptor" [uS "__weakref__" 1966,rF 1330,.builtin "ExceptionGroup.__weakref__",nO],bB "super" [rF 1330,rF 1330,rF 1330],bB "builtin_function_or_method" [.builtin "object.__init_subclass__",rF 1330]],
 Bi,
 Bj,
 Bk,
 Bl,
 Bm,
 Bn,
 Bo,
 Bp,
 Bq,
 Br,
 Bs].flatten
end
noncomputable section
def KL (P:Params):Frag:=[(2,b2 P),(3,b3 P),(29,Wl P),(35,ix Jy 5),(36,ix Jy 6),(45,QX P),(46,QY P),(58,Wm P),(59,Wn P),(70,Wo P),(71,Wp P),(82,QZ P),(83,Q1 P),(91,ix Na 5),(92,ix Na 6),(98,ix Nb 5),(99,ix Nb 6),(105,ix GY 5),(106,ix GY 6),(119,ix GZ 5),(120,ix GZ 6),(126,ix G0 5),(127,ix G0 6),(133,ix G1 5),(134,ix G1 6),(140,ix G2 5),(141,ix G2 6),(147,ix G3 5),(148,ix G3 6),(154,ix G4 5),(155,ix G4 6),(161,ix G6 5),(162,ix G6 6),(168,ix G8 5),(169,ix G8 6),(175,ix G9 5),(176,ix G9 6),(182,ix Ha 5),(183,ix Ha 6),(189,ix Hb 5),(190,ix Hb 6),(196,ix Hc 5),(197,ix Hc 6),(205,Q3 P),(209,ix va 3),(210,ix va 4),(223,ix Hd 5),(224,ix Hd 6),(230,ix He 5),(231,ix He 6),(237,ix Hf 5),(238,ix Hf 6),(254,Q4 P),(255,Q5 P),(286,ix Hg 5),(287,ix Hg 6),(310,Q6 P),(311,Q7 P),(328,ix Hh 5),(329,ix Hh 6),(335,ix Hi 5),(336,ix Hi 6),(345,Q8 P),(346,Q9 P),(379,Ra P),(380,Rb P),(390,Rc P),(396,ix B8 5),(397,ix B8 6),(403,ix Hj 5),(404,ix Hj 6),(420,Rd P),(421,Re P),(431,Rg P),(437,ix B9 5),(438,ix B9 6),(444,ix Hk 5),(445,ix Hk 6),(463,ix Hl 5),(464,ix Hl 6),(473,Rh P),(474,Ri P),(484,Rj P),(490,ix Hm 5),(491,ix Hm 6),(495,ix Hn 3),(496,ix Hn 4),(521,ix Ho 5),(522,ix Ho 6),(524,Rk P),(525,Rl P),(549,ix Hp 5),(550,ix Hp 6),(587,Rm P),(588,Rn P),(598,ix Hq 5),(599,ix Hq 6),(612,ix Hr 5),(613,ix Hr 6),(633,ix Hs 5),(634,ix Hs 6),(640,ix Ht 5),(641,ix Ht 6),(647,ix Hu 5),(648,ix Hu 6),(654,ix Hv 5),(655,ix Hv 6),(661,ix Hw 5),(662,ix Hw 6),(668,ix Hx 5),(669,ix Hx 6),(675,ix Hy 5),(676,ix Hy 6),(682,ix Hz 5),(683,ix Hz 6),(689,ix HA 5),(690,ix HA 6),(696,ix HC 5),(697,ix HC 6),(710,ix HD 5),(711,ix HD 6),(719,Ro P),(725,ix yk 5),(726,ix yk 6),(739,ix HE 5),(740,ix HE 6),(763,Rq P),(764,Rr P),(774,ix HG 5),(775,ix HG 6),(781,ix HH 5),(782,ix HH 6),(788,ix HI 5),(789,ix HI 6),(802,ix HJ 5),(803,ix HJ 6),(812,Rt P),(813,Ru P),(830,ix HL 5),(831,ix HL 6),(837,ix HM 5),(838,ix HM 6),(844,ix HN 5),(845,ix HN 6),(851,ix HO 5),(852,ix HO 6),(858,ix HP 5),(859,ix HP 6),(865,ix HQ 5),(866,ix HQ 6),(868,Rv P),(869,Rw P),(879,ix HR 5),(880,ix HR 6),(884,ix HS 3),(885,ix HS 4),(891,ix HT 5),(892,ix HT 6),(898,ix HU 5),(899,ix HU 6),(905,ix HV 5),(906,ix HV 6),(912,ix HW 5),(913,ix HW 6),(919,ix HX 5),(920,ix HX 6),(940,ix HY 5),(941,ix HY 6),(947,ix HZ 5),(948,ix HZ 6),(954,ix H0 5),(955,ix H0 6),(959,ix H1 3),(960,ix H1 4),(966,ix H3 5),(967,ix H3 6),(971,ix H4 3),(972,ix H4 4),(973,Rx P),(979,ix H5 5),(980,ix H5 6),(981,Ry P),(987,ix H6 5),(988,ix H6 6),(994,ix H7 5),(995,ix H7 6),(1001,ix AH 5),(1002,ix AH 6),(1008,ix AI 5),(1009,ix AI 6),(1015,ix AJ 5),(1016,ix AJ 6),(1022,ix AK 5),(1023,ix AK 6),(1029,ix AL 5),(1030,ix AL 6),(1036,ix AM 5),(1037,ix AM 6),(1043,ix AN 5),(1044,ix AN 6),(1050,ix AO 5),(1051,ix AO 6),(1057,ix AP 5),(1058,ix AP 6),(1071,ix AQ 5),(1072,ix AQ 6),(1078,ix AR 5),(1079,ix AR 6),(1085,ix AS 5),(1086,ix AS 6),(1092,ix AU 5),(1093,ix AU 6),(1099,ix AV 5),(1100,ix AV 6),(1106,ix AW 5),(1107,ix AW 6),(1113,ix AX 5),(1114,ix AX 6),(1120,ix AY 5),(1121,ix AY 6),(1127,ix AZ 5),(1128,ix AZ 6),(1141,ix A0 5),(1142,ix A0 6),(1148,ix A1 5),(1149,ix A1 6),(1155,ix A2 5),(1156,ix A2 6),(1158,Nc P),(1159,Nd P),(1169,ix A3 5),(1170,ix A3 6),(1176,ix A4 5),(1177,ix A4 6),(1183,ix A5 5),(1184,ix A5 6),(1190,ix A6 5),(1191,ix A6 6),(1197,ix A7 5),(1198,ix A7 6),(1199,Nf P),(1205,ix wc 5),(1206,ix wc 6),(1212,ix A8 5),(1213,ix A8 6),(1219,ix A9 5),(1220,ix A9 6),(1226,ix Ba 5),(1227,ix Ba 6),(1228,Ng P),(1234,ix Bb 5),(1235,ix Bb 6),(1241,ix Bc 5),(1242,ix Bc 6),(1248,ix Bd 5),(1249,ix Bd 6),(1255,ix Be 5),(1256,ix Be 6),(1260,ix Bf 3),(1261,ix Bf 4),(1274,ix Bg 5),(1275,ix Bg 6),(1300,ix Bh 5),(1301,ix Bh 6),(1329,Nh P),(1330,Ni P),(1338,ix Bi 3),(1339,ix Bi 4),(1345,ix Bj 5),(1346,ix Bj 6),(1352,ix Bk 5),(1353,ix Bk 6),(1357,ix Bl 3),(1358,ix Bl 4),(1364,ix Bm 5),(1365,ix Bm 6),(1371,ix Bn 5),(1372,ix Bn 6),(1378,ix Bo 5),(1379,ix Bo 6),(1383,ix Bp 3),(1384,ix Bp 4),(1390,ix Bq 5),(1391,ix Bq 6),(1397,ix Br 5),(1398,ix Br 6),(1402,ix Bs 3),(1403,ix Bs 4)]
end
section
noncomputable section
noncomputable def P0:Params:={ strHash:=fun _=>0,shareClass:=fun _=>0,mergeTok:=fun t=>t,idOf:=fun _=>0,idOfShared:=fun _ _=>0,followText:=fun _=>false,idOfImm:=fun _=>0 }
def KF (w:World):Frag:=KL w.params
def K0:Frag:=KL P0
noncomputable def rR (d:Data):Bool:=d.ctorIdx==3
noncomputable def Ca (d:Data):List DictEntry:=@Data.casesOn (fun _=>List DictEntry) d [] (fun _=>[]) (fun _ _=>[]) (fun e _=>e.toList) (fun _ _ _=>[]) (fun _ _=>[]) (fun _=>[]) (fun _=>[]) (fun _=>[]) (fun _=>[]) []
def nz (p:Addr×Obj):Addr×Bool×List (Value×Value)×Obj:=(p.1,rR p.2.data,(Ca p.2.data).map kvOf,if rR p.2.data then { p.2 with data:=.plain } else p.2)
theorem Nj {d:Data}(h:rR d=true) {P:Data→Prop}(k:∀ es n,P (.dict es n)):P d:=Data.dict.elim (motive:=P) d (beq_iff_eq.mp h) k
theorem XG {p q:Addr×Obj}(h:nz p=nz q):p.1=q.1∧mj p.2 q.2:=by
 obtain⟨a,c,d,x,sl⟩:=p
 obtain⟨b,c',d',x',sl'⟩:=q
 have h1:a=b:=congrArg (·.1) h
 have h2:rR x=rR x':=congrArg (·.2.1) h
 have h3:(Ca x).map kvOf=(Ca x').map kvOf:=congrArg (·.2.2.1) h
 have h4:(if rR x then(⟨c,d,.plain,sl⟩:Obj)else⟨c,d,x,sl⟩)=(if rR x' then(⟨c',d',.plain,sl'⟩:Obj)else⟨c',d',x',sl'⟩):=congrArg (·.2.2.2) h
 refine⟨h1,?_⟩
 cases e:rR x with
 | true=>
  rw[← h2,e]at h4
  have e':=h2.symm.trans e
  injection h4 with g1 g2 g3 g4
  subst g1;subst g2;subst g4
  revert h3
  exact Nj (P:=fun x=>(Ca x).map kvOf=(Ca x').map kvOf→mj ⟨c,d,x,sl⟩ ⟨c,d,x',sl⟩) e fun es n=>Nj (P:=fun y=>(Ca (.dict es n)).map kvOf=(Ca y).map kvOf→mj ⟨c,d,.dict es n,sl⟩ ⟨c,d,y,sl⟩) e' fun es' n' h3=>.dict h3
 | false=>
  rw[← h2,e]at h4
  injection h4 with g1 g2 g3 g4
  subst g1;subst g2;subst g4
  exact(show x=x' from g3)▸.refl _
theorem Rz:∀ {K K':Frag},K.map nz=K'.map nz→ec K K':=fun {K K'}=>by
 induction K generalizing K' with
 | nil=>cases K' with
  | nil=>exact fun _=>.nil
  | cons=>exact fun h=>nomatch h
 | cons p K ih=>cases K' with
  | nil=>exact fun h=>nomatch h
  | cons q K'=>
   intro h
   injection h with h1 h2
   obtain⟨e,s⟩:=XG h1
   obtain⟨a,o⟩:=p
   obtain⟨b,o'⟩:=q
   cases e
   exact .cons s (ih h2)
theorem bD (w:World):ec (KF w) K0:=Rz (show(KL w.params).map nz=(KL P0).map nz by kernel_rfl)
noncomputable def Wq (s:PySem.Stmt):List PySem.Stmt:=@PySem.Stmt.casesOn (fun _=>List PySem.Stmt) s (fun _ _ b _ _ _ _ _ _ _=>b) (fun _ _ _ _ _ _ _ _ _ _=>[]) (fun _ _ _ b _ _ _ _ _ _ _=>b) (fun _ _=>[]) (fun _ _=>[]) (fun _ _ _=>[]) (fun _ _ _ _ _ _ _=>[]) (fun _ _ _ _=>[]) (fun _ _ _ _ _=>[]) (fun _ _ _ _ _=>[]) (fun _ _ _ _ _=>[]) (fun _ _ _ _=>[]) (fun _ _ _ _=>[]) (fun _ _ _=>[]) (fun _ _ _=>[]) (fun _ _ _=>[]) (fun _ _ _=>[]) (fun _ _ _ _ _=>[]) (fun _ _ _ _ _=>[]) (fun _ _ _=>[]) (fun _ _=>[]) (fun _ _ _ _=>[]) (fun _ _=>[]) (fun _ _=>[]) (fun _ _=>[]) (fun _=>[]) (fun _=>[]) (fun _=>[])
def dW (i:Nat):List PySem.Stmt:=Wq (PB.getD i default)
def rS (i j:Nat):List PySem.Stmt:=Wq ((dW i).getD j default)
theorem bY {P:Addr→FS→Prop}:∀ C spec,(C,spec)∈([]:List (Addr×FS))→P C spec:=fun _ _ h=>nomatch h
theorem Ph {P:Addr→FS→Prop}{C0:Addr}{s0:FS}{r:List (Addr×FS)}(h:P C0 s0) (hr:∀ C spec,(C,spec)∈r→P C spec):∀ C spec,(C,spec)∈(C0,s0)::r→P C spec:=fun C spec hm=>by
 rcases List.mem_cons.mp hm with e | e
 ·cases e;exact h
 ·exact hr C spec e
theorem pP {p:Addr→Nat→Bool}(h:(za.all fun q=>q.2.all fun i=>p q.1 i)=true) {C:Addr}{i:Nat}(e:eU C i=true):p C i=true:=by
 unfold eU at e
 split at e
 ·rename_i l hl
  exact List.all_eq_true.mp (List.all_eq_true.mp h _ (lookup_mem hl)) i (List.contains_iff_mem.mp e)
 ·cases e
theorem Pi:I0 KF:=fun C i h=>⟨of_decide_eq_true (pP (p:=fun _ i=>decide (i<48)) (by decide) h),fun w=>((bD w).attrCheck C i).trans (pP (p:=fun C i=>j9 K0 C i) (by decide +kernel) h)⟩
theorem ig:AF KF:=fun C i h=>⟨of_decide_eq_true (pP (p:=fun _ i=>decide (i<48)) (by decide) h),fun w=>((bD w).setCheck C i).trans (pP (p:=fun C i=>lV K0 C i) (by decide +kernel) h)⟩
def GL:List (Str×Option Value):=[((Str.ofString "BAD"),some (.str (Str.ofString "(bad)") 1690)),((Str.ofString "CONDITIONS"),some (.str (Str.ofString "o no b ae e ne be a s ns p np l ge le g") 353)),((Str.ofString "COUNT_NAMES"),some (.str (Str.ofString "rol ror rcl rcr shl shr sar shld shrd") 1507)),((Str.ofString "DATA_decoder"),some (.int (102) 1210)),((Str.ofString "DATA_prefixes"),some (.int (102) 1063)),((Str.ofString "ESCAPE"),some (.int (15) 1208)),((Str.ofString "FIGURES"),some (.str (Str.ofString "0123456789abcdef") 196)),((Str.ofString "FROM_RIP"),some (.int (5) 985)),((Str.ofString "FS"),some (.int (100) 1059)),((Str.ofString "GS"),some (.int (101) 1061)),((Str.ofString "LOCK"),some (.int (240) 1069)),((Str.ofString "MOST_OCTETS"),some (.int (15) 1206)),((Str.ofString "NAMES_16"),some (.str (Str.ofString "ax cx dx bx sp bp si di") 856)),((Str.ofString "NAMES_32"),some (.str (Str.ofString "eax ecx edx ebx esp ebp esi edi") 858)),((Str.ofString "NAMES_64"),some (.str (Str.ofString "rax rcx rdx rbx rsp rbp rsi rdi") 860)),((Str.ofString "NAMES_8"),some (.str (Str.ofString "al cl dl bl spl bpl sil dil") 854)),((Str.ofString "NOP"),some (.int (144) 1212)),((Str.ofString "NO_BASE"),some (.int (5) 981)),((Str.ofString "NO_INDEX"),some (.int (4) 979)),((Str.ofString "PLAIN_ATT"),some (.str (Str.ofString "cbtw cwtl cltq cwtd cltd cqto movsl cmpsl stosl lodsl scasl") 1513)),((Str.ofString "PLAIN_INTEL"),some (.str (Str.ofString "cbw cwde cdqe cwd cdq cqo movsd cmpsd stosd lodsd scasd") 1511)),((Str.ofString "REGISTER"),some (.int (3) 1214)),((Str.ofString "REP"),some (.int (243) 1067)),((Str.ofString "REPNE"),some (.int (242) 1065)),((Str.ofString "TARGET_NAMES"),some (.str (Str.ofString "jmp call") 1509)),((Str.ofString "WITH_SIB"),some (.int (4) 983)),((Str.ofString "Exception"),Option.none),((Str.ofString "abs"),Option.none),((Str.ofString "any"),Option.none),((Str.ofString "bytes"),Option.none),((Str.ofString "enumerate"),Option.none),((Str.ofString "int"),Option.none),((Str.ofString "len"),Option.none),((Str.ofString "list"),Option.none),((Str.ofString "range"),Option.none),((Str.ofString "sorted"),Option.none),((Str.ofString "str"),Option.none),((Str.ofString "sum"),Option.none),((Str.ofString "tuple"),Option.none),((Str.ofString "zip"),Option.none)]
theorem Vv:(GL.all fun p=>nsIn K0 mainGlobals p.1==some p.2)=true:=by decide +kernel
theorem bX {x:Str}{v:Option Value}(w:World) (i:Nat) (h:GL[i]?=some (x,v)):nsIn (KF w) mainGlobals x=some v:=
 ((bD w).nsIn _ _).trans (beq_iff_eq.mp (List.all_eq_true.mp Vv _ (List.mem_of_getElem? h)))
noncomputable def FT:List (Str×Addr):=[((Str.ofString "_law_pen"),1339),((Str.ofString "codes_of"),1261),((Str.ofString "InstructionSet"),1330),((Str.ofString "is_fixed"),155),((Str.ofString "is_immediate"),162),((Str.ofString "is_relative"),169),((Str.ofString "takes_memory"),176),((Str.ofString "slot_of"),197),((Str.ofString "Form"),255),((Str.ofString "condition_names"),148),((Str.ofString "jump_forms"),1242),((Str.ofString "call_forms"),1249),((Str.ofString "loop_forms"),1256),((Str.ofString "every_size"),1213),((Str.ofString "kind_of"),1220),((Str.ofString "paired"),1227),((Str.ofString "load_forms"),1235),((Str.ofString "_law_little"),1358),((Str.ofString "_law_laid"),1372),((Str.ofString "_law_draw"),1346),((Str.ofString "_law_pick"),1353),((Str.ofString "_law_rows"),1365),((Str.ofString "_law_names"),1379),((Str.ofString "names_by_place"),1177),((Str.ofString "Prefixes"),764),((Str.ofString "is_rex"),697),((Str.ofString "with_rex"),775),((Str.ofString "sort_of"),711),((Str.ofString "with_legacy"),782),((Str.ofString "read_prefixes"),789),((Str.ofString "rex_bits"),690),((Str.ofString "Frame"),869),((Str.ofString "unpack_three"),641),((Str.ofString "unpack_modrm"),648),((Str.ofString "octet_at"),662),((Str.ofString "disp_width_of"),669),((Str.ofString "mask"),92),((Str.ofString "wrap"),99),((Str.ofString "signed"),106),((Str.ofString "from_little"),120),((Str.ofString "from_little_signed"),127),((Str.ofString "read_modrm"),676),((Str.ofString "fits_nop"),892),((Str.ofString "fits_mod"),885),((Str.ofString "fits_size"),880),((Str.ofString "DecodeError"),83),((Str.ofString "picked"),899),((Str.ofString "read_frame"),972),((Str.ofString "Operand"),311),((Str.ofString "Reg"),346),((Str.ofString "early_names"),599),((Str.ofString "Register"),588),((Str.ofString "gpr"),613),((Str.ofString "register_at"),906),((Str.ofString "kind_size"),183),((Str.ofString "reg_operand"),913),((Str.ofString "Mem"),474),((Str.ofString "rip"),634),((Str.ofString "unpack_sib"),655),((Str.ofString "memory_of"),683),((Str.ofString "rm_operand"),920),((Str.ofString "kind_width"),190),((Str.ofString "Rel"),421),((Str.ofString "written_operand"),948),((Str.ofString "field_at"),941),((Str.ofString "operands_of"),955),((Str.ofString "check_used"),960),((Str.ofString "Instruction"),525),((Str.ofString "prefix_word"),967),((Str.ofString "Decoded"),813),((Str.ofString "decode"),980),((Str.ofString "decode_or_none"),988),((Str.ofString "Row"),1159),((Str.ofString "figures_of"),134),((Str.ofString "hex_text"),141),((Str.ofString "sum_text"),1016),((Str.ofString "ahead_text"),1023),((Str.ofString "size_word"),1002),((Str.ofString "memory_intel"),1114),((Str.ofString "operand_intel"),1121),((Str.ofString "with_prefix"),1086),((Str.ofString "write_intel"),1128),((Str.ofString "is_wide_constant"),1072),((Str.ofString "att_name"),1079),((Str.ofString "is_count"),1037),((Str.ofString "is_general"),1030),((Str.ofString "size_letter"),995),((Str.ofString "suffix_of"),1058),((Str.ofString "plus_text"),1009),((Str.ofString "memory_att"),1044),((Str.ofString "operand_att"),1051),((Str.ofString "is_target"),1093),((Str.ofString "texts_att"),1100),((Str.ofString "write_att"),1107),((Str.ofString "written"),1170),((Str.ofString "named_operand"),1184),((Str.ofString "named"),1191),((Str.ofString "row_at"),1198),((Str.ofString "sweep"),1206),((Str.ofString "_law_told"),1398),((Str.ofString "_law_name_at"),1384),((Str.ofString "_law_due"),1391)]
theorem Vw:(FT.all fun p=>nsIn K0 mainGlobals p.1==some (some (.ref p.2))&&keepIn K0 (.ref p.2))=true:=by decide +kernel
theorem Bt {x:Str}{a:Addr}{i:Nat}(h:FT[i]?=some (x,a)) (w:World):nsIn (KF w) mainGlobals x=some (some (.ref a))∧keepIn (KF w) (.ref a)=true:=by
 have:=List.all_eq_true.mp Vw _ (List.mem_of_getElem? h)
 rw[Bool.and_eq_true,beq_iff_eq]at this
 exact⟨((bD w).nsIn _ _).trans this.1,((bD w).keepIn _).trans this.2⟩
def Nk (C:Addr) (n:Str) (f:Addr):Bool:=plainGet K0 C n&&(findIn K0 (.ref C) n==some (some (.ref f)))&&isFn K0 (.ref f)&&keepIn K0 (.ref f)
theorem cM {C:Addr}{n:Str}{f:Addr}(h:Nk C n f=true):MethAt KF C n f:=by
 simp only[Nk,Bool.and_eq_true,beq_iff_eq]at h
 exact⟨fun w=>((bD w).plainGet _ _).trans h.1.1.1,fun w=>((bD w).findIn _ _).trans h.1.1.2,fun w=>((bD w).isFn _).trans h.1.2,fun w=>((bD w).keepIn _).trans h.2⟩
def RG (C:Addr) (n:Str) (f:Addr):Bool:=(specialIn K0 (.ref C) "__getattribute__"==some (some (.builtin "type.__getattribute__")))&&(typeIn K0 (.ref C)==some (.type "type"))&&readsIn K0 C (.type "type")&&(match findCls K0 (.ref C) (.type "type") n with | some (.val (.ref g))=>g==f | _=>false)&&keepIn K0 (.ref f)
theorem H8 {C:Addr}{n:Str}{f:Addr}(h:RG C n f=true):tD KF C n f:=by
 simp only[RG,Bool.and_eq_true,beq_iff_eq]at h
 obtain⟨⟨⟨⟨h1,h2⟩,h3⟩,h4⟩,h5⟩:=h
 refine⟨fun w=>((bD w).specialIn _ _).trans h1,fun w=>⟨_,((bD w).typeIn _).trans h2,((bD w).readsIn _ _).trans h3,((bD w).findCls _ _ _).trans ?_⟩,fun w=>((bD w).keepIn _).trans h5⟩
 revert h4
 split
 ·rename_i g e;intro h4;rw[e,beq_iff_eq.mp h4]
 ·intro h4;cases h4
theorem Vx:(K0.map (·.1)).Nodup:=by decide +kernel
theorem Cb:∀ {K K':Frag},ec K K'→K.map (·.1)=K'.map (·.1)
 | _,_,.nil=>rfl
 | _,_,.cons _ h=>by simp only[List.map_cons,Cb h]
theorem E4 {a:Addr}{o:Obj}:∀ {K:Frag}{i:Nat},(K.map (·.1)).Nodup→K[i]?=some (a,o)→K.lookup a=some o
 | [],i,_,h=>by simp at h
 | (b,q)::K,0,_,h=>by simp only[List.getElem?_cons_zero,Option.some.injEq,Prod.mk.injEq]at h;obtain⟨rfl,rfl⟩:=h;simp[List.lookup]
 | (b,q)::K,i+1,hn,h=>by
  simp only[List.getElem?_cons_succ]at h
  simp only[List.map_cons,List.nodup_cons]at hn
  have hne:(a==b)=false:=by
   rw[beq_eq_false_iff_ne];rintro rfl;exact hn.1 (List.mem_map.mpr ⟨_,List.mem_of_getElem? h,rfl⟩)
  simp only[List.lookup,hne]
  exact E4 hn.2 h
theorem lk {a:Addr}{o:Obj}{w:World}{i:Nat}(h:(KF w)[i]?=some (a,o)):(KF w).lookup a=some o:=E4 (by rw[Cb (bD w)];exact Vx) h
theorem Cc {i:Nat}{o:Params→Obj}{f:Addr}{body:List PySem.Stmt}{scope:Scope}{pn:List Str}{g k:Nat}{dvs:List Value}{oc od name qual params dV kV doc pm an cdv ct osl}
  (hi:∀ w,(KF w)[i]?=some (f,o w.params)) (ho:∀ P,o P=⟨oc,od,.func (fnOf name qual params body scope dV kV doc pm an cdv ct),osl⟩) (hc:codeIn K0 cdv qual=true)
  (hb:∀ w (s:Shared) vs,(KF w).In s.heap→vs.length=g→BindsTo s (fnOf name qual params body scope dV kV doc pm an cdv ct) ⟨vs,[]⟩ (pn.zip (vs++dvs)))
  (names:Loc scope=pn++(Loc scope).drop pn.length) (cnt:pn.length=g+dvs.length) (kcnt:(Loc scope).length=pn.length+k) (nd:(Loc scope).Nodup)
  (loc:∀ y∈pn,scope.names.lookup y=some .local) (cell:∀ x∈scope.names,x.2≠.cell) (co:scope.isCoroutine=false) (gen:scope.isGenerator=false) (kind:scope.kind=.function):de KF f body scope pn g k dvs:=
 ⟨fun w _ k=>k oc od name qual params dV kV doc pm an cdv ct osl ((lk (hi w)).trans (congrArg some (ho w.params))) (((bD w).codeIn _ _).trans hc) (hb w),names,cnt,kcnt,nd,loc,cell,co,gen,kind⟩
theorem Jz {i:Nat}{o:Params→Obj}{f:Addr}{body:List PySem.Stmt}{scope:Scope}{pn:List Str}{oc od name qual params dV kV doc pm an cdv ct osl}
  (hi:∀ w,(KF w)[i]?=some (f,o w.params)) (ho:∀ P,o P=⟨oc,od,.func (fnOf name qual params body scope dV kV doc pm an cdv ct),osl⟩) (hc:codeIn K0 cdv qual=true)
  (hb:∀ w (s:Shared) vs,(KF w).In s.heap→vs.length=pn.length→BindsTo s (fnOf name qual params body scope dV kV doc pm an cdv ct) ⟨vs,[]⟩ (pn.zip vs))
  (pnd:pn.Nodup) (kinds:∀ y∈pn,scope.names.lookup y=some .local∨scope.names.lookup y=some .cell) (loc:∀ y∈Loc scope,scope.names.lookup y=some .local) (cel:∀ y∈Cel scope,scope.names.lookup y=some .cell)
  (cnd:((cellsFrom 0 scope.names []).map (·.1)).Nodup) (co:scope.isCoroutine=false) (gen:scope.isGenerator=false) (kind:scope.kind=.function):oG KF f body scope pn:=
 ⟨fun w _ k=>k oc od name qual params dV kV doc pm an cdv ct osl ((lk (hi w)).trans (congrArg some (ho w.params))) (((bD w).codeIn _ _).trans hc) (hb w),pnd,kinds,loc,cel,cnd,co,gen,kind⟩
theorem Pj:PlainAttrs "list":=PySem.F.plainAttrs_list
theorem fJ:PlainAttrs "str":=PySem.F.plainAttrs_str
theorem Pk:PlainAttrs "dict":=PySem.F.plainAttrs_dict
theorem JC:PySem.Slot "list" "append" "list.append":=PySem.F.slot_list_append
theorem fw:PySem.Slot "str" "split" "str.split":=PySem.F.slot_str_split
theorem E5:PySem.Slot "str" "join" "str.join":=PySem.F.slot_str_join
theorem JD:PySem.Slot "str" "lstrip" "str.lstrip":=PySem.F.slot_str_lstrip
theorem RH:PySem.Slot "dict" "get" "dict.get":=PySem.F.slot_dict_get
theorem E6 {w:World}{i:Nat}{N:Addr}{o:Obj}{c:Value}{dd:Option Addr}{es:Array DictEntry}{n:Nat}{sl:Array (Option Value)}(h:(KF w)[i]?=some (N,o)) (ho:o=⟨c,dd,.dict es n,sl⟩) (hb:(es.toList.all fun e=>match e.key with | .str _ _=>true | _=>false)=true):nsOkIn (KF w) N=true:=by
 unfold nsOkIn;rw[lk h,ho];exact(Array.all_toList (as:=es)).symm.trans hb
abbrev zr (s:Scope):Prop:=((s.names.filter fun y=>y.2==.local).map (·.1)).Nodup
abbrev GG (x:Str) (v:Option Value):Prop:=∀ w,nsIn (KF w) mainGlobals x=some v
def Gb (x:Str) (v:Value):Prop:=GG x none∧bootBuiltins x=some v∧x≠"__name__"∧(x==("__debug__":Str))=false∧Qp v
noncomputable def hW (e:PySem.Expr):Bool:=!(e.ctorIdx==22)
theorem iu {e:PySem.Expr}(es) (h:hW e=true) (env:Env):starEach (e::es) env=(false,eval e env)::starEach es env:=by
 cases e <;> first | rfl | cases h
noncomputable def nC (e:PySem.Expr):Bool:=!(e.ctorIdx==8 || e.ctorIdx==9 || e.ctorIdx==10)
theorem tG {e:PySem.Expr}{t l}(h:nC e=true) (env:Env):swapsWith e t l env=pure false:=by
 cases e <;> first | rfl | cases h
noncomputable def H9 (e:PySem.Expr):Bool:=!(e.ctorIdx==16)
theorem Pl {cs v a p}(h:H9 v=true):zb cs v a p:=by
 cases v <;> first | exact fun _ _ _ _ _ _=>rfl | cases h
noncomputable def Nl (cs:Scope) (x:Str):Bool:=match cs.names.lookup x with | some .local=>true | _=>false
noncomputable def nD (cs:Scope) (x:Str):Bool:=match cs.names.lookup x with | some .globalImplicit=>true | _=>false
theorem Cd {cs x}(h:Nl cs x=true):cs.names.lookup x=some .local:=by
 unfold Nl at h;split at h <;> first | assumption | cases h
theorem wd {cs x}(h:nD cs x=true):cs.names.lookup x=some .globalImplicit:=by
 unfold nD at h;split at h <;> first | assumption | cases h
noncomputable def rT (x:Str):Bool:=!(x==("__debug__":Str))
theorem rU {x}(h:rT x=true):(x==("__debug__":Str))=false:=by simpa[rT]using h
noncomputable def Nn (l:List Str) (i:Nat) (x:Str):Bool:=match l[i]? with | some y=>y==x | none=>false
theorem Ce {l i x}(h:Nn l i x=true):l[i]?=some x:=by
 unfold Nn at h;split at h
 ·rename_i y e;rw[e,beq_iff_eq.mp h]
 ·cases h
def qq (cs:Scope) (x:Str) (i:Nat):Bool:=Nl cs x&&Nn ((cs.names.filter fun y=>y.2==.local).map (·.1)) i x
def Np (i:Nat) (x:Str) (a:Addr):Bool:=match FT[i]? with | some (y,b)=>y==x&&Nat.beq b a | none=>false
theorem Cf {i x a}(h:Np i x a=true):FT[i]?=some (x,a):=by
 unfold Np at h;split at h
 ·rename_i y b e;rw[Bool.and_eq_true]at h;rw[e,beq_iff_eq.mp h.1,Nat.eq_of_beq_eq_true h.2]
 ·cases h
section
variable {D D':Nat}{cs:Scope}
theorem st {x:Str}{i:Nat}(nd:zr cs) (h:qq cs x i=true):Slot cs x i:=by
 rw[qq,Bool.and_eq_true]at h;exact⟨Cd h.1,Ce h.2,nd⟩
theorem jn {x p i}(h:(qq cs x i&&rT x)=true):JE PW KF D cs (.Name x p) (aa i):=by
 rw[qq,Bool.and_eq_true,Bool.and_eq_true]at h;exact UU (Cd h.1.1) (Ce h.1.2) (rU h.2)
theorem jl {e es w r}(h:JE PW KF D cs e w) (hr:JL PW KF D cs es r) (he:hW e=true):JL PW KF D cs (e::es) (ae w r):=Qj (iu es he) h hr
theorem ja {v p w}(i:Nat) (h:JE PW KF D cs v w) (hs:H9 v=true):JE PW KF D cs (.Attribute v (attrName i) p) (ao i w):=Vb Pi (Pl hs) h
theorem E7 {x a}(i:Nat) (h:(nD cs x&&rT x&&Np i x a)=true):Glob KF cs x (.ref a):=by
 rw[Bool.and_eq_true,Bool.and_eq_true]at h;exact⟨wd h.1.1,fun w=>(Bt (Cf h.2) w).1,rU h.1.2⟩
theorem ZO {x a}(i:Nat) (h:FT[i]?=some (x,a)) (w:World):keepIn (KF w) (.ref a)=true:=(Bt h w).2
def fB (cs:Scope) (x:Str) (i a D' D:Nat):Bool:=nD cs x&&rT x&&Np i x a&&Nat.ble D' D
theorem jg {x p pos e es wa spec a}(i:Nat) (hf:JF PW KF D' (.ref a) spec) (ha:JL PW KF (D+1) cs (e::es) wa) (h:(fB cs x i a D' D&&hW e)=true):JE PW KF (D+1) cs (.Call (.Name x p) (e::es) [] pos) (aq spec wa):=by
 rw[fB,Bool.and_eq_true,Bool.and_eq_true]at h
 have hi:=h.1.1;rw[Bool.and_eq_true]at hi
 exact Qk (E7 i h.1.1) (fun w=>(Bt (Cf hi.2) w).2) (JF.up hf (Nat.le_of_ble_eq_true h.1.2)) rfl ha (iu es h.2)
theorem ZP {x p pos spec a}(i:Nat) (hf:JF PW KF D' (.ref a) spec) (h:fB cs x i a D' D=true):JE PW KF (D+1) cs (.Call (.Name x p) [] [] pos) (aq spec ah):=by
 rw[fB,Bool.and_eq_true]at h
 have hi:=h.1;rw[Bool.and_eq_true]at hi
 exact ON (E7 i h.1) (fun w=>(Bt (Cf hi.2) w).2) (JF.up hf (Nat.le_of_ble_eq_true h.2))
theorem JG {x v}(g:Gb x v) (h:nD cs x=true):pF KF cs x v:=⟨wd h,g.1,g.2.1,g.2.2.1,g.2.2.2.1⟩
theorem jb {x v p pos e es wa f}(g:Gb x v) (hf:JB PW KF D v f) (ha:JL PW KF D cs (e::es) wa) (h:(nD cs x&&hW e)=true):JE PW KF D cs (.Call (.Name x p) (e::es) [] pos) (aF f wa):=by
 rw[Bool.and_eq_true]at h;exact Qq (JG g h.1) g.2.2.2.2 hf rfl ha (iu es h.2)
theorem ZQ {x p n t}(g:GG x (some (.int n t))) (h:(nD cs x&&rT x)=true):JE PW KF D cs (.Name x p) (aj n):=by
 rw[Bool.and_eq_true]at h;exact IZ (y:=.int n) ⟨wd h.1,g,rU h.2⟩ fun _ _ _=>.int _ _
theorem ZR {x p n t}(g:GG x (some (.str n t))) (h:(nD cs x&&rT x)=true):JE PW KF D cs (.Name x p) (au n):=by
 rw[Bool.and_eq_true]at h;exact IZ (y:=.str n) ⟨wd h.1,g,rU h.2⟩ fun _ _ _=>.str _ _
noncomputable def subB (e:PySem.Expr):Bool:=!(e.ctorIdx==26 || e.ctorIdx==25)
theorem RI {e:PySem.Expr}(h:subB e=true):uZ e:=by
 cases e <;> first | exact fun _ _=>rfl | cases h
theorem ZS {v s p wl wr}(hl:JE PW KF D cs v wl) (hr:JE PW KF D cs s wr) (h:subB s=true):JE PW KF D cs (.Subscript v s p) (ag az wl wr):=Ve (Vp (RI h)) hl hr
theorem js {x px e p w i}(nd:zr cs) (h:JE PW KF D cs e w) (hb:(qq cs x i&&nC e)=true):JX PW KF D cs (.Assign [.Name x px] e p) (aG i w):=by
 rw[Bool.and_eq_true]at hb;exact Xy (st nd hb.1) h (tG hb.2)
theorem ZT {o p' e p wo we}(i:Nat) (he:JE PW KF D cs e we) (ho:JE PW KF D cs o wo) (hb:nC e=true):JX PW KF D cs (.Assign [.Attribute o (attrName i) p'] e p) (aQ i we wo):=Qm ig he ho (tG hb)
noncomputable def E8 (s:Scope):Bool:=match s.kind with | .function=>true | _=>false
theorem Cg {s}(h:E8 s=true):s.kind=.function:=by
 unfold E8 at h;split at h <;> first | assumption | cases h
theorem je {e p w}(h:JE PW KF D cs e w) (hb:(nC e&&E8 cs)=true):JX PW KF D cs (.Expr e p) (bR w):=by
 rw[Bool.and_eq_true]at hb;exact Vg h (fun _ _ _ _ _ _=>by simp[interactive,envG,Cg hb.2]) (tG hb.1)
theorem jf {x px it body pos wi i wb}(nd:zr cs) (hi:JI PW KF D cs (.Name x px) it wi) (hb:JS PW KF D cs body wb) (h:qq cs x i=true) (hs:∀ env x,foldedSetIterable it env x=pure x):JX PW KF D cs (.For (.Name x px) it body [] pos) (cZ wi [i] wb):=Qo (sl:=[i]) hi (.name (st nd h)) hb hs
def L1 (s:Scope) (n k:Nat):Bool:=Nat.beq (Loc s).length (n+k)&&((Loc s).take n).all (Nl s)&&s.names.all (fun x=>match x.2 with | .cell=>false | _=>true)&&!s.isCoroutine&&!s.isGenerator&&E8 s
theorem dk {f:Addr}{body:List PySem.Stmt}{s:Scope}{g k:Nat}{dvs:List Value}{oc od name qual params dV kV doc pm an cdv ct osl}(i n:Nat) (o:Params→Obj) (nd:zr s)
  (hi:∀ w,(KF w)[i]?=some (f,o w.params)) (ho:∀ P,o P=⟨oc,od,.func (fnOf name qual params body s dV kV doc pm an cdv ct),osl⟩) (hc:codeIn K0 cdv qual=true)
  (hb:∀ w (s':Shared),(KF w).In s'.heap→∀ vs,vs.length=g→BindsTo s' (fnOf name qual params body s dV kV doc pm an cdv ct) ⟨vs,[]⟩ (((Loc s).take n).zip (vs++dvs))) (h:(Nat.beq n (g+dvs.length)&&L1 s n k)=true):de KF f body s ((Loc s).take n) g k dvs:=by
 simp only[L1,Bool.and_eq_true,Bool.not_eq_true',List.all_eq_true]at h
 obtain⟨h0,⟨⟨⟨⟨h1,h2⟩,h3⟩,h4⟩,h5⟩,h6⟩:=h
 have h1:=Nat.eq_of_beq_eq_true h1
 have hl:((Loc s).take n).length=n:=by rw[List.length_take];omega
 refine Cc hi ho hc (fun w s' vs X e=>hb w s' X vs e) (by rw[hl,List.take_append_drop]) (hl.trans (Nat.eq_of_beq_eq_true h0)) (by rw[hl];exact h1) nd (fun y hy=>Cd (h2 y hy)) (fun x hx e=>by have:=h3 x hx;rw[e]at this;cases this) h4 h5 (Cg h6)
section
variable {f:Addr}{body:List PySem.Stmt}{s:Scope}{pn:List Str}{g k:Nat}{w:W2}
theorem dN (H:de KF f body s pn g k []) (hb:JS PW KF D s body w):JF PW KF D (.ref f) (sp g 0 k w []):=om (dxs:=[]) H (fun _ _ _=>VRs.nil) hb
theorem bu (H:de KF f body s pn g k []) (hb:JS PW KF D s body w):JF PW KF D (.ref f) (av (sp g 0 k w [])):=(dN H hb).pure
theorem zt (H:de KF f body s pn g k []) (hb:JS PW KF D s body w):JF PW KF D (.ref f) (cL (sp g 0 k w [])):=(dN H hb).frz
end
section
variable {P:List Value→Prop}
theorem wg {n:Nat}{P:List Value→Prop}(h:∀ a vs,vs.length=n→P (a::vs)) (vs:List Value) (e:vs.length=n+1):P vs:=by
 cases vs with
 | nil=>exact Nat.noConfusion e
 | cons a vs=>exact h a vs (Nat.succ.inj e)
theorem Wr (h:P []) (vs:List Value) (e:vs.length=0):P vs:=List.eq_nil_of_length_eq_zero e▸h
theorem Ws (h:∀ a,P [a]):∀ vs,vs.length=1→P vs:=wg fun a=>Wr (P:=fun vs=>P (a::vs)) (h a)
theorem RJ (h:∀ a b,P [a,b]):∀ vs,vs.length=2→P vs:=wg fun a=>Ws (P:=fun vs=>P (a::vs)) (h a)
theorem Wt (h:∀ a b c,P [a,b,c]):∀ vs,vs.length=3→P vs:=wg fun a=>RJ (P:=fun vs=>P (a::vs)) (h a)
theorem Wu (h:∀ a b c d,P [a,b,c,d]):∀ vs,vs.length=4→P vs:=wg fun a=>Wt (P:=fun vs=>P (a::vs)) (h a)
theorem Wv (h:∀ a b c d e,P [a,b,c,d,e]):∀ vs,vs.length=5→P vs:=wg fun a=>Wu (P:=fun vs=>P (a::vs)) (h a)
theorem Ww (h:∀ a b c d e f,P [a,b,c,d,e,f]):∀ vs,vs.length=6→P vs:=wg fun a=>Wv (P:=fun vs=>P (a::vs)) (h a)
theorem Wx (h:∀ a b c d e f g,P [a,b,c,d,e,f,g]):∀ vs,vs.length=7→P vs:=wg fun a=>Ww (P:=fun vs=>P (a::vs)) (h a)
theorem Wy (h:∀ a b c d e f g i,P [a,b,c,d,e,f,g,i]):∀ vs,vs.length=8→P vs:=wg fun a=>Wx (P:=fun vs=>P (a::vs)) (h a)
theorem ZU (h:∀ a b c d e f g i j,P [a,b,c,d,e,f,g,i,j]):∀ vs,vs.length=9→P vs:=wg fun a=>Wy (P:=fun vs=>P (a::vs)) (h a)
end
end
theorem RK:GG "BAD" (some (.str "(bad)" 1690)):=fun w=>bX w 0 rfl
theorem zU:GG "CONDITIONS" (some (.str "o no b ae e ne be a s ns p np l ge le g" 353)):=fun w=>bX w 1 rfl
theorem yl:GG "COUNT_NAMES" (some (.str "rol ror rcl rcr shl shr sar shld shrd" 1507)):=fun w=>bX w 2 rfl
theorem nE:GG "DATA_decoder" (some (.int (102) 1210)):=fun w=>bX w 3 rfl
theorem vb:GG "DATA_prefixes" (some (.int (102) 1063)):=fun w=>bX w 4 rfl
theorem JH:GG "ESCAPE" (some (.int (15) 1208)):=fun w=>bX w 5 rfl
theorem Ia:GG "FIGURES" (some (.str "0123456789abcdef" 196)):=fun w=>bX w 6 rfl
theorem uv:GG "FROM_RIP" (some (.int (5) 985)):=fun w=>bX w 7 rfl
theorem Nq:GG "FS" (some (.int (100) 1059)):=fun w=>bX w 8 rfl
theorem Vy:GG "GS" (some (.int (101) 1061)):=fun w=>bX w 9 rfl
theorem Pm:GG "LOCK" (some (.int (240) 1069)):=fun w=>bX w 10 rfl
theorem ym:GG "MOST_OCTETS" (some (.int (15) 1206)):=fun w=>bX w 11 rfl
theorem DV:GG "NAMES_16" (some (.str "ax cx dx bx sp bp si di" 856)):=fun w=>bX w 12 rfl
theorem DW:GG "NAMES_32" (some (.str "eax ecx edx ebx esp ebp esi edi" 858)):=fun w=>bX w 13 rfl
theorem DX:GG "NAMES_64" (some (.str "rax rcx rdx rbx rsp rbp rsi rdi" 860)):=fun w=>bX w 14 rfl
theorem Ib:GG "NAMES_8" (some (.str "al cl dl bl spl bpl sil dil" 854)):=fun w=>bX w 15 rfl
theorem RM:GG "NOP" (some (.int (144) 1212)):=fun w=>bX w 16 rfl
theorem wh:GG "NO_BASE" (some (.int (5) 981)):=fun w=>bX w 17 rfl
theorem DY:GG "NO_INDEX" (some (.int (4) 979)):=fun w=>bX w 18 rfl
theorem Ci:GG "PLAIN_ATT" (some (.str "cbtw cwtl cltq cwtd cltd cqto movsl cmpsl stosl lodsl scasl" 1513)):=fun w=>bX w 19 rfl
theorem yn:GG "PLAIN_INTEL" (some (.str "cbw cwde cdqe cwd cdq cqo movsd cmpsd stosd lodsd scasd" 1511)):=fun w=>bX w 20 rfl
theorem uw:GG "REGISTER" (some (.int (3) 1214)):=fun w=>bX w 21 rfl
theorem RO:GG "REP" (some (.int (243) 1067)):=fun w=>bX w 22 rfl
theorem L2:GG "REPNE" (some (.int (242) 1065)):=fun w=>bX w 23 rfl
theorem wj:GG "TARGET_NAMES" (some (.str "jmp call" 1509)):=fun w=>bX w 24 rfl
theorem ot:GG "WITH_SIB" (some (.int (4) 983)):=fun w=>bX w 25 rfl
theorem Cj:Gb "Exception" (.type "Exception"):=⟨fun w=>bX w 26 rfl,rfl,by decide,rfl,.inr ⟨_,rfl⟩⟩
theorem JJ:Gb "abs" (.builtin "abs"):=⟨fun w=>bX w 27 rfl,rfl,by decide,rfl,.inl ⟨_,rfl⟩⟩
theorem Cm:Gb "any" (.builtin "any"):=⟨fun w=>bX w 28 rfl,rfl,by decide,rfl,.inl ⟨_,rfl⟩⟩
theorem mn:Gb "bytes" (.type "bytes"):=⟨fun w=>bX w 29 rfl,rfl,by decide,rfl,.inr ⟨_,rfl⟩⟩
theorem Cn:Gb "enumerate" (.type "enumerate"):=⟨fun w=>bX w 30 rfl,rfl,by decide,rfl,.inr ⟨_,rfl⟩⟩
theorem eW:Gb "int" (.type "int"):=⟨fun w=>bX w 31 rfl,rfl,by decide,rfl,.inr ⟨_,rfl⟩⟩
theorem bN:Gb "len" (.builtin "len"):=⟨fun w=>bX w 32 rfl,rfl,by decide,rfl,.inl ⟨_,rfl⟩⟩
theorem tH:Gb "list" (.type "list"):=⟨fun w=>bX w 33 rfl,rfl,by decide,rfl,.inr ⟨_,rfl⟩⟩
theorem L3:Gb "range" (.type "range"):=⟨fun w=>bX w 34 rfl,rfl,by decide,rfl,.inr ⟨_,rfl⟩⟩
theorem zu:Gb "sorted" (.builtin "sorted"):=⟨fun w=>bX w 35 rfl,rfl,by decide,rfl,.inl ⟨_,rfl⟩⟩
theorem Co:Gb "str" (.type "str"):=⟨fun w=>bX w 36 rfl,rfl,by decide,rfl,.inr ⟨_,rfl⟩⟩
theorem RP:Gb "sum" (.builtin "sum"):=⟨fun w=>bX w 37 rfl,rfl,by decide,rfl,.inl ⟨_,rfl⟩⟩
theorem pQ:Gb "tuple" (.type "tuple"):=⟨fun w=>bX w 38 rfl,rfl,by decide,rfl,.inr ⟨_,rfl⟩⟩
theorem RQ:Gb "zip" (.type "zip"):=⟨fun w=>bX w 39 rfl,rfl,by decide,rfl,.inr ⟨_,rfl⟩⟩
theorem t7:MethAt KF 255 "has_modrm" 231:=cM (by decide +kernel)
theorem vc:MethAt KF 255 "has_plus" 238:=cM (by decide +kernel)
theorem zV:MethAt KF 255 "slots" 224:=cM (by decide +kernel)
theorem mq:MethAt KF 869 "has_rex" 838:=cM (by decide +kernel)
theorem gh:MethAt KF 869 "is_narrow" 845:=cM (by decide +kernel)
theorem rV:MethAt KF 869 "take_code" 852:=cM (by decide +kernel)
theorem qZ:MethAt KF 869 "take_modrm" 866:=cM (by decide +kernel)
theorem rW:MethAt KF 869 "take_must" 859:=cM (by decide +kernel)
theorem ni:MethAt KF 525 "replaced" 522:=cM (by decide +kernel)
theorem d6:MethAt KF 525 "told" 496:=cM (by decide +kernel)
theorem iP:MethAt KF 1330 "at" 1301:=cM (by decide +kernel)
theorem zW:MethAt KF 474 "is_rip" 464:=cM (by decide +kernel)
theorem ux:MethAt KF 474 "told" 445:=cM (by decide +kernel)
theorem jB:MethAt KF 764 "has_rex" 740:=cM (by decide +kernel)
theorem uy:MethAt KF 346 "told" 336:=cM (by decide +kernel)
theorem uz:MethAt KF 421 "told" 404:=cM (by decide +kernel)
theorem Ic:MethAt KF 1159 "end" 1149:=cM (by decide +kernel)
theorem uA:MethAt KF 1159 "told" 1156:=cM (by decide +kernel)
theorem Nr:∀ i,i<48→i≠1→attrName i≠"at":=by decide +kernel
theorem RS:∀ i,i<48→attrName i≠"end":=by decide +kernel
theorem Cp:∀ i,i<48→attrName i≠"has_modrm":=by decide +kernel
theorem DZ:∀ i,i<48→attrName i≠"has_plus":=by decide +kernel
theorem lJ:∀ i,i<48→attrName i≠"has_rex":=by decide +kernel
theorem mr:∀ i,i<48→attrName i≠"is_narrow":=by decide +kernel
theorem JK:∀ i,i<48→attrName i≠"is_rip":=by decide +kernel
theorem D0:∀ i,i<48→attrName i≠"replaced":=by decide +kernel
theorem L4:∀ i,i<48→attrName i≠"slots":=by decide +kernel
theorem Cq:∀ i,i<48→attrName i≠"take_code":=by decide +kernel
theorem zX:∀ i,i<48→attrName i≠"take_modrm":=by decide +kernel
theorem Cr:∀ i,i<48→attrName i≠"take_must":=by decide +kernel
theorem iv:∀ i,i<48→attrName i≠"told":=by decide +kernel
theorem Ie:∀ w,makesIn (KF w) 813=true:=fun w=>((bD w).makesIn _).trans (by decide +kernel)
theorem D2:∀ w,findIn (KF w) (.ref 813) "__init__"=some (some (.ref 803)):=fun w=>((bD w).findIn _ _).trans (by decide +kernel)
theorem D3:∀ w,typeIn (KF w) (.ref 803)=some (.type "function"):=fun w=>((bD w).typeIn _).trans (by decide +kernel)
theorem tI:∀ w,makesIn (KF w) 255=true:=fun w=>((bD w).makesIn _).trans (by decide +kernel)
theorem pR:∀ w,findIn (KF w) (.ref 255) "__init__"=some (some (.ref 210)):=fun w=>((bD w).findIn _ _).trans (by decide +kernel)
theorem pS:∀ w,typeIn (KF w) (.ref 210)=some (.type "function"):=fun w=>((bD w).typeIn _).trans (by decide +kernel)
theorem L5:∀ w,makesIn (KF w) 869=true:=fun w=>((bD w).makesIn _).trans (by decide +kernel)
theorem JM:∀ w,findIn (KF w) (.ref 869) "__init__"=some (some (.ref 831)):=fun w=>((bD w).findIn _ _).trans (by decide +kernel)
theorem JN:∀ w,typeIn (KF w) (.ref 831)=some (.type "function"):=fun w=>((bD w).typeIn _).trans (by decide +kernel)
theorem yo:∀ w,makesIn (KF w) 525=true:=fun w=>((bD w).makesIn _).trans (by decide +kernel)
theorem wm:∀ w,findIn (KF w) (.ref 525) "__init__"=some (some (.ref 491)):=fun w=>((bD w).findIn _ _).trans (by decide +kernel)
theorem wq:∀ w,typeIn (KF w) (.ref 491)=some (.type "function"):=fun w=>((bD w).typeIn _).trans (by decide +kernel)
theorem t8:∀ w,makesIn (KF w) 1330=true:=fun w=>((bD w).makesIn _).trans (by decide +kernel)
theorem rX:∀ w,findIn (KF w) (.ref 1330) "__init__"=some (some (.ref 1275)):=fun w=>((bD w).findIn _ _).trans (by decide +kernel)
theorem rY:∀ w,typeIn (KF w) (.ref 1275)=some (.type "function"):=fun w=>((bD w).typeIn _).trans (by decide +kernel)
theorem JO:∀ w,makesIn (KF w) 474=true:=fun w=>((bD w).makesIn _).trans (by decide +kernel)
theorem E9:∀ w,findIn (KF w) (.ref 474) "__init__"=some (some (.ref 438)):=fun w=>((bD w).findIn _ _).trans (by decide +kernel)
theorem Fb:∀ w,typeIn (KF w) (.ref 438)=some (.type "function"):=fun w=>((bD w).typeIn _).trans (by decide +kernel)
theorem ou:∀ w,makesIn (KF w) 764=true:=fun w=>((bD w).makesIn _).trans (by decide +kernel)
theorem mu:∀ w,findIn (KF w) (.ref 764) "__init__"=some (some (.ref 726)):=fun w=>((bD w).findIn _ _).trans (by decide +kernel)
theorem mv:∀ w,typeIn (KF w) (.ref 726)=some (.type "function"):=fun w=>((bD w).typeIn _).trans (by decide +kernel)
theorem RU:∀ w,makesIn (KF w) 346=true:=fun w=>((bD w).makesIn _).trans (by decide +kernel)
theorem Pn:∀ w,findIn (KF w) (.ref 346) "__init__"=some (some (.ref 329)):=fun w=>((bD w).findIn _ _).trans (by decide +kernel)
theorem Po:∀ w,typeIn (KF w) (.ref 329)=some (.type "function"):=fun w=>((bD w).typeIn _).trans (by decide +kernel)
theorem D4:∀ w,makesIn (KF w) 588=true:=fun w=>((bD w).makesIn _).trans (by decide +kernel)
theorem Cs:∀ w,findIn (KF w) (.ref 588) "__init__"=some (some (.ref 550)):=fun w=>((bD w).findIn _ _).trans (by decide +kernel)
theorem Ct:∀ w,typeIn (KF w) (.ref 550)=some (.type "function"):=fun w=>((bD w).typeIn _).trans (by decide +kernel)
theorem JQ:∀ w,makesIn (KF w) 421=true:=fun w=>((bD w).makesIn _).trans (by decide +kernel)
theorem Fc:∀ w,findIn (KF w) (.ref 421) "__init__"=some (some (.ref 397)):=fun w=>((bD w).findIn _ _).trans (by decide +kernel)
theorem Fd:∀ w,typeIn (KF w) (.ref 397)=some (.type "function"):=fun w=>((bD w).typeIn _).trans (by decide +kernel)
theorem RX:∀ w,makesIn (KF w) 1159=true:=fun w=>((bD w).makesIn _).trans (by decide +kernel)
theorem Pp:∀ w,findIn (KF w) (.ref 1159) "__init__"=some (some (.ref 1142)):=fun w=>((bD w).findIn _ _).trans (by decide +kernel)
theorem Pq:∀ w,typeIn (KF w) (.ref 1142)=some (.type "function"):=fun w=>((bD w).typeIn _).trans (by decide +kernel)
theorem iQ:tD KF 311 "__init__" 287:=H8 (by decide +kernel)
noncomputable def Ig:Scope:={ kind:=.function,names:=[("self",.local),("what",.local),("at",.local),("Exception",.globalImplicit)],isGenerator:=false,isCoroutine:=false }
theorem Vz:((Ig.names.filter fun y=>y.2==.local).map (·.1)).Nodup:=by decide
theorem XH:de KF 36 (rS 3 0) Ig ["self","what","at"] 2 0 [.none]:=Cc (i:=4) (o:=(fun _=>ix Jy 6)) (fun _=>rfl) (fun _=>rfl) (by decide +kernel) (fun w s vs X h=>by revert h;revert vs;exact RJ fun _ _=>kp_binds X fun _=>rfl) rfl rfl rfl Vz (by decide) (by decide) rfl rfl rfl
theorem rZ {N:Addr}{n:Str}{r:Option (Option Value)}(w:World) (h:nsIn K0 N n=r):nsIn (KF w) N n=r:=((bD w).nsIn N n).trans h
theorem Cu:GU KF 83 46 36 Ig:=fun G k=>k _ _ _ _ _ _ _ _ _ _ _ _ _ _ { cls:=fun w G k=>k _ _ 82 _ _ _ _ _ _ _ _ _ _ _ (lk (i:=12) (o:=Q1 w.params) rfl) (E6 (i:=11) (o:=QZ w.params) rfl rfl rfl) (rZ w (by decide +kernel)) (rZ w (by decide +kernel)) (rZ w (by decide +kernel)) (rZ w (by decide +kernel)),sup:=fun w G k=>k _ _ _ _ (lk (i:=6) (o:=QY w.params) rfl) (E6 (i:=5) (o:=QX w.params) rfl rfl rfl) (rZ w (by decide +kernel)) (rZ w (by decide +kernel)) (rZ w (by decide +kernel)) (rZ w (by decide +kernel)),fn:=XH,fcls:=fun w o h=>(by rw[lk (i:=4) (o:=(fun _=>ix Jy 6) w.params) rfl]at h;cases h;rfl),glob:=JG Cj rfl,shape:=fun _ _ _ _ _ _=>⟨_,rfl⟩,inter:=fun _ _ _ _ _ _=>rfl,sw1:=fun _=>rfl,sw2:=fun _=>rfl,sw3:=fun _=>rfl }
end
end
section
set_option genSizeOf false
set_option genInjectivity false
noncomputable section
noncomputable def gK (e:PySem.Expr):List PySem.Expr:=@PySem.Expr.casesOn (fun _=>List PySem.Expr) e (fun _ v _=>v) (fun _ _ _=>[]) (fun l _ r _=>[l,r]) (fun _ x _=>[x]) (fun _ _ _ _=>[]) (fun t x y _=>[t,x,y]) (fun _ _ _=>[]) (fun _ _ _=>[]) (fun v _ _ _=>[v]) (fun _ _ _ _=>[]) (fun _ _ _ _ _=>[]) (fun _ _ _ _=>[]) (fun _ _=>[]) (fun _ _=>[]) (fun _ _=>[]) (fun l _ r _=>l::r) (fun f a _ _=>f::a) (fun _ _ _ _=>[]) (fun _ _=>[]) (fun _ _ _=>[]) (fun v _ _=>[v]) (fun v s _=>[v,s]) (fun _ _=>[]) (fun _ _=>[]) (fun v _=>v) (fun v _ _=>v) (fun _ _ _ _=>[])
noncomputable def mw (e:PySem.Expr):Str:=@PySem.Expr.casesOn (fun _=>Str) e (fun _ _ _=>Str.empty) (fun _ _ _=>Str.empty) (fun _ _ _ _=>Str.empty) (fun _ _ _=>Str.empty) (fun _ _ _ _=>Str.empty) (fun _ _ _ _=>Str.empty) (fun _ _ _=>Str.empty) (fun _ _ _=>Str.empty) (fun _ _ _ _=>Str.empty) (fun _ _ _ _=>Str.empty) (fun _ _ _ _ _=>Str.empty) (fun _ _ _ _=>Str.empty) (fun _ _=>Str.empty) (fun _ _=>Str.empty) (fun _ _=>Str.empty) (fun _ _ _ _=>Str.empty) (fun _ _ _ _=>Str.empty) (fun _ _ _ _=>Str.empty) (fun _ _=>Str.empty) (fun _ _ _=>Str.empty) (fun _ x _=>x) (fun _ _ _=>Str.empty) (fun _ _=>Str.empty) (fun x _=>x) (fun _ _=>Str.empty) (fun _ _ _=>Str.empty) (fun _ _ _ _=>Str.empty)
noncomputable def wy (e:PySem.Expr):Nat:=@PySem.Expr.casesOn (fun _=>Nat) e (fun _ _ _=>0) (fun _ _ _=>0) (fun _ _ _ _=>0) (fun _ _ _=>0) (fun _ _ _ _=>0) (fun _ _ _ _=>0) (fun _ _ _=>0) (fun _ _ _=>0) (fun _ _ _ _=>0) (fun _ _ _ _=>0) (fun _ _ _ _ _=>0) (fun _ _ _ _=>0) (fun _ _=>0) (fun _ _=>0) (fun _ _=>0) (fun _ _ _ _=>0) (fun _ _ _ _=>0) (fun _ _ _ _=>0) (fun _ _=>0) (fun _ k _=>k) (fun _ _ _=>0) (fun _ _ _=>0) (fun _ _=>0) (fun _ _=>0) (fun _ _=>0) (fun _ k _=>k) (fun _ _ _ _=>0)
noncomputable def Nt (e:PySem.Expr):Option PySem.Expr×Option PySem.Expr:=@PySem.Expr.casesOn (fun _=>Option PySem.Expr×Option PySem.Expr) e (fun _ _ _=>(none,none)) (fun _ _ _=>(none,none)) (fun _ _ _ _=>(none,none)) (fun _ _ _=>(none,none)) (fun _ _ _ _=>(none,none)) (fun _ _ _ _=>(none,none)) (fun _ _ _=>(none,none)) (fun _ _ _=>(none,none)) (fun _ _ _ _=>(none,none)) (fun _ _ _ _=>(none,none)) (fun _ _ _ _ _=>(none,none)) (fun _ _ _ _=>(none,none)) (fun _ _=>(none,none)) (fun _ _=>(none,none)) (fun _ _=>(none,none)) (fun _ _ _ _=>(none,none)) (fun _ _ _ _=>(none,none)) (fun _ _ _ _=>(none,none)) (fun _ _=>(none,none)) (fun _ _ _=>(none,none)) (fun _ _ _=>(none,none)) (fun _ _ _=>(none,none)) (fun _ _=>(none,none)) (fun _ _=>(none,none)) (fun _ _=>(none,none)) (fun _ _ _=>(none,none)) (fun l u _ _=>(l,u))
noncomputable def ZV (e:PySem.Expr):List Comprehension:=@PySem.Expr.casesOn (fun _=>List Comprehension) e (fun _ _ _=>[]) (fun _ _ _=>[]) (fun _ _ _ _=>[]) (fun _ _ _=>[]) (fun _ _ _ _=>[]) (fun _ _ _ _=>[]) (fun _ _ _=>[]) (fun _ _ _=>[]) (fun _ g _ _=>g) (fun _ _ _ _=>[]) (fun _ _ _ _ _=>[]) (fun _ _ _ _=>[]) (fun _ _=>[]) (fun _ _=>[]) (fun _ _=>[]) (fun _ _ _ _=>[]) (fun _ _ _ _=>[]) (fun _ _ _ _=>[]) (fun _ _=>[]) (fun _ _ _=>[]) (fun _ _ _=>[]) (fun _ _ _=>[]) (fun _ _=>[]) (fun _ _=>[]) (fun _ _=>[]) (fun _ _ _=>[]) (fun _ _ _ _=>[])
noncomputable def Wz (e:PySem.Stmt):List PySem.Expr:=@PySem.Stmt.casesOn (fun _=>List PySem.Expr) e (fun _ _ _ _ _ _ _ _ _ _=>[]) (fun _ _ _ _ _ _ _ _ _ _=>[]) (fun _ _ _ _ _ _ _ _ _ _ _=>[]) (fun v _=>v.toList) (fun _ _=>[]) (fun t v _=>v::t) (fun _ _ _ _ _ _ _=>[]) (fun _ _ _ _=>[]) (fun _ _ _ _ _=>[]) (fun t i _ _ _=>[t,i]) (fun _ _ _ _ _=>[]) (fun t _ _ _=>[t]) (fun t _ _ _=>[t]) (fun _ _ _=>[]) (fun _ _ _=>[]) (fun _ _ _=>[]) (fun _ _ _=>[]) (fun _ _ _ _ _=>[]) (fun _ _ _ _ _=>[]) (fun _ _ _=>[]) (fun _ _=>[]) (fun _ _ _ _=>[]) (fun _ _=>[]) (fun _ _=>[]) (fun v _=>[v]) (fun _=>[]) (fun _=>[]) (fun _=>[])
noncomputable def oP (e:PySem.Stmt):List PySem.Stmt×List PySem.Stmt:=@PySem.Stmt.casesOn (fun _=>List PySem.Stmt×List PySem.Stmt) e (fun _ _ _ _ _ _ _ _ _ _=>([],[])) (fun _ _ _ _ _ _ _ _ _ _=>([],[])) (fun _ _ _ _ _ _ _ _ _ _ _=>([],[])) (fun _ _=>([],[])) (fun _ _=>([],[])) (fun _ _ _=>([],[])) (fun _ _ _ _ _ _ _=>([],[])) (fun _ _ _ _=>([],[])) (fun _ _ _ _ _=>([],[])) (fun _ _ b o _=>(b,o)) (fun _ _ _ _ _=>([],[])) (fun _ b o _=>(b,o)) (fun _ b o _=>(b,o)) (fun _ _ _=>([],[])) (fun _ _ _=>([],[])) (fun _ _ _=>([],[])) (fun _ _ _=>([],[])) (fun _ _ _ _ _=>([],[])) (fun _ _ _ _ _=>([],[])) (fun _ _ _=>([],[])) (fun _ _=>([],[])) (fun _ _ _ _=>([],[])) (fun _ _=>([],[])) (fun _ _=>([],[])) (fun _ _=>([],[])) (fun _=>([],[])) (fun _=>([],[])) (fun _=>([],[]))
noncomputable def fg (l:List PySem.Expr):PySem.Expr:=l.head?.getD default
def bT (e:PySem.Expr):PySem.Expr:=fg (gK e)
def eX (e:PySem.Expr):PySem.Expr:=fg (gK e).tail
def JR (e:PySem.Expr):PySem.Expr:=fg (gK e).tail.tail
def fh (s:PySem.Stmt):PySem.Expr:=fg (Wz s)
def ke (s:PySem.Stmt):PySem.Expr:=fg (Wz s).tail
noncomputable def WA (l:List PySem.Stmt):PySem.Stmt:=l.head?.getD default
structure Ck (α β:Type) (J:α→β→Prop):Type 1 where
 T:Type
 f:α→T
 c:α→T
 w:β
 ok:∀ e,f e=c e→J e w
section
variable {α β α1 β1 α2 β2 α3 β3:Type}{J:α→β→Prop}{J1:α1→β1→Prop}{J2:α2→β2→Prop}{J3:α3→β3→Prop}
theorem go (k:Ck α β J) {e:α}{w:β}(h:k.f e=k.c e:=by kernel_rfl) (hw:k.w=w:=by kernel_rfl):J e w:=hw▸k.ok e h
theorem Nu {e e':α}{b:Bool}{w:β}(he:(e,b)=(e',true)) (h:b=true→J e' w):J e w:=Eq.mpr (congrArg (fun z=>J z w) (congrArg Prod.fst he)) (h (congrArg Prod.snd he))
noncomputable def gX (r:α→α) (t:α→Bool) (w:β) (h:∀ e,t e=true→J (r e) w):Ck α β J:=⟨_,fun e=>(e,t e),fun e=>(r e,true),w,fun e he=>Nu he (h e)⟩
noncomputable def eM (r:α→α) (t:α→Bool) (p:α→α1) (k:Ck α1 β1 J1) (w:β) (h:∀ e,t e=true→J1 (p e) k.w→J (r e) w):Ck α β J:=⟨_,fun e=>((e,t e),k.f (p e)),fun e=>((r e,true),k.c (p e)),w,fun e he=>Nu (congrArg Prod.fst he) fun hb=>h e hb (k.ok _ (congrArg Prod.snd he))⟩
noncomputable def kh (r:α→α) (t:α→Bool) (p:α→α1) (q:α→α2) (k:Ck α1 β1 J1) (l:Ck α2 β2 J2) (w:β) (h:∀ e,t e=true→J1 (p e) k.w→J2 (q e) l.w→J (r e) w):Ck α β J:=
 ⟨_,fun e=>((e,t e),k.f (p e),l.f (q e)),fun e=>((r e,true),k.c (p e),l.c (q e)),w,fun e he=>Nu (congrArg Prod.fst he) fun hb=>h e hb (k.ok _ (congrArg (·.2.1) he)) (l.ok _ (congrArg (·.2.2) he))⟩
noncomputable def Fe (r:α→α) (t:α→Bool) (p:α→α1) (q:α→α2) (o:α→α3) (k:Ck α1 β1 J1) (l:Ck α2 β2 J2) (m:Ck α3 β3 J3) (w:β) (h:∀ e,t e=true→J1 (p e) k.w→J2 (q e) l.w→J3 (o e) m.w→J (r e) w):Ck α β J:=
 ⟨_,fun e=>((e,t e),k.f (p e),l.f (q e),m.f (o e)),fun e=>((r e,true),k.c (p e),l.c (q e),m.c (o e)),w,fun e he=>Nu (congrArg Prod.fst he) fun hb=>h e hb (k.ok _ (congrArg (·.2.1) he)) (l.ok _ (congrArg (·.2.2.1) he)) (m.ok _ (congrArg (·.2.2.2) he))⟩
end
theorem RY {b:Bool}(h:(!b)=true):b=false:=by cases b <;> first | rfl | cases h
noncomputable def WB (e:PySem.Expr):Bool:=match e.ctorIdx with | 0=>false | 3=>false | 5=>false | 15=>false | _=>true
theorem VA {e:PySem.Expr}(h:WB e=true) (env:Env) (whole:Sem Value):isTrue e env whole=(do let v ← whole;standAt e.pos;holding [v] (truthy v)):=by
 cases e <;> first | rfl | cases h
noncomputable def Nv (e:PySem.Expr):Bool:=!(e.ctorIdx==7)
theorem Ih {e:PySem.Expr}(h:Nv e=true) (env:Env) (x:Value):foldedSetIterable e env x=pure x:=by
 cases e <;> first | rfl | cases h
noncomputable abbrev tt {α:Type}(_:α):Bool:=true
noncomputable def Ff (cs:Scope):Bool:=decide (zr cs)
def ZW (cs:Scope) (x:Str) (i:Nat):Bool:=Ff cs&&qq cs x i
theorem wz {cs:Scope}{b:Bool}(h:(Ff cs&&b)=true):zr cs:=of_decide_eq_true (Bool.and_eq_true_iff.mp h).1
theorem stN {cs x i}(h:ZW cs x i=true):Slot cs x i:=st (wz h) (Bool.and_eq_true_iff.mp h).2
section
variable {D D':Nat}{cs:Scope}
variable (D cs) in
abbrev KE:=Ck PySem.Expr W1 (JE PW KF D cs)
variable (D cs) in
abbrev lr:=Ck (List PySem.Expr) (S→Rs (List V)) (JL PW KF D cs)
variable (D cs) in
abbrev KT:=Ck PySem.Expr (S→Rs Bool) (JT PW KF D cs)
variable (D cs) in
abbrev KX:=Ck PySem.Stmt W2 (JX PW KF D cs)
variable (D cs) in
abbrev KS:=Ck (List PySem.Stmt) W2 (JS PW KF D cs)
variable (D cs) in
abbrev KP:=Ck (Option PySem.Expr) (S→Rs (Option Int)) (JP PW KF D cs)
variable (D cs) in
abbrev Cv:=Ck PySem.Expr (S→Rs (List V)) (ze PW KF D cs)
variable (D cs) in
abbrev KI:=Ck (PySem.Expr×PySem.Expr) (S→Rs (List (List V))) (fun p w=>JI PW KF D cs p.1 p.2 w)
def kn (i:Nat):KE D cs:=gX (fun e=>.Name (mw e) e.pos) (fun e=>qq cs (mw e) i&&rT (mw e)) (aa i) fun _=>jn
def ki (i:Int):KE D cs:=gX (fun e=>.Constant (.int i) (wy e) e.pos) tt (aj i) fun _ _=>XB
def ks (i:Str):KE D cs:=gX (fun e=>.Constant (.str i) (wy e) e.pos) tt (au i) fun _ _=>Qv
def iR (i:Bool):KE D cs:=gX (fun e=>.Constant (.bool i) (wy e) e.pos) tt (cb i) fun _ _=>UT
def gi:KE D cs:=gX (fun e=>.Constant .none (wy e) e.pos) tt bS fun _ _=>US
def gL {x n t}(g:GG x (some (.int n t))):KE D cs:=gX (fun e=>.Name x e.pos) (fun _=>nD cs x&&rT x) (aj n) fun _=>ZQ g
def r6 {x n t}(g:GG x (some (.str n t))):KE D cs:=gX (fun e=>.Name x e.pos) (fun _=>nD cs x&&rT x) (au n) fun _=>ZR g
def ka (i:Nat) (k:KE D cs):KE D cs:=eM (fun e=>.Attribute (bT e) (attrName i) e.pos) (fun e=>H9 (bT e)) bT k (ao i k.w) fun _ h a=>ja i a h
def aC {op f}(hf:cH PW D (binaryOp op) f) (k l:KE D cs):KE D cs:=kh (fun e=>.BinOp (bT e) op (eX e) e.pos) tt bT eX k l (ag f k.w l.w) fun _ _ a b=>Xh hf a b
def cF {op f}(hf:cH PW D (compareOp op) f) (k l:KE D cs):KE D cs:=kh (fun e=>.Compare (bT e) [op] [eX e] e.pos) (fun e=>!behindInMarks op (eX e)) bT eX k l (ag f k.w l.w) fun _ h a b=>Xi hf a b (RY h)
def iS (k:KE D cs):KE D cs:=eM (fun e=>.UnaryOp .USub (bT e) e.pos) tt bT k (eC k.w) fun _ _ a=>Xs a
def RZ (k:KE D cs):KE D cs:=eM (fun e=>.UnaryOp .Not (bT e) e.pos) tt bT k (Gl k.w) fun _ _ a=>Xr a
def WC (o:BoolOp) (e:PySem.Expr):PySem.Expr:=.BoolOp o (gK e).tail e.pos
def yp (k l:KE D cs):KE D cs:=kh (fun e=>.BoolOp .And (bT e::eX e::(gK e).tail.tail) e.pos) tt bT (fun e=>.BoolOp .And (eX e::(gK e).tail.tail) e.pos) k l (rn k.w l.w) fun _ _ a b=>U6 a b
def Fg (k l:KE D cs):KE D cs:=kh (fun e=>.BoolOp .Or (bT e::eX e::(gK e).tail.tail) e.pos) tt bT (fun e=>.BoolOp .Or (eX e::(gK e).tail.tail) e.pos) k l (y1 k.w l.w) fun _ _ a b=>Xq a b
def wA (o:BoolOp) (k:KE D cs):KE D cs:=eM (fun e=>.BoolOp o [bT e] e.pos) tt bT k k.w fun _ _ a=>Qg a
def a9 (k l:KE D cs):KE D cs:=kh (fun e=>.Subscript (bT e) (eX e) e.pos) (fun e=>subB (eX e)) bT eX k l (ag az k.w l.w) fun _ h a b=>ZS a b h
def r7:KP D cs:=gX (fun _=>none) tt fq fun _ _=>QC
def gY (k:KE D cs):KP D cs:=eM (fun e=>some (e.getD default)) tt (fun e=>e.getD default) k (cJ k.w) fun _ _ a=>QD a
def gQ (k:KE D cs) (l u:KP D cs):KE D cs:=Fe (fun e=>.Subscript (bT e) (.Slice (Nt (eX e)).1 (Nt (eX e)).2 none (eX e).pos) e.pos) tt bT (fun e=>(Nt (eX e)).1) (fun e=>(Nt (eX e)).2) k l u (eE k.w l.w u.w) fun _ _ a b c=>XD a b c
def ar:lr D cs:=gX (fun _=>[]) tt ah fun _ _=>Va
def kl (k:KE D cs) (l:lr D cs):lr D cs:=kh (fun e=>fg e::e.tail) (fun e=>hW (fg e)) fg List.tail k l (ae k.w l.w) fun _ h a b=>jl a b h
def bM (k:lr D cs):KE D cs:=eM (fun e=>.Tuple (gK e) (wy e) e.pos) tt gK k (bk k.w) fun _ _ a=>Xz a
def jR (k:lr D cs):KE D cs:=eM (fun e=>.List (gK e) e.pos) tt gK k (dH k.w) fun _ _ a=>Vf a
def di (k:lr D cs):KE D cs:=eM (fun e=>.List (gK e) e.pos) tt gK k (aY k.w) fun _ _ a=>Qx a
def Nw:KE D cs:=gX (fun e=>.Dict [] [] e.pos) tt md fun _ _=>QK
def XI:KE D cs:=gX (fun e=>.Dict [] [] e.pos) tt lP fun _ _=>Pb
def fK (e:PySem.Expr):List PySem.Expr:=(gK e).tail
def zv (i:Nat):Str:=(FT[i]?.getD ("",0)).1
def kg (i:Nat) {a spec}(hf:JF PW KF D' (.ref a) spec) (k:lr (D+1) cs):KE (D+1) cs:=eM (fun e=>.Call (.Name (zv i) (bT e).pos) (fg (fK e)::(fK e).tail) [] e.pos) (fun e=>fB cs (zv i) i a D' D&&hW (fg (fK e))) (fun e=>fg (fK e)::(fK e).tail) k (aq spec k.w) fun _ h b=>jg i hf b h
def zw (i:Nat) {a spec}(hf:JF PW KF D' (.ref a) spec):KE (D+1) cs:=gX (fun e=>.Call (.Name (zv i) (bT e).pos) [] [] e.pos) (fun _=>fB cs (zv i) i a D' D) (aq spec ah) fun _ h=>ZP i hf h
def kb {x v f}(g:Gb x v) (hf:JB PW KF D v f) (k:lr D cs):KE D cs:=eM (fun e=>.Call (.Name x (bT e).pos) (fg (fK e)::(fK e).tail) [] e.pos) (fun e=>nD cs x&&hW (fg (fK e))) (fun e=>fg (fK e)::(fK e).tail) k (aF f k.w) fun _ h b=>jb g hf b h
def aE {op f}(hf:cH PW D (compareOp op) f) (k l:KE D cs):KT D cs:=kh (fun e=>.Compare (bT e) [op] [eX e] e.pos) (fun e=>!behindInMarks op (eX e)) bT eX k l (tE (ag f k.w l.w)) fun _ h a b=>Xo hf a b (RY h)
def cf (k l:KT D cs):KT D cs:=kh (fun e=>.BoolOp .And (bT e::(gK e).tail) e.pos) tt bT (WC .And) k l (bj k.w l.w) fun _ _ a b=>U5 a b
def ck (k l:KT D cs):KT D cs:=kh (fun e=>.BoolOp .Or (bT e::(gK e).tail) e.pos) tt bT (WC .Or) k l (bC k.w l.w) fun _ _ a b=>Xp a b
def eF:KT D cs:=gX (fun e=>.BoolOp .And [] e.pos) tt (fun σ=>.ok true σ) fun _ _=>OK
def eh:KT D cs:=gX (fun e=>.BoolOp .Or [] e.pos) tt (fun σ=>.ok false σ) fun _ _=>Qf
def JU (k:KT D cs):KT D cs:=eM (fun e=>.UnaryOp .Not (bT e) e.pos) tt bT k (uX k.w) fun _ _ a=>U4 a
def dq (k:KE D cs):KT D cs:=eM id WB id k (tE k.w) fun _ h a=>Qe a (VA h)
def R8 {o1 o2 f g}(hf:cH PW D (compareOp o1) f) (hg:cH PW D (compareOp o2) g) (k l m:KE D cs):KT D cs:=Fe (fun e=>.Compare (bT e) [o1,o2] [eX e,JR e] e.pos) (fun e=>!lastMarks [o1,o2] [eX e,JR e]) bT eX JR k l m (vN f g k.w l.w m.w) fun _ h a b c=>OL hf hg a b c (RY h)
def iT (t:KT D cs) (k l:KE D cs):KE D cs:=Fe (fun e=>.IfExp (bT e) (eX e) (JR e) e.pos) tt bT eX JR t k l (eT t.w k.w l.w) fun _ _ a b c=>ZJ a b c
def fU (k:KE D cs):Cv D cs:=eM id tt id k (cQ k.w) fun _ _ a=>Vj a
def r8 (k:lr D cs):Cv D cs:=eM (fun e=>.Call (.Name "range" (bT e).pos) (fg (fK e)::(fK e).tail) [] e.pos) (fun e=>nD cs "range"&&hW (fg (fK e))) (fun e=>fg (fK e)::(fK e).tail) k (eV k.w) fun _ h b=>OQ (JG L3 (Bool.and_eq_true_iff.mp h).1) rfl rfl b (iu _ (Bool.and_eq_true_iff.mp h).2)
def fi (k:Cv D cs):KI D cs:=eM (fun p=>(.Name (mw p.1) p.1.pos,p.2)) tt Prod.snd k (dr k.w) fun _ _ a=>Qr a
def aD (k:KE D cs):KX D cs:=eM (fun s=>.Return (some (fh s)) s.pos) tt fh k (ax k.w) fun _ _ a=>Xv a
def ZX:KX D cs:=gX (fun s=>.Return none s.pos) tt Gm fun _ _=>U8
def Cw:KX D cs:=gX id tt cB fun _ _=>Xx
def WD:KX D cs:=gX (fun s=>.Continue s.pos) tt gg fun _ _=>Jx
def aU (i:Nat) (k:KE D cs):KX D cs:=eM (fun s=>.Assign [.Name (mw (ke s)) (ke s).pos] (fh s) s.pos) (fun s=>Ff cs&&(qq cs (mw (ke s)) i&&nC (fh s))) fh k (aG i k.w) fun _ h a=>js (wz h) a (Bool.and_eq_true_iff.mp h).2
def bE (i:Nat) (k l:KE D cs):KX D cs:=kh (fun s=>.Assign [.Attribute (bT (ke s)) (attrName i) (ke s).pos] (fh s) s.pos) (fun s=>nC (fh s)) fh (fun s=>bT (ke s)) k l (aQ i k.w l.w) fun _ h a b=>ZT i a b h
def zx (k l m:KE D cs):KX D cs:=Fe (fun s=>.Assign [.Subscript (bT (ke s)) (eX (ke s)) (ke s).pos] (fh s) s.pos) (fun s=>nC (fh s)) fh (fun s=>bT (ke s)) (fun s=>eX (ke s)) k l m (fu k.w l.w m.w) fun _ h a b c=>Vq a b c (tG h)
def fL (k:KE D cs):KX D cs:=eM (fun s=>.Expr (fh s) s.pos) (fun s=>nC (fh s)&&E8 cs) fh k (bR k.w) fun _ h a=>je a h
def ak:KS D cs:=gX (fun _=>[]) tt ai fun _ _=>Xu
def fM:KS D cs:=gX id tt cB fun _ _=>U9
def cC (k:KX D cs) (l:KS D cs):KS D cs:=kh (fun s=>WA s::s.tail) tt WA List.tail k l (af k.w l.w) fun _ _ a b=>U7 a b
def aK (t:KT D cs) (k l:KS D cs):KX D cs:=Fe (fun s=>.If (fh s) (oP s).1 (oP s).2 s.pos) tt fh (fun s=>(oP s).1) (fun s=>(oP s).2) t k l (aI t.w k.w l.w) fun _ _ a b c=>Xw a b c
def lu (i:Nat) (k:KI D cs) (l:KS D cs):KX D cs:=kh (fun s=>.For (.Name (mw (fh s)) (fh s).pos) (ke s) (oP s).1 [] s.pos) (fun s=>Ff cs&&(qq cs (mw (fh s)) i&&Nv (ke s))) (fun s=>(.Name (mw (fh s)) (fh s).pos,ke s)) (fun s=>(oP s).1) k l (cZ k.w [i] l.w) fun _ h a b=>jf (wz h) a b (Bool.and_eq_true_iff.mp (Bool.and_eq_true_iff.mp h).2).1 (Ih (Bool.and_eq_true_iff.mp (Bool.and_eq_true_iff.mp h).2).2)
def R9 (N:Nat) (k:KT D cs) (l:KS D cs):KX D cs:=kh (fun s=>.While (fh s) (oP s).1 [] s.pos) tt fh (fun s=>(oP s).1) k l (dp k.w l.w N) fun _ _ a b=>Qt N a b
def ZY (k:KE D cs):KE D cs:=eM id tt id k (u9 k.w) fun _ _ a=>XF a
end
noncomputable def Sa (e:PySem.Expr):Bool:=!(e.ctorIdx==16)
theorem Ii {cs o name apos args pos}(h:(Sa o&&apos.endLine==pos.line&&Nat.blt args.length 30)=true) (ha:∀ env p,((backTo p (starEach args env)).any fun x=>x.1)=false):MethShape cs o name apos args pos:=fun q L fn ccd r cl=>by
 rw[Bool.and_eq_true,Bool.and_eq_true]at h
 refine⟨(do return (← importBound o (envG q cs L fn ccd r cl)).getD true),?_⟩
 have hb:attributeBase o name (envG q cs L fn ccd r cl) (eval o (envG q cs L fn ccd r cl))=eval o (envG q cs L fn ccd r cl):=by
  have h1:=h.1.1
  cases o <;> first | rfl | cases h1
 have hm:methodCallForm args.length (backTo pos (starEach args (envG q cs L fn ccd r cl))) []=true:=by
  have h1:=ha (envG q cs L fn ccd r cl) pos
  have h2:((backTo pos (starEach args (envG q cs L fn ccd r cl))).all fun x=>!x.1)=true:=by rw[List.all_eq_not_any_not];simpa using h1
  unfold methodCallForm
  rw[h2]
  exact decide_eq_true (Nat.le_of_ble_eq_true h.2)
 show(do
  let ov ← attributeBase o name (envG q cs L fn ccd r cl) (eval o (envG q cs L fn ccd r cl))
  standAt apos.atName
  methodCall o name apos pos (envG q cs L fn ccd r cl) ov args.length (backTo pos (starEach args (envG q cs L fn ccd r cl))) [])=_
 rw[hb]
 unfold methodCall methodCallPos
 rw[hm,h.1.2]
 rfl
theorem XJ (env:Env) (p:Pos):((backTo p (starEach [] env)).any fun x=>x.1)=false:=rfl
section
variable {D D':Nat}{cs:Scope}
def mo (e:PySem.Expr):PySem.Expr:=bT (bT e)
def mB (e:PySem.Expr):Bool:=Sa (mo e)&&(bT e).pos.endLine==e.pos.line&&Nat.blt (fg (fK e)::(fK e).tail).length 30
def Sb (e:PySem.Expr):Bool:=Sa (mo e)&&(bT e).pos.endLine==e.pos.line
def mC (n:Str) (a:List PySem.Expr) (e:PySem.Expr):PySem.Expr:=.Call (.Attribute (mo e) n (bT e).pos) a [] e.pos
def mA (e:PySem.Expr):List PySem.Expr:=fg (fK e)::(fK e).tail
def mT (e:PySem.Expr):Bool:=mB e&&hW (fg (fK e))
theorem WE {n e}(h:Sb e=true):MethShape cs (mo e) n (bT e).pos [] e.pos:=Ii (Bool.and_eq_true_iff.mpr ⟨h,rfl⟩) XJ
theorem Sd {n e wa}(h:mT e=true) (a:JL PW KF D cs (mA e) wa):MethShape cs (mo e) n (bT e).pos (mA e) e.pos:=Ii (Bool.and_eq_true_iff.mp h).1 a.1
theorem Se {e}(h:mT e=true):∀ env,starEach (mA e) env=(false,eval (fg (fK e)) env)::starEach (fK e).tail env:=iu _ (Bool.and_eq_true_iff.mp h).2
abbrev JV (D:Nat) (n:Str) (tbl:List (Addr×FS)):Prop:=∀ C spec,(C,spec)∈tbl→∃ f,MethAt KF C n f∧JF PW KF D (.ref f) spec
theorem ed {n C f spec}(m:MethAt KF C n f) (h:JF PW KF D' (.ref f) spec) (hd:Nat.ble D' D=true) {r}(t:JV D n r):JV D n ((C,spec)::r):=Ph ⟨f,m,JF.up h (Nat.le_of_ble_eq_true hd)⟩ t
def iw {n tbl}(hn:∀ i,i<48→attrName i≠n) (ht:JV D n tbl) (k:KE (D+1) cs):KE (D+1) cs:=eM (mC n []) Sb mo k (bq tbl k.w ah) fun _ h a=>Ql (WE h) hn ht a
def km {n tbl}(hn:∀ i,i<48→attrName i≠n) (ht:JV D n tbl) (k:KE (D+1) cs) (l:lr (D+1) cs):KE (D+1) cs:=kh (fun e=>mC n (mA e) e) mT mo mA k l (bq tbl k.w l.w) fun _ h a b=>Vc (Sd h b) hn ht a b rfl (Se h)
def WG {n tbl ka}(hn:∀ i,i<48→i≠ka→attrName i≠n) (ht:JV D n tbl) (k:KE (D+1) cs) (l:lr (D+1) cs):KE (D+1) cs:=kh (fun e=>mC n (mA e) e) mT mo mA k l (oJ ka tbl k.w l.w) fun _ h a b=>QS (Sd h b) hn ht a b rfl (Se h)
abbrev Ty (idn:String):Prop:=typeOf (.builtin idn)=pure (.type "method_descriptor")
def Fh {T idn ok n f}(hT:lX T ok) (pa:PlainAttrs T) (sl:PySem.Slot T n idn) (ty:Ty idn) (hf:JB PW KF D (.builtin idn) f) (k:KE D cs) (l:lr D cs):KE D cs:=kh (fun e=>mC n (mA e) e) mT mo mA k l (bf ok f k.w l.w) fun _ h a b=>QA (Sd h b) hT pa sl ty a b hf rfl (Se h)
def r9 {T idn ok n f}(hT:lX T ok) (pa:PlainAttrs T) (sl:PySem.Slot T n idn) (ty:Ty idn) (hf:JB PW KF D (.builtin idn) f) (k:KE D cs):KE D cs:=eM (mC n []) Sb mo k (bf ok f k.w ah) fun _ h a=>OU (WE h) hT pa sl ty a hf
def jC (k:KE D cs) (l:lr D cs):KE D cs:=Fh OT Pj JC rfl bAppend k l
def Sf (i:Nat) {C n f spec}(M:tD KF C n f) (hf:JF PW KF D' (.ref f) spec) (l:lr (D+1) cs):KE (D+1) cs:=eM (fun e=>.Call (.Attribute (.Name (zv i) (mo e).pos) n (bT e).pos) (mA e) [] e.pos)
 (fun e=>(mB (.Call (.Attribute (.Name (zv i) (mo e).pos) n (bT e).pos) (mA e) [] e.pos)&&hW (fg (fK e)))&&fB cs (zv i) i C D' D) mA l (aq spec l.w) fun e h a=>by
 rw[Bool.and_eq_true,Bool.and_eq_true]at h
 have h3:=h.2
 rw[fB,Bool.and_eq_true]at h3
 have hs:MethShape cs (.Name (zv i) (mo e).pos) n (bT e).pos (mA e) e.pos:=Ii h.1.1 a.1
 exact Vs hs (E7 i h3.1) M (JF.up hf (Nat.le_of_ble_eq_true h3.2)) rfl a (iu _ h.1.2)
def XK (k:KE D cs):Cv D cs:=eM id tt id k (xV k.w) fun _ _ a=>OS a
def XM (k:KE D cs):Cv D cs:=eM id tt id k (oH k.w) fun _ _ a=>QQ a
def ZZ (k:Cv D cs):KI D cs:=eM (fun p=>(.Tuple (gK p.1) (wy p.1) p.1.pos,p.2)) tt Prod.snd k (vP k.w) fun _ _ a=>Vi a
def WH (l:lr D cs):KI D cs:=eM (fun p=>(.Tuple (gK p.1) (wy p.1) p.1.pos,.Call (.Name "enumerate" (bT p.2).pos) (mA p.2) [] p.2.pos)) (fun p=>nD cs "enumerate"&&hW (fg (fK p.2))) (fun p=>mA p.2) l (rP l.w) fun _ h a=>QM (JG Cn (Bool.and_eq_true_iff.mp h).1) rfl rfl a (iu _ (Bool.and_eq_true_iff.mp h).2)
def WI (l:lr D cs):KI D cs:=eM (fun p=>(.Tuple (gK p.1) (wy p.1) p.1.pos,.Call (.Name "zip" (bT p.2).pos) (mA p.2) [] p.2.pos)) (fun p=>nD cs "zip"&&hW (fg (fK p.2))) (fun p=>mA p.2) l (v5 l.w) fun _ h a=>Vr (JG RQ (Bool.and_eq_true_iff.mp h).1) rfl rfl a (iu _ (Bool.and_eq_true_iff.mp h).2)
def WJ (e:PySem.Expr):PySem.Expr:=.Name (mw e) e.pos
def Sg (cs:Scope):List PySem.Expr→List Nat→Bool
 | [],[]=>true
 | e::es,i::is=>qq cs (mw e) i&&Sg cs es is
 | _,_=>false
theorem Nx (nd:zr cs):∀ (es:List PySem.Expr) (sl:List Nat),Sg cs es sl=true→gb cs (es.map WJ) sl
 | [],[],_=>.nil
 | [],_::_,h=>nq h
 | _::_,[],h=>nq h
 | e::es,i::is,h=>.cons (st nd (Bool.and_eq_true_iff.mp h).1) (Nx nd es is (Bool.and_eq_true_iff.mp h).2)
def WK (e:PySem.Expr):PySem.Expr:=.Tuple ((gK e).map WJ) (wy e) e.pos
def JW (sl:List Nat) (k:KI D cs) (l:KS D cs):KX D cs:=kh (fun s=>.For (WK (fh s)) (ke s) (oP s).1 [] s.pos) (fun s=>Ff cs&&(Sg cs (gK (fh s)) sl&&Nv (ke s))) (fun s=>(WK (fh s),ke s)) (fun s=>(oP s).1) k l (cZ k.w sl l.w) fun _ h a b=>
 Vh a (Nx (wz h) _ _ (Bool.and_eq_true_iff.mp (Bool.and_eq_true_iff.mp h).2).1) b (Ih (Bool.and_eq_true_iff.mp (Bool.and_eq_true_iff.mp h).2).2)
noncomputable def kX {s:PySem.Stmt}{w:W2}(h:JX PW KF D cs s w):KX D cs:=⟨_,id,fun _=>s,w,fun e he=>(id he:e=s)▸h⟩
variable (D cs) in
abbrev Sh:=Ck (List PySem.Expr) (S→Rs Bool) (u2 PW KF D cs)
def uB:Sh D cs:=gX (fun _=>[]) tt (fun σ=>.ok true σ) fun _ _=>Vk
def Z0 (t:KT D cs):Sh D cs:=eM (fun e=>[fg e]) tt fg t t.w fun _ _ a=>Vl a
def gen (e:PySem.Expr):Comprehension:=(ZV e).head?.getD ⟨default,default,[],0⟩
abbrev Z1 (scope cs:Scope) (k l:Nat) (ci:List Nat):Prop:=zr (b6 scope cs)∧(Loc (b6 scope cs)).length=k∧(Loc cs).length=l∧GQ scope cs ci=true∧ci.length=(Cel (b6 scope cs)).length∧E8 scope=true∧(∀ x∈scope.names,x.2≠.cell)∧(∀ x∈scope.names,x.2=.local→scope.names.lookup x.1=some .local)
def mx (scope:Scope) (slot k l:Nat) (ci:List Nat) (hp:Z1 scope cs k l ci) (i:Cv D cs) (t:Sh D (b6 scope cs)) (m:KE D (b6 scope cs)):KE D cs:=
 Fe (fun e=>.ListComp (bT e) [⟨.Name (mw (gen e).target) (gen e).target.pos,(gen e).iter,(gen e).ifs,0⟩] scope e.pos) (fun e=>qq (b6 scope cs) (mw (gen e).target) slot&&Nv (gen e).iter) (fun e=>(gen e).iter) (fun e=>(gen e).ifs) bT i t m
  (du i.w slot k (ci.map fun x=>l+x) t.w m.w) fun _ h a b c=>Vm a (st hp.1 (Bool.and_eq_true_iff.mp h).1) hp.2.1 hp.2.2.1 (Jw hp.2.2.2.1) hp.2.2.2.2.1 (Cg hp.2.2.2.2.2.1) hp.2.2.2.2.2.2.1 hp.2.2.2.2.2.2.2 b c (Ih (Bool.and_eq_true_iff.mp h).2)
def Si (cs:Scope) (x:Str) (l i:Nat):Bool:=decide (cs.names.lookup x=some .cell)&&decide ((Loc cs).length=l)&&Nn (Cel cs) i x&&rT x
def sb (l i:Nat):KE D cs:=gX (fun e=>.Name (mw e) e.pos) (fun e=>Si cs (mw e) l i) (aa (l+i)) fun _ h=>by
 rw[Si,Bool.and_eq_true,Bool.and_eq_true,Bool.and_eq_true]at h
 exact UV (of_decide_eq_true h.1.1.1) (of_decide_eq_true h.1.1.2) (Ce h.1.2) (rU h.2)
end
def nS (l:List PySem.Stmt) (i:Nat):PySem.Stmt:=l.getD i default
noncomputable def nF (ob:Obj):FuncData:=@Data.casesOn (fun _=>FuncData) ob.data default (fun _=>default) (fun _ _=>default) (fun _ _=>default) (fun _ _ _=>default) (fun _ _=>default) (fun _=>default) (fun d=>d) (fun _=>default) (fun _=>default) default
def Sj (ob:Obj) (body:List PySem.Stmt) (s:Scope):FuncData:=fnOf (nF ob).name (nF ob).qualname (nF ob).params body s (nF ob).defaults (nF ob).kwdefaults (nF ob).doc (nF ob).pyModule (nF ob).annotations (nF ob).code (nF ob).closureTuple
def WL (ob:Obj) (body:List PySem.Stmt) (s:Scope):Obj:=⟨ob.cls,ob.dict,.func (Sj ob body s),ob.slots⟩
abbrev HB (fd:FuncData) (pn:List Str) (dvs:List Value) (g:Nat):Prop:=∀ w (s':Shared),(KF w).In s'.heap→∀ vs,vs.length=g→BindsTo s' fd ⟨vs,[]⟩ (pn.zip (vs++dvs))
section
variable {fd:FuncData}{pn:List Str}{dvs:List Value}
theorem wB (h:∀ w S,peek (KF w) S (bindArgs fd ⟨[],[]⟩)=some (pn.zip ([]++dvs)):=by intros;kernel_rfl):HB fd pn dvs 0:=fun w _ X=>Wr (kp_binds X (h w))
theorem bZ (h:∀ w S a,peek (KF w) S (bindArgs fd ⟨[a],[]⟩)=some (pn.zip ([a]++dvs)):=by intros;kernel_rfl):HB fd pn dvs 1:=fun w _ X=>Ws fun a=>kp_binds X fun S=>h w S a
theorem cT (h:∀ w S a b,peek (KF w) S (bindArgs fd ⟨[a,b],[]⟩)=some (pn.zip ([a,b]++dvs)):=by intros;kernel_rfl):HB fd pn dvs 2:=fun w _ X=>RJ fun a b=>kp_binds X fun S=>h w S a b
theorem my (h:∀ w S a b c,peek (KF w) S (bindArgs fd ⟨[a,b,c],[]⟩)=some (pn.zip ([a,b,c]++dvs)):=by intros;kernel_rfl):HB fd pn dvs 3:=fun w _ X=>Wt fun a b c=>kp_binds X fun S=>h w S a b c
theorem Fi (h:∀ w S a b c d,peek (KF w) S (bindArgs fd ⟨[a,b,c,d],[]⟩)=some (pn.zip ([a,b,c,d]++dvs)):=by intros;kernel_rfl):HB fd pn dvs 4:=fun w _ X=>Wu fun a b c d=>kp_binds X fun S=>h w S a b c d
theorem Fj (h:∀ w S a b c d e,peek (KF w) S (bindArgs fd ⟨[a,b,c,d,e],[]⟩)=some (pn.zip ([a,b,c,d,e]++dvs)):=by intros;kernel_rfl):HB fd pn dvs 5:=fun w _ X=>Wv fun a b c d e=>kp_binds X fun S=>h w S a b c d e
theorem Z2 (h:∀ w S a b c d e f,peek (KF w) S (bindArgs fd ⟨[a,b,c,d,e,f],[]⟩)=some (pn.zip ([a,b,c,d,e,f]++dvs)):=by intros;kernel_rfl):HB fd pn dvs 6:=fun w _ X=>Ww fun a b c d e f=>kp_binds X fun S=>h w S a b c d e f
theorem WM (h:∀ w S a b c d e f g,peek (KF w) S (bindArgs fd ⟨[a,b,c,d,e,f,g],[]⟩)=some (pn.zip ([a,b,c,d,e,f,g]++dvs)):=by intros;kernel_rfl):HB fd pn dvs 7:=fun w _ X=>Wx fun a b c d e f g=>kp_binds X fun S=>h w S a b c d e f g
theorem WN (h:∀ w S a b c d e f g i,peek (KF w) S (bindArgs fd ⟨[a,b,c,d,e,f,g,i],[]⟩)=some (pn.zip ([a,b,c,d,e,f,g,i]++dvs)):=by intros;kernel_rfl):HB fd pn dvs 8:=fun w _ X=>Wy fun a b c d e f g i=>kp_binds X fun S=>h w S a b c d e f g i
theorem Z3 (h:∀ w S a b c d e f g i j,peek (KF w) S (bindArgs fd ⟨[a,b,c,d,e,f,g,i,j],[]⟩)=some (pn.zip ([a,b,c,d,e,f,g,i,j]++dvs)):=by intros;kernel_rfl):HB fd pn dvs 9:=fun w _ X=>ZU fun a b c d e f g i j=>kp_binds X fun S=>h w S a b c d e f g i j
end
theorem aP {f:Addr}{body:List PySem.Stmt}{s:Scope}{g k:Nat}{dvs:List Value}(i n:Nat) (ob:Obj) (hb:HB (Sj ob body s) ((Loc s).take n) dvs g) (hi:∀ w,(KF w)[i]?=some (f,ob):=by intro _;kernel_rfl) (ho:ob=WL ob body s:=by kernel_rfl)
  (hc:codeIn K0 (nF ob).code (nF ob).qualname=true:=by kernel_rfl) (h:(Ff s&&(Nat.beq n (g+dvs.length)&&L1 s n k))=true:=by kernel_rfl):de KF f body s ((Loc s).take n) g k dvs:=dk i n (fun _=>ob) (wz h) hi (fun _=>ho) hc hb (Bool.and_eq_true_iff.mp h).2
theorem Sk {f:Addr}{body:List PySem.Stmt}{s:Scope}{pn:List Str}(i:Nat) (ob:Obj) (hb:HB (Sj ob body s) pn [] pn.length) (pnd:pn.Nodup:=by decide +kernel) (kinds:∀ y∈pn,s.names.lookup y=some .local∨s.names.lookup y=some .cell:=by decide +kernel) (loc:∀ y∈Loc s,s.names.lookup y=some .local:=by decide +kernel)
  (cel:∀ y∈Cel s,s.names.lookup y=some .cell:=by decide +kernel) (cnd:((cellsFrom 0 s.names []).map (·.1)).Nodup:=by decide +kernel) (co:s.isCoroutine=false:=by kernel_rfl) (gen:s.isGenerator=false:=by kernel_rfl) (kind:s.kind=.function:=by kernel_rfl)
  (hi:∀ w,(KF w)[i]?=some (f,ob):=by intro _;kernel_rfl) (ho:ob=WL ob body s:=by kernel_rfl) (hc:codeIn K0 (nF ob).code (nF ob).qualname=true:=by kernel_rfl):oG KF f body s pn:=Jz (i:=i) (o:=fun _=>ob) hi (fun _=>ho) hc (fun w s' vs X e=>by have:=hb w s' X vs e;rwa [List.append_nil]at this) pnd kinds loc cel cnd co gen kind
noncomputable def WO (s:PySem.Stmt):Scope:=@PySem.Stmt.casesOn (fun _=>Scope) s (fun _ _ _ _ _ _ s _ _ _=>s) (fun _ _ _ _ _ _ _ _ _ _=>default) (fun _ _ _ _ _ _ _ _ _ _ _=>default) (fun _ _=>default) (fun _ _=>default) (fun _ _ _=>default) (fun _ _ _ _ _ _ _=>default) (fun _ _ _ _=>default) (fun _ _ _ _ _=>default) (fun _ _ _ _ _=>default) (fun _ _ _ _ _=>default) (fun _ _ _ _=>default) (fun _ _ _ _=>default) (fun _ _ _=>default) (fun _ _ _=>default) (fun _ _ _=>default) (fun _ _ _=>default) (fun _ _ _ _ _=>default) (fun _ _ _ _ _=>default) (fun _ _ _=>default) (fun _ _=>default) (fun _ _ _ _=>default) (fun _ _=>default) (fun _ _=>default) (fun _ _=>default) (fun _=>default) (fun _=>default) (fun _=>default)
def sA (i:Nat):Scope:=WO (PB.getD i default)
def sM (i j:Nat):Scope:=WO ((dW i).getD j default)
abbrev ba (D i:Nat) (w:W2):Prop:=JS PW KF D (sA i) (dW i) w
abbrev ef (D i j:Nat) (w:W2):Prop:=JS PW KF D (sM i j) (rS i j) w
abbrev aL (D a:Nat) (s:FS):Prop:=JF PW KF D (.ref a) s
end
end
noncomputable section
def j3:W2:=(af (ax (dH (ae (du (cQ (eE (aa 0) fq (cJ (aj 40)))) 1 2 [] (fun σ=>.ok true σ) (aF (one dh) (ae (aa 1) ah))) (ae (aj 0) (ae (aj 0) ah))))) ai)
theorem D5:ba 0 151 j3:=
 go (cC (aD (jR (kl (mx ⟨.function,[(".0",.local),("cell",.local),("int",.globalImplicit)],false,false,[]⟩ 1 2 1 [] (by decide +kernel) (fU (gQ (kn 0) r7 (gY (ki 40)))) uB (kb eW (bJ jM) (kl (kn 1) ar))) (kl (ki 0) (kl (ki 0) ar))))) ak)
def hZ:FS:=sp 1 0 0 j3 []
theorem zY:aL 0 1339 hZ:=dN (aP 267 1 (ix Bi 4) bZ) D5
def mz:W2:=(af (ax (ag (eK false) (au "plus") (ao 11 (aa 0)))) ai)
theorem vd:ef 0 28 4 mz:=
 go (cC (aD (cF uo (ks "plus") (ka 11 (kn 0)))) ak)
def kj:FS:=sp 1 0 0 mz []
theorem sd:aL 0 238 kj:=dN (aP 51 1 (ix Hf 6) bZ) vd
noncomputable def iU:Scope:=⟨.function,[("form",.cell),("range",.globalImplicit)],false,false,[("fast",.str "form"),("fast",.str "number")]⟩
def uC:W2:=(af (aI (uX (tE (bq [(255,kj)] (aa 0) ah))) (af (ax (aY (ae (bk (ae (ao 8 (aa 0)) (ae (ao 5 (aa 0)) (ae (ao 4 (aa 0)) ah)))) ah))) ai) ai) (af (ax (du (eV (ae (aj 8) ah)) 1 2 [0] (fun σ=>.ok true σ) (bk (ae (ao 8 (aa 2)) (ae (ao 5 (aa 2)) (ae (ag aH (ao 4 (aa 2)) (aa 1)) ah)))))) ai))
theorem D6:JS PW KF 1 iU (dW 148) uC:=
 go (cC (aK (JU (dq (iw DZ (ed vc sd rfl bY) (sb 0 0)))) (cC (aD (di (kl (bM (kl (ka 8 (sb 0 0)) (kl (ka 5 (sb 0 0)) (kl (ka 4 (sb 0 0)) ar)))) ar))) ak) ak) (cC (aD (mx ⟨.function,[(".0",.local),("number",.local),("form",.free)],false,false,[]⟩ 1 2 0 [0] (by decide +kernel) (r8 (kl (ki 8) ar)) uB (bM (kl (ka 8 (sb 2 0)) (kl (ka 5 (sb 2 0)) (kl (aC aM (ka 4 (sb 2 0)) (kn 1)) ar)))))) ak))
theorem zZ:oG KF 1261 (dW 148) iU ["form"]:=Sk 259 (ix Bf 4) bZ
def qr:FS:=jQ ["form"] (Loc iU) (Cel iU) uC
theorem z0:aL 1 1261 qr:=(GP zZ D6)
def gj:W2:=(af (aQ 45 (aF (one rC) (ae (aa 1) ah)) (aa 0)) (af (aQ 46 md (aa 0)) (af (aQ 47 md (aa 0)) (af (cZ (dr (eV (ae (aF (one bA) (ae (ao 45 (aa 0)) ah)) ah))) [2] (af (aG 3 (ag az (ao 45 (aa 0)) (aa 2))) (af (aQ 10 (aa 2) (aa 3)) (af (aI (tE (ag (eK true) (ao 2 (aa 3)) (ao 46 (aa 0)))) (af (fu (dH ah) (ao 46 (aa 0)) (ao 2 (aa 3))) ai) ai) (af (bR (bf cI bx (ag az (ao 46 (aa 0)) (ao 2 (aa 3))) (ae (aa 3) ah))) (af (cZ (dr (cQ (aq qr (ae (aa 3) ah)))) [4] (af (aI (tE (ag (eK true) (aa 4) (ao 47 (aa 0)))) (af (fu (dH ah) (ao 47 (aa 0)) (aa 4)) ai) ai) (af (bR (bf cI bx (ag az (ao 47 (aa 0)) (aa 4)) (ae (aa 3) ah))) ai))) ai)))))) ai))))
theorem mD:ef 2 149 0 gj:=
 go (cC (bE 45 (kb tH (bJ BL) (kl (kn 1) ar)) (kn 0)) (cC (bE 46 Nw (kn 0)) (cC (bE 47 Nw (kn 0)) (cC (lu 2 (fi (r8 (kl (kb bN (bJ c6) (kl (ka 45 (kn 0)) ar)) ar))) (cC (aU 3 (a9 (ka 45 (kn 0)) (kn 2))) (cC (bE 10 (kn 2) (kn 3)) (cC (aK (aE rN (ka 2 (kn 3)) (ka 46 (kn 0))) (cC (zx (jR ar) (ka 46 (kn 0)) (ka 2 (kn 3))) ak) ak) (cC (fL (jC (a9 (ka 46 (kn 0)) (ka 2 (kn 3))) (kl (kn 3) ar))) (cC (lu 4 (fi (fU (kg 1 z0 (kl (kn 3) ar)))) (cC (aK (aE rN (kn 4) (ka 47 (kn 0))) (cC (zx (jR ar) (ka 47 (kn 0)) (kn 4)) ak) ak) (cC (fL (jC (a9 (ka 47 (kn 0)) (kn 4)) (kl (kn 3) ar))) ak))) ak)))))) ak))))
def fN:FS:=sp 2 0 3 gj []
theorem kZ:aL 2 1275 fN:=dN (aP 261 2 (ix Bg 6) cT) mD
def gk:FS:=newSpec 1330 fN
theorem se:aL 3 1330 gk:=(fT t8 rX rY kZ)
def uD:W2:=(af (ax (ag (eK false) (aa 0) (bk (ae (au "al") (ae (au "ax") (ae (au "eax") (ae (au "rax") (ae (au "cl") (ae (au "dx") ah))))))))) ai)
theorem D7:ba 0 21 uD:=
 go (cC (aD (cF uo (kn 0) (bM (kl (ks "al") (kl (ks "ax") (kl (ks "eax") (kl (ks "rax") (kl (ks "cl") (kl (ks "dx") ar))))))))) ak)
def la:FS:=av (sp 1 0 0 uD [])
theorem qs:aL 0 155 la:=bu (aP 30 1 (ix G4 6) bZ) D7
def nG:W2:=(af (ax (ag (eK false) (au "imm") (aa 0))) ai)
theorem wC:ba 0 22 nG:=
 go (cC (aD (cF uo (ks "imm") (kn 0))) ak)
def eQ:FS:=av (sp 1 0 0 nG [])
theorem gR:aL 0 162 eQ:=bu (aP 32 1 (ix G6 6) bZ) wC
def oQ:W2:=(af (ax (ag aO (eE (aa 0) fq (cJ (aj 3))) (au "rel"))) ai)
theorem yq:ba 0 23 oQ:=
 go (cC (aD (cF aS (gQ (kn 0) r7 (gY (ki 3))) (ks "rel"))) ak)
def fx:FS:=av (sp 1 0 0 oQ [])
theorem ij:aL 0 169 fx:=bu (aP 34 1 (ix G8 6) bZ) yq
def nH:W2:=(af (ax (y1 (ag aO (eE (aa 0) fq (cJ (aj 1))) (au "m")) (y1 (ag aO (eE (aa 0) fq (cJ (aj 2))) (au "rm")) (ag aO (eE (aa 0) fq (cJ (aj 2))) (au "xm"))))) ai)
theorem wD:ba 0 24 nH:=
 go (cC (aD (Fg (cF aS (gQ (kn 0) r7 (gY (ki 1))) (ks "m")) (Fg (cF aS (gQ (kn 0) r7 (gY (ki 2))) (ks "rm")) (wA .Or (cF aS (gQ (kn 0) r7 (gY (ki 2))) (ks "xm")))))) ak)
def lx:FS:=av (sp 1 0 0 nH [])
theorem t9:aL 0 176 lx:=bu (aP 36 1 (ix G9 6) bZ) wD
def wF:W2:=(af (aI (bC (tE (aq la (ae (aa 0) ah))) (bC (tE (ag aO (aa 0) (au "one"))) (fun σ=>.ok false σ))) (af (ax (au "fixed")) ai) ai) (af (aI (tE (aq eQ (ae (aa 0) ah))) (af (ax (au "imm")) ai) ai) (af (aI (tE (aq fx (ae (aa 0) ah))) (af (ax (au "rel")) ai) ai) (af (aI (tE (aq lx (ae (aa 0) ah))) (af (ax (au "rm")) ai) ai) (af (ax (eT (tE (ag aO (eE (aa 0) fq (cJ (aj 1))) (au "o"))) (au "plus") (au "reg"))) ai)))))
theorem Ij:ba 1 27 wF:=
 go (cC (aK (ck (dq (kg 3 qs (kl (kn 0) ar))) (ck (aE aS (kn 0) (ks "one")) eh)) (cC (aD (ks "fixed")) ak) ak) (cC (aK (dq (kg 4 gR (kl (kn 0) ar))) (cC (aD (ks "imm")) ak) ak) (cC (aK (dq (kg 5 ij (kl (kn 0) ar))) (cC (aD (ks "rel")) ak) ak) (cC (aK (dq (kg 6 t9 (kl (kn 0) ar))) (cC (aD (ks "rm")) ak) ak) (cC (aD (iT (aE aS (gQ (kn 0) r7 (gY (ki 1))) (ks "o")) (ks "plus") (ks "reg"))) ak)))))
def sf:FS:=av (sp 1 0 0 wF [])
theorem Cx:aL 1 197 sf:=bu (aP 42 1 (ix Hc 6) bZ) Ij
def eY:W2:=(af (aQ 2 (aa 1) (aa 0)) (af (aQ 3 (aF (one xW) (ae (aa 2) ah)) (aa 0)) (af (aQ 4 (aa 3) (aa 0)) (af (aQ 5 (aa 4) (aa 0)) (af (aQ 6 (aa 5) (aa 0)) (af (aQ 7 (aa 6) (aa 0)) (af (aQ 8 (aa 7) (aa 0)) (af (aQ 9 (aa 8) (aa 0)) (af (aQ 10 (eC (aj 1)) (aa 0)) (af (aQ 11 (aF (one xW) (ae (du (cQ (ao 3 (aa 0))) 1 2 [] (fun σ=>.ok true σ) (aq sf (ae (aa 1) ah))) ah)) (aa 0)) ai))))))))))
theorem gA:ef 2 28 0 eY:=
 go (cC (bE 2 (kn 1) (kn 0)) (cC (bE 3 (kb pQ (bJ GC) (kl (kn 2) ar)) (kn 0)) (cC (bE 4 (kn 3) (kn 0)) (cC (bE 5 (kn 4) (kn 0)) (cC (bE 6 (kn 5) (kn 0)) (cC (bE 7 (kn 6) (kn 0)) (cC (bE 8 (kn 7) (kn 0)) (cC (bE 9 (kn 8) (kn 0)) (cC (bE 10 (iS (ki 1)) (kn 0)) (cC (bE 11 (kb pQ (bJ GC) (kl (mx ⟨.function,[(".0",.local),("kind",.local),("slot_of",.globalImplicit)],false,false,[]⟩ 1 2 9 [] (by decide +kernel) (fU (ka 3 (kn 0))) uB (kg 7 Cx (kl (kn 1) ar))) ar)) (kn 0)) ak))))))))))
theorem ve:de KF 210 (rS 28 0) (sM 28 0) ((Loc (sM 28 0)).take 9) 4 0 [.int (0) 428,.int (-1) 430,.int (0) 431,.int (0) 432,.bool false]:=aP 45 9 (ix va 4) Fi
def mE:FS:=sp 4 5 0 eY [.int (0),.int (-1),.int (0),.int (0),.bool false]
theorem vf:aL 2 210 mE:=(om (dxs:=[.int (0),.int (-1),.int (0),.int (0),.bool false]) ve (fun _ _ _=>(.cons (.int _ _) (.cons (.int _ _) (.cons (.int _ _) (.cons (.int _ _) (.cons (.bool _) VRs.nil)))))) gA)
def dX:FS:=newSpec 255 mE
theorem eG:aL 3 255 dX:=(fT tI pR pS vf)
def mF:FS:=sp 9 0 0 eY []
theorem vg:aL 2 210 mF:=dN (aP 45 9 (ix va 4) Z3) gA
def pT:FS:=newSpec 255 mF
theorem vh:aL 3 255 pT:=(fT tI pR pS vg)
def kq:W2:=(af (ax (bf fm gf (au "o no b ae e ne be a s ns p np l ge le g") (ae (au " ") ah))) ai)
theorem sh:ba 0 20 kq:=
 go (cC (aD (Fh ei fJ fw rfl iJ (r6 zU) (kl (ks " ") ar))) ak)
def iV:FS:=sp 0 0 0 kq []
theorem pU:aL 0 148 iV:=dN (aP 28 0 (ix G3 6) wB) sh
theorem vi:de KF 210 (rS 28 0) (sM 28 0) ((Loc (sM 28 0)).take 9) 5 0 [.int (-1) 430,.int (0) 431,.int (0) 432,.bool false]:=aP 45 9 (ix va 4) Fj
def mG:FS:=sp 5 4 0 eY [.int (-1),.int (0),.int (0),.bool false]
theorem vj:aL 2 210 mG:=(om (dxs:=[.int (-1),.int (0),.int (0),.bool false]) vi (fun _ _ _=>(.cons (.int _ _) (.cons (.int _ _) (.cons (.int _ _) (.cons (.bool _) VRs.nil))))) gA)
def Cy:FS:=newSpec 255 mG
theorem L6:aL 3 255 Cy:=(fT tI pR pS vj)
def qt:W2:=(af (aG 0 (dH (ae (aq dX (ae (au "jmp") (ae (bk (ae (au "rel8") ah)) (ae (aj 235) ah)))) (ae (aq dX (ae (au "jmp") (ae (bk (ae (au "rel32") ah)) (ae (aj 233) ah)))) (ae (aq pT (ae (au "jmp") (ae (bk (ae (au "rm64") ah)) (ae (aj 255) (ae (aj 0) (ae (aj 4) (ae (aj 64) (ae (aj 0) (ae (cb true) ah))))))))) ah))))) (af (aG 1 (aq iV ah)) (af (cZ (dr (eV (ae (aF (one bA) (ae (aa 1) ah)) ah))) [2] (af (bR (bf cI bx (aa 0) (ae (aq dX (ae (ag aH (au "j") (ag az (aa 1) (aa 2))) (ae (bk (ae (au "rel8") ah)) (ae (ag aH (aj 112) (aa 2)) ah)))) ah))) (af (bR (bf cI bx (aa 0) (ae (aq Cy (ae (ag aH (au "j") (ag az (aa 1) (aa 2))) (ae (bk (ae (au "rel32") ah)) (ae (ag aH (aj 128) (aa 2)) (ae (aj 1) ah))))) ah))) ai))) (af (ax (aa 0)) ai))))
theorem z8:ba 4 144 qt:=
 go (cC (aU 0 (jR (kl (kg 8 eG (kl (ks "jmp") (kl (bM (kl (ks "rel8") ar)) (kl (ki 235) ar)))) (kl (kg 8 eG (kl (ks "jmp") (kl (bM (kl (ks "rel32") ar)) (kl (ki 233) ar)))) (kl (kg 8 vh (kl (ks "jmp") (kl (bM (kl (ks "rm64") ar)) (kl (ki 255) (kl (ki 0) (kl (ki 4) (kl (ki 64) (kl (ki 0) (kl (iR true) ar))))))))) ar))))) (cC (aU 1 (zw 9 pU)) (cC (lu 2 (fi (r8 (kl (kb bN (bJ c6) (kl (kn 1) ar)) ar))) (cC (fL (jC (kn 0) (kl (kg 8 eG (kl (aC aM (ks "j") (a9 (kn 1) (kn 2))) (kl (bM (kl (ks "rel8") ar)) (kl (aC aM (ki 112) (kn 2)) ar)))) ar))) (cC (fL (jC (kn 0) (kl (kg 8 L6 (kl (aC aM (ks "j") (a9 (kn 1) (kn 2))) (kl (bM (kl (ks "rel32") ar)) (kl (aC aM (ki 128) (kn 2)) (kl (ki 1) ar))))) ar))) ak))) (cC (aD (kn 0)) ak))))
def iW:FS:=sp 0 0 3 qt []
theorem wG:aL 4 1242 iW:=dN (aP 253 0 (ix Bc 6) wB) z8
def qu:W2:=(af (ax (aY (ae (aq dX (ae (au "call") (ae (bk (ae (au "rel32") ah)) (ae (aj 232) ah)))) (ae (aq pT (ae (au "call") (ae (bk (ae (au "rm64") ah)) (ae (aj 255) (ae (aj 0) (ae (aj 2) (ae (aj 64) (ae (aj 0) (ae (cb true) ah))))))))) (ae (aq dX (ae (au "ret") (ae (bk ah) (ae (aj 195) ah)))) (ae (aq dX (ae (au "ret") (ae (bk (ae (au "uimm16") ah)) (ae (aj 194) ah)))) (ae (aq pT (ae (au "leave") (ae (bk ah) (ae (aj 201) (ae (aj 0) (ae (eC (aj 1)) (ae (aj 64) (ae (aj 0) (ae (cb true) ah))))))))) ah))))))) ai)
theorem z9:ba 4 145 qu:=
 go (cC (aD (di (kl (kg 8 eG (kl (ks "call") (kl (bM (kl (ks "rel32") ar)) (kl (ki 232) ar)))) (kl (kg 8 vh (kl (ks "call") (kl (bM (kl (ks "rm64") ar)) (kl (ki 255) (kl (ki 0) (kl (ki 2) (kl (ki 64) (kl (ki 0) (kl (iR true) ar))))))))) (kl (kg 8 eG (kl (ks "ret") (kl (bM ar) (kl (ki 195) ar)))) (kl (kg 8 eG (kl (ks "ret") (kl (bM (kl (ks "uimm16") ar)) (kl (ki 194) ar)))) (kl (kg 8 vh (kl (ks "leave") (kl (bM ar) (kl (ki 201) (kl (ki 0) (kl (iS (ki 1)) (kl (ki 64) (kl (ki 0) (kl (iR true) ar))))))))) ar))))))) ak)
def iX:FS:=sp 0 0 0 qu []
theorem wH:aL 4 1249 iX:=dN (aP 255 0 (ix Bd 6) wB) z9
def qv:W2:=(af (ax (aY (ae (aq dX (ae (au "loopne") (ae (bk (ae (au "rel8") ah)) (ae (aj 224) ah)))) (ae (aq dX (ae (au "loope") (ae (bk (ae (au "rel8") ah)) (ae (aj 225) ah)))) (ae (aq dX (ae (au "loop") (ae (bk (ae (au "rel8") ah)) (ae (aj 226) ah)))) (ae (aq dX (ae (au "jrcxz") (ae (bk (ae (au "rel8") ah)) (ae (aj 227) ah)))) ah)))))) ai)
theorem Aa:ba 4 146 qv:=
 go (cC (aD (di (kl (kg 8 eG (kl (ks "loopne") (kl (bM (kl (ks "rel8") ar)) (kl (ki 224) ar)))) (kl (kg 8 eG (kl (ks "loope") (kl (bM (kl (ks "rel8") ar)) (kl (ki 225) ar)))) (kl (kg 8 eG (kl (ks "loop") (kl (bM (kl (ks "rel8") ar)) (kl (ki 226) ar)))) (kl (kg 8 eG (kl (ks "jrcxz") (kl (bM (kl (ks "rel8") ar)) (kl (ki 227) ar)))) ar)))))) ak)
def iY:FS:=sp 0 0 0 qv []
theorem wI:aL 4 1256 iY:=dN (aP 257 0 (ix Be 6) wB) Aa
def qw:W2:=(af (ax (aY (ae (aj 8) (ae (aj 16) (ae (aj 32) (ae (aj 64) ah)))))) ai)
theorem Ab:ba 0 139 qw:=
 go (cC (aD (di (kl (ki 8) (kl (ki 16) (kl (ki 32) (kl (ki 64) ar)))))) ak)
def nI:FS:=sp 0 0 0 qw []
theorem wJ:aL 0 1213 nI:=dN (aP 244 0 (ix A8 6) wB) Ab
def wK:W2:=(af (ax (ag aH (aa 0) (aF (one BJ) (ae (aa 1) ah)))) ai)
theorem Ik:ba 0 140 wK:=
 go (cC (aD (aC aM (kn 0) (kb Co (bJ Lz) (kl (kn 1) ar)))) ak)
def mH:FS:=sp 2 0 0 wK []
theorem si:aL 0 1220 mH:=dN (aP 246 2 (ix A9 6) cT) Ik
theorem vk:de KF 210 (rS 28 0) (sM 28 0) ((Loc (sM 28 0)).take 9) 7 0 [.int (0) 432,.bool false]:=aP 45 9 (ix va 4) WM
def mI:FS:=sp 7 2 0 eY [.int (0),.bool false]
theorem vm:aL 2 210 mI:=(om (dxs:=[.int (0),.bool false]) vk (fun _ _ _=>(.cons (.int _ _) (.cons (.bool _) VRs.nil))) gA)
def Cz:FS:=newSpec 255 mI
theorem L7:aL 3 255 Cz:=(fT tI pR pS vm)
def zy:W2:=(af (ax (eT (tE (ag aO (aa 1) (aj 8))) (aa 0) (ag aH (aa 0) (aj 1)))) ai)
theorem JY:ba 0 141 zy:=
 go (cC (aD (iT (aE aS (kn 1) (ki 8)) (kn 0) (aC aM (kn 0) (ki 1)))) ak)
def uE:FS:=sp 2 0 0 zy []
theorem D8:aL 0 1227 uE:=dN (aP 248 2 (ix Ba 6) cT) JY
def qx:W2:=(af (aG 3 (dH ah)) (af (cZ (dr (cQ (aq nI ah))) [4] (af (aG 5 (bk (ae (aq mH (ae (au "r") (ae (aa 4) ah))) (ae (aq mH (ae (au "rm") (ae (aa 4) ah))) ah)))) (af (bR (bf cI bx (aa 3) (ae (aq Cz (ae (aa 0) (ae (aa 5) (ae (aq uE (ae (aa 1) (ae (aa 4) ah))) (ae (aa 2) (ae (eC (aj 1)) (ae (aa 4) ah))))))) ah))) ai))) (af (ax (aa 3)) ai)))
theorem Ac:ba 4 142 qx:=
 go (cC (aU 3 (jR ar)) (cC (lu 4 (fi (fU (zw 13 wJ))) (cC (aU 5 (bM (kl (kg 14 si (kl (ks "r") (kl (kn 4) ar))) (kl (kg 14 si (kl (ks "rm") (kl (kn 4) ar))) ar)))) (cC (fL (jC (kn 3) (kl (kg 8 L7 (kl (kn 0) (kl (kn 5) (kl (kg 15 D8 (kl (kn 1) (kl (kn 4) ar))) (kl (kn 2) (kl (iS (ki 1)) (kl (kn 4) ar))))))) ar))) ak))) (cC (aD (kn 3)) ak)))
theorem wL:de KF 1235 (dW 142) (sA 142) ((Loc (sA 142)).take 3) 2 3 [.int (0) 1833]:=aP 251 3 (ix Bb 6) cT
def iZ:FS:=sp 2 1 3 qx [.int (0)]
theorem wM:aL 4 1235 iZ:=(om (dxs:=[.int (0)]) wL (fun _ _ _=>(.cons (.int _ _) VRs.nil)) Ac)
noncomputable def fX:Scope:=⟨.function,[("worth",.cell),("width",.local),("range",.globalImplicit)],false,false,[("fast",.str "worth"),("fast",.str "width"),("fast",.str "turn")]⟩
def oR:W2:=(af (ax (du (eV (ae (aa 0) ah)) 1 2 [1] (fun σ=>.ok true σ) (ag b8 (ag fS (aa 2) (ag iF (aj 256) (aa 1))) (aj 256)))) ai)
theorem yr:JS PW KF 0 fX (dW 154) oR:=
 go (cC (aD (mx ⟨.function,[(".0",.local),("turn",.local),("worth",.free)],false,false,[]⟩ 1 2 1 [0] (by decide +kernel) (r8 (kl (kn 0) ar)) uB (aC fR (aC lU (sb 2 0) (aC BC (ki 256) (kn 1))) (ki 256)))) ak)
theorem vn:oG KF 1358 (dW 154) fX ["worth","width"]:=Sk 273 (ix Bl 4) cT
def dY:FS:=av (jQ ["worth","width"] (Loc fX) (Cel fX) oR)
theorem vo:aL 0 1358 dY:=(JF.pure (GP vn yr))
def i0:W2:=(af (er (bk (ae (dH (ae (aj 0) ah)) (ae (aY ah) ah))) [2,1]) (af (cZ (vP (cQ (aa 0))) [3,4,5] (af (bR (bf cI bx (aa 1) (ae (ag aH (ag aH (ag az (aa 1) (eC (aj 1))) (aF (one bA) (ae (aa 3) ah))) (aa 4)) ah))) ai)) (af (cZ (rP (ae (aa 0) ah)) [6,7] (af (aG 2 (ag aH (ag aH (aa 2) (ag az (aa 7) (aj 0))) (aq dY (ae (ag jJ (ag b8 (ag az (aa 7) (aj 2)) (ag aH (ag az (aa 1) (eC (aj 1))) (aj 3))) (ag az (aa 1) (ag aH (aa 6) (aj 1)))) (ae (ag az (aa 7) (aj 1)) ah))))) ai)) (af (ax (aF (one gd) (ae (aa 2) ah))) ai))))
theorem CA:ba 1 156 i0:=
 go (cC (kX (s:=(nS (dW 156) 0)) (w:=(er (bk (ae (dH (ae (aj 0) ah)) (ae (aY ah) ah))) [2,1])) (rG (names:=["places","found"]) (slR:=[2,1]) (go (bM (kl (jR (kl (ki 0) ar)) (kl (di ar) ar)))) (.cons (stN rfl) (.cons (stN rfl) .nil)) (fun _=>rfl) (fun _ _ _ _ _ _=>rfl))) (cC (JW [3,4,5] (ZZ (fU (kn 0))) (cC (fL (jC (kn 1) (kl (aC aM (aC aM (a9 (kn 1) (iS (ki 1))) (kb bN (bJ c6) (kl (kn 3) ar))) (kn 4)) ar))) ak)) (cC (JW [6,7] (WH (kl (kn 0) ar)) (cC (aU 2 (aC aM (aC aM (kn 2) (a9 (kn 7) (ki 0))) (kg 17 vo (kl (aC pD (aC fR (a9 (kn 7) (ki 2)) (aC aM (a9 (kn 1) (iS (ki 1))) (ki 3))) (a9 (kn 1) (aC aM (kn 6) (ki 1)))) (kl (a9 (kn 7) (ki 1)) ar))))) ak)) (cC (aD (kb mn (bJ rD) (kl (kn 2) ar))) ak))))
def gB:FS:=av (sp 1 0 7 i0 [])
theorem yt:aL 1 1372 gB:=bu (aP 277 1 (ix Bn 6) bZ) CA
def eZ:W2:=(af (aI (tE (ag uj (ag az (aa 0) (aj 2)) (aj 0))) (af (aG 2 (ag b8 (aF (one dh) (ae (ag az (aa 0) (aj 2)) ah)) (aa 1))) (af (fu (ag fS (aF (one dh) (ae (ag az (aa 0) (aj 2)) ah)) (aa 1)) (aa 0) (aj 2)) (af (ax (aa 2)) ai))) ai) (af (aG 3 (ag az (aa 0) (aj 1))) (af (fu (ag aH (aa 3) (aj 1)) (aa 0) (aj 1)) (af (aG 4 (ag aH (ag aH (ag dC (aj 69491) (aa 3)) (aj 3361)) (ag b8 (aF (one dh) (ae (aF (one BK) (ae (eE (ag az (aa 0) (aj 0)) fq (cJ (aj 1))) ah)) ah)) (aj 1000003)))) (af (aI (tE (ag fNe (ag az (aa 0) (aj 0)) (aY ah))) (af (aG 4 (ag az (ag az (aa 0) (aj 0)) (ag b8 (aF (one dh) (ae (aa 3) ah)) (aF (one bA) (ae (ag az (aa 0) (aj 0)) ah))))) ai) ai) (af (aI (bj (tE (ag iG (aa 3) (aF (one bA) (ae (ag az (aa 0) (aj 0)) ah)))) (bj (tE (ag uk (aF (one pJ) (ae (aa 4) ah)) (ag iF (aj 10) (aj 18)))) (fun σ=>.ok true σ))) (af (aG 5 (ag jJ (aF (one pJ) (ae (aa 4) ah)) (ag iF (aj 10) (aj 18)))) (af (fu (ag fS (aF (one dh) (ae (aa 5) ah)) (aa 1)) (aa 0) (aj 2)) (af (ax (ag b8 (aF (one dh) (ae (aa 5) ah)) (aa 1))) ai))) ai) (af (aG 6 (ag b8 (aF (one dh) (ae (ag iF (ag aH (ag aH (ag b8 (aF (one dh) (ae (aa 4) ah)) (aj 2147483587)) (ag dC (aj 69491) (aa 3))) (aj 3361)) (aj 5)) ah)) (aj 2147483629))) (af (aG 6 (ag b8 (aF (one dh) (ae (ag iF (ag aH (ag aH (ag dC (aa 6) (ag aH (ag dC (aj 2) (aa 3)) (aj 5717))) (ag dC (ag dC (aj 69491) (aa 3)) (aa 3))) (aj 41)) (aj 3)) ah)) (aj 2147483579))) (af (ax (ag b8 (aF (one dh) (ae (ag fS (aa 6) (aj 32)) ah)) (aa 1))) ai)))))))))
theorem CB:ba 0 152 eZ:=
 go (cC (aK (aE EO (a9 (kn 0) (ki 2)) (ki 0)) (cC (aU 2 (aC fR (kb eW (bJ jM) (kl (a9 (kn 0) (ki 2)) ar)) (kn 1))) (cC (zx (aC lU (kb eW (bJ jM) (kl (a9 (kn 0) (ki 2)) ar)) (kn 1)) (kn 0) (ki 2)) (cC (aD (kn 2)) ak))) ak) (cC (aU 3 (a9 (kn 0) (ki 1))) (cC (zx (aC aM (kn 3) (ki 1)) (kn 0) (ki 1)) (cC (aU 4 (aC aM (aC aM (aC kK (ki 69491) (kn 3)) (ki 3361)) (aC fR (kb eW (bJ jM) (kl (kb RP (bJ XC) (kl (gQ (a9 (kn 0) (ki 0)) r7 (gY (ki 1))) ar)) ar)) (ki 1000003)))) (cC (aK (aE cP (a9 (kn 0) (ki 0)) (di ar)) (cC (aU 4 (a9 (a9 (kn 0) (ki 0)) (aC fR (kb eW (bJ jM) (kl (kn 3) ar)) (kb bN (bJ c6) (kl (a9 (kn 0) (ki 0)) ar))))) ak) ak) (cC (aK (cf (aE nu (kn 3) (kb bN (bJ c6) (kl (a9 (kn 0) (ki 0)) ar))) (cf (aE BD (kb JJ (bJ Qw) (kl (kn 4) ar)) (aC BC (ki 10) (ki 18))) eF)) (cC (aU 5 (aC pD (kb JJ (bJ Qw) (kl (kn 4) ar)) (aC BC (ki 10) (ki 18)))) (cC (zx (aC lU (kb eW (bJ jM) (kl (kn 5) ar)) (kn 1)) (kn 0) (ki 2)) (cC (aD (aC fR (kb eW (bJ jM) (kl (kn 5) ar)) (kn 1))) ak))) ak) (cC (aU 6 (aC fR (kb eW (bJ jM) (kl (aC BC (aC aM (aC aM (aC fR (kb eW (bJ jM) (kl (kn 4) ar)) (ki 2147483587)) (aC kK (ki 69491) (kn 3))) (ki 3361)) (ki 5)) ar)) (ki 2147483629))) (cC (aU 6 (aC fR (kb eW (bJ jM) (kl (aC BC (aC aM (aC aM (aC kK (kn 6) (aC aM (aC kK (ki 2) (kn 3)) (ki 5717))) (aC kK (aC kK (ki 69491) (kn 3)) (kn 3))) (ki 41)) (ki 3)) ar)) (ki 2147483579))) (cC (aD (aC fR (kb eW (bJ jM) (kl (aC lU (kn 6) (ki 32)) ar)) (kn 1))) ak)))))))))
def aX:FS:=sp 2 0 5 eZ []
theorem cD:aL 0 1346 aX:=dN (aP 269 2 (ix Bj 6) cT) CB
def i3:W2:=(af (ax (ag az (aa 1) (aq aX (ae (aa 0) (ae (aF (one bA) (ae (aa 1) ah)) ah))))) ai)
theorem CC:ba 1 153 i3:=
 go (cC (aD (a9 (kn 1) (kg 19 cD (kl (kn 0) (kl (kb bN (bJ c6) (kl (kn 1) ar)) ar))))) ak)
def dP:FS:=sp 2 0 0 i3 []
theorem yu:aL 1 1353 dP:=dN (aP 271 2 (ix Bk 6) cT) CC
def i4:W2:=(af (aG 1 (dH ah)) (af (cZ (dr (eV (ae (ag aH (aj 1) (aq aX (ae (aa 0) (ae (aj 4) ah)))) ah))) [2] (af (er (bk (ae (aq aX (ae (aa 0) (ae (aj 16) ah))) (ae (aq aX (ae (aa 0) (ae (aj 40) ah))) ah))) [4,3]) (af (aG 5 (aq aX (ae (aa 0) (ae (aj 7) ah)))) (af (aG 6 (aY (ae (aY (ae (aj 235) ah)) (ae (aY (ae (ag aH (aj 112) (aa 3)) ah)) (ae (aY (ae (aj 232) ah)) (ae (aY (ae (aj 15) (ae (ag aH (aj 128) (aa 3)) ah))) (ae (aY (ae (ag aH (aj 224) (ag b8 (aa 3) (aj 4))) ah)) (ae (aY (ae (aj 72) (ae (aj 43) (ae (aj 5) ah)))) (ae (aY (ae (aj 100) (ae (aj 43) (ae (aj 5) ah)))) ah))))))))) (af (aI (bj (tE (ag iG (aa 5) (aj 7))) (bj (tE (ag uj (aq aX (ae (aa 0) (ae (aj 4) ah))) (aj 0))) (fun σ=>.ok true σ))) (af (aG 7 (ag az (aa 6) (aa 5))) (af (bR (bf cI bx (aa 1) (ae (bk (ae (aa 7) (ae (eT (tE (ag (eK false) (aa 5) (bk (ae (aj 0) (ae (aj 1) (ae (aj 4) ah)))))) (aj 1) (aj 4)) (ae (aa 4) ah)))) ah))) ai)) (af (bR (bf cI bx (aa 1) (ae (bk (ae (aq dP (ae (aa 0) (ae (aY (ae (aY (ae (aj 43) (ae (aj 195) ah))) (ae (aY (ae (aj 43) (ae (aj 68) (ae (aj 36) (ae (aj 8) ah))))) (ae (aY (ae (aj 6) ah)) (ae (aY (ae (aj 43) (ae (aj 4) (ae (aj 37) (ae (aj 16) (ae (aj 0) (ae (aj 0) (ae (aj 0) ah)))))))) ah))))) ah))) (ae (aj 0) (ae (aj 0) ah)))) ah))) ai)) ai))))) (af (ax (aa 1)) ai)))
theorem CD:ba 2 155 i4:=
 go (cC (aU 1 (jR ar)) (cC (lu 2 (fi (r8 (kl (aC aM (ki 1) (kg 19 cD (kl (kn 0) (kl (ki 4) ar)))) ar))) (cC (kX (s:=(nS (oP (nS (dW 155) 1)).1 0)) (w:=(er (bk (ae (aq aX (ae (aa 0) (ae (aj 16) ah))) (ae (aq aX (ae (aa 0) (ae (aj 40) ah))) ah))) [4,3])) (rG (names:=["low","goal"]) (slR:=[4,3]) (go (bM (kl (kg 19 cD (kl (kn 0) (kl (ki 16) ar))) (kl (kg 19 cD (kl (kn 0) (kl (ki 40) ar))) ar)))) (.cons (stN rfl) (.cons (stN rfl) .nil)) (fun _=>rfl) (fun _ _ _ _ _ _=>rfl))) (cC (aU 5 (kg 19 cD (kl (kn 0) (kl (ki 7) ar)))) (cC (aU 6 (di (kl (di (kl (ki 235) ar)) (kl (di (kl (aC aM (ki 112) (kn 3)) ar)) (kl (di (kl (ki 232) ar)) (kl (di (kl (ki 15) (kl (aC aM (ki 128) (kn 3)) ar))) (kl (di (kl (aC aM (ki 224) (aC fR (kn 3) (ki 4))) ar)) (kl (di (kl (ki 72) (kl (ki 43) (kl (ki 5) ar)))) (kl (di (kl (ki 100) (kl (ki 43) (kl (ki 5) ar)))) ar))))))))) (cC (aK (cf (aE nu (kn 5) (ki 7)) (cf (aE EO (kg 19 cD (kl (kn 0) (kl (ki 4) ar))) (ki 0)) eF)) (cC (aU 7 (a9 (kn 6) (kn 5))) (cC (fL (jC (kn 1) (kl (bM (kl (kn 7) (kl (iT (aE uo (kn 5) (bM (kl (ki 0) (kl (ki 1) (kl (ki 4) ar))))) (ki 1) (ki 4)) (kl (kn 4) ar)))) ar))) ak)) (cC (fL (jC (kn 1) (kl (bM (kl (kg 20 yu (kl (kn 0) (kl (di (kl (di (kl (ki 43) (kl (ki 195) ar))) (kl (di (kl (ki 43) (kl (ki 68) (kl (ki 36) (kl (ki 8) ar))))) (kl (di (kl (ki 6) ar)) (kl (di (kl (ki 43) (kl (ki 4) (kl (ki 37) (kl (ki 16) (kl (ki 0) (kl (ki 0) (kl (ki 0) ar)))))))) ar))))) ar))) (kl (ki 0) (kl (ki 0) ar)))) ar))) ak)) ak))))) (cC (aD (kn 1)) ak)))
def gC:FS:=cL (sp 1 0 7 i4 [])
theorem yv:aL 2 1365 gC:=zt (aP 275 1 (ix Bm 6) bZ) CD
def ej:W2:=(af (aI (tE (ag aO (aq aX (ae (aa 0) (ae (aj 6) ah))) (aj 5))) (af (ax bS) ai) ai) (af (aG 2 md) (af (cZ (dr (cQ (eE (aY (ae (au "main") (ae (au "end_1") (ae (au "b.2") (ae (au "a") ah))))) fq (cJ (aq aX (ae (aa 0) (ae (aj 5) ah))))))) [3] (af (fu (aq aX (ae (aa 0) (ae (ag aH (aF (one bA) (ae (aa 1) ah)) (aj 3)) ah))) (aa 2) (aa 3)) ai)) (af (ax (aa 2)) ai))))
theorem Ad:ba 1 157 ej:=
 go (cC (aK (aE aS (kg 19 cD (kl (kn 0) (kl (ki 6) ar))) (ki 5)) (cC (aD gi) ak) ak) (cC (aU 2 Nw) (cC (lu 3 (fi (fU (gQ (di (kl (ks "main") (kl (ks "end_1") (kl (ks "b.2") (kl (ks "a") ar))))) r7 (gY (kg 19 cD (kl (kn 0) (kl (ki 5) ar))))))) (cC (zx (kg 19 cD (kl (kn 0) (kl (aC aM (kb bN (bJ c6) (kl (kn 1) ar)) (ki 3)) ar))) (kn 2) (kn 3)) ak)) (cC (aD (kn 2)) ak))))
def ew:FS:=cL (sp 2 0 2 ej [])
theorem wN:aL 1 1379 ew:=zt (aP 279 2 (ix Bo 6) cT) Ad
def eR:W2:=(af (aG 1 md) (af (aI (tE (ag gw (aa 0) bS)) (af (cZ (dr (cQ (aF (one mi) (ae (aa 0) ah)))) [2] (af (aI (tE (ag (eK true) (ag az (aa 0) (aa 2)) (aa 1))) (af (fu (aa 2) (aa 1) (ag az (aa 0) (aa 2))) ai) ai) ai)) ai) ai) (af (ax (aa 1)) ai)))
theorem ua:ba 0 133 eR:=
 go (cC (aU 1 Nw) (cC (aK (aE nv (kn 0) gi) (cC (lu 2 (fi (fU (kb zu (bJ LX) (kl (kn 0) ar)))) (cC (aK (aE rN (a9 (kn 0) (kn 2)) (kn 1)) (cC (zx (kn 2) (kn 1) (a9 (kn 0) (kn 2))) ak) ak) ak)) ak) ak) (cC (aD (kn 1)) ak)))
def s_fnames_by_place_1:FS:=av (sp 1 0 2 eR [])
theorem q5:aL 0 1177 s_fnames_by_place_1:=bu (aP 233 1 (ix A4 6) bZ) ua
def ey:W2:=(af (aQ 18 (aa 1) (aa 0)) (af (aQ 21 (aa 2) (aa 0)) (af (aQ 22 (aa 3) (aa 0)) (af (aQ 23 (aa 4) (aa 0)) (af (aQ 24 (aa 5) (aa 0)) ai)))))
theorem gm:ef 0 75 0 ey:=
 go (cC (bE 18 (kn 1) (kn 0)) (cC (bE 21 (kn 2) (kn 0)) (cC (bE 22 (kn 3) (kn 0)) (cC (bE 23 (kn 4) (kn 0)) (cC (bE 24 (kn 5) (kn 0)) ak)))))
theorem pV:de KF 726 (rS 75 0) (sM 75 0) ((Loc (sM 75 0)).take 6) 1 0 [.str "" 1111,.bool false,.int (0) 1112,.bool false,.int (-1) 1114]:=aP 123 6 (ix yk 6) bZ
def i5:FS:=sp 1 5 0 ey [.str "",.bool false,.int (0),.bool false,.int (-1)]
theorem pW:aL 0 726 i5:=(om (dxs:=[.str "",.bool false,.int (0),.bool false,.int (-1)]) pV (fun _ _ _=>(.cons (.str _ _) (.cons (.bool _) (.cons (.int _ _) (.cons (.bool _) (.cons (.int _ _) VRs.nil)))))) gm)
def mJ:FS:=av (newSpec 764 i5)
theorem CE:aL 1 764 mJ:=(JF.pure (fT ou mu mv pW))
def zz:W2:=(af (ax (ag aO (ag fS (aa 0) (aj 16)) (aj 4))) ai)
theorem JZ:ba 0 72 zz:=
 go (cC (aD (cF aS (aC lU (kn 0) (ki 16)) (ki 4))) ak)
def eH:FS:=av (sp 1 0 0 zz [])
theorem D9:aL 0 697 eH:=bu (aP 118 1 (ix HC 6) bZ) JZ
def jD:W2:=(af (ax (ag uk (ao 24 (aa 0)) (aj 0))) ai)
theorem q6:ef 0 75 2 jD:=
 go (cC (aD (cF BD (ka 24 (kn 0)) (ki 0))) ak)
def dw:FS:=av (sp 1 0 0 jD [])
theorem iy:aL 0 740 dw:=bu (aP 125 1 (ix HE 6) bZ) q6
def i6:FS:=sp 6 0 0 ey []
theorem pX:aL 0 726 i6:=dN (aP 123 6 (ix yk 6) Z2) gm
def sj:FS:=av (newSpec 764 i6)
theorem CF:aL 1 764 sj:=(JF.pure (fT ou mu mv pX))
def uF:W2:=(af (ax (aq sj (ae (ao 18 (aa 0)) (ae (ao 21 (aa 0)) (ae (ao 22 (aa 0)) (ae (ao 23 (aa 0)) (ae (aa 1) ah))))))) ai)
theorem Ea:ba 2 76 uF:=
 go (cC (aD (kg 24 CF (kl (ka 18 (kn 0)) (kl (ka 21 (kn 0)) (kl (ka 22 (kn 0)) (kl (ka 23 (kn 0)) (kl (kn 1) ar))))))) ak)
def lg:FS:=av (sp 2 0 0 uF [])
theorem Ae:aL 2 775 lg:=bu (aP 129 2 (ix HG 6) cT) Ea
def wO:W2:=(af (aI (bC (tE (ag aO (aa 0) (aj 100))) (bC (tE (ag aO (aa 0) (aj 101))) (fun σ=>.ok false σ))) (af (ax (au "segment")) ai) ai) (af (aI (tE (ag aO (aa 0) (aj 102))) (af (ax (au "data")) ai) ai) (af (aI (bC (tE (ag aO (aa 0) (aj 243))) (bC (tE (ag aO (aa 0) (aj 242))) (fun σ=>.ok false σ))) (af (ax (au "repeat")) ai) ai) (af (aI (tE (ag aO (aa 0) (aj 240))) (af (ax (au "lock")) ai) ai) (af (ax (eT (tE (ag (eK false) (aa 0) (bk (ae (aj 38) (ae (aj 46) (ae (aj 54) (ae (aj 62) (ae (aj 103) ah)))))))) (au "barred") (au ""))) ai)))))
theorem Il:ba 0 74 wO:=
 go (cC (aK (ck (aE aS (kn 0) (gL Nq)) (ck (aE aS (kn 0) (gL Vy)) eh)) (cC (aD (ks "segment")) ak) ak) (cC (aK (aE aS (kn 0) (gL vb)) (cC (aD (ks "data")) ak) ak) (cC (aK (ck (aE aS (kn 0) (gL RO)) (ck (aE aS (kn 0) (gL L2)) eh)) (cC (aD (ks "repeat")) ak) ak) (cC (aK (aE aS (kn 0) (gL Pm)) (cC (aD (ks "lock")) ak) ak) (cC (aD (iT (aE uo (kn 0) (bM (kl (ki 38) (kl (ki 46) (kl (ki 54) (kl (ki 62) (kl (ki 103) ar))))))) (ks "barred") (ks ""))) ak)))))
def dZ:FS:=av (sp 1 0 0 wO [])
theorem sk:aL 0 711 dZ:=bu (aP 120 1 (ix HD 6) bZ) Il
theorem pY:de KF 726 (rS 75 0) (sM 75 0) ((Loc (sM 75 0)).take 6) 5 0 [.int (-1) 1114]:=aP 123 6 (ix yk 6) Fj
def i7:FS:=sp 5 1 0 ey [.int (-1)]
theorem pZ:aL 0 726 i7:=(om (dxs:=[.int (-1)]) pY (fun _ _ _=>(.cons (.int _ _) VRs.nil)) gm)
def gn:FS:=av (newSpec 764 i7)
theorem i8:aL 1 764 gn:=(JF.pure (fT ou mu mv pZ))
def oS:W2:=(af (aG 2 (aq dZ (ae (aa 1) ah))) (af (aI (tE (ag aO (aa 2) (au "barred"))) cB ai) (af (aI (tE (bq [(764,dw)] (aa 0) ah)) cB ai) (af (aI (tE (ag aO (aa 2) (au "segment"))) (af (aI (tE (ag fNe (ao 18 (aa 0)) (au ""))) cB ai) (af (aG 3 (eT (tE (ag aO (aa 1) (aj 100))) (au "fs") (au "gs"))) (af (ax (aq gn (ae (aa 3) (ae (ao 21 (aa 0)) (ae (ao 22 (aa 0)) (ae (ao 23 (aa 0)) ah)))))) ai))) ai) (af (aI (tE (ag aO (aa 2) (au "data"))) (af (aI (tE (ao 21 (aa 0))) cB ai) (af (ax (aq gn (ae (ao 18 (aa 0)) (ae (cb true) (ae (ao 22 (aa 0)) (ae (ao 23 (aa 0)) ah)))))) ai)) ai) (af (aI (tE (ag aO (aa 2) (au "repeat"))) (af (aI (bC (tE (ag fNe (ao 22 (aa 0)) (aj 0))) (bC (tE (ao 23 (aa 0))) (fun σ=>.ok false σ))) cB ai) (af (ax (aq gn (ae (ao 18 (aa 0)) (ae (ao 21 (aa 0)) (ae (aa 1) (ae (cb false) ah)))))) ai)) ai) (af (aI (bC (tE (ao 23 (aa 0))) (bC (tE (ag fNe (ao 22 (aa 0)) (aj 0))) (fun σ=>.ok false σ))) cB ai) (af (ax (aq gn (ae (ao 18 (aa 0)) (ae (ao 21 (aa 0)) (ae (aj 0) (ae (cb true) ah)))))) ai))))))))
theorem yw:ba 2 77 oS:=
 go (cC (aU 2 (kg 27 sk (kl (kn 1) ar))) (cC (aK (aE aS (kn 2) (ks "barred")) fM ak) (cC (aK (dq (iw lJ (ed jB iy rfl bY) (kn 0))) fM ak) (cC (aK (aE aS (kn 2) (ks "segment")) (cC (aK (aE cP (ka 18 (kn 0)) (ks "")) fM ak) (cC (aU 3 (iT (aE aS (kn 1) (gL Nq)) (ks "fs") (ks "gs"))) (cC (aD (kg 24 i8 (kl (kn 3) (kl (ka 21 (kn 0)) (kl (ka 22 (kn 0)) (kl (ka 23 (kn 0)) ar)))))) ak))) ak) (cC (aK (aE aS (kn 2) (ks "data")) (cC (aK (dq (ka 21 (kn 0))) fM ak) (cC (aD (kg 24 i8 (kl (ka 18 (kn 0)) (kl (iR true) (kl (ka 22 (kn 0)) (kl (ka 23 (kn 0)) ar)))))) ak)) ak) (cC (aK (aE aS (kn 2) (ks "repeat")) (cC (aK (ck (aE cP (ka 22 (kn 0)) (ki 0)) (ck (dq (ka 23 (kn 0))) eh)) fM ak) (cC (aD (kg 24 i8 (kl (ka 18 (kn 0)) (kl (ka 21 (kn 0)) (kl (kn 1) (kl (iR false) ar)))))) ak)) ak) (cC (aK (ck (dq (ka 23 (kn 0))) (ck (aE cP (ka 22 (kn 0)) (ki 0)) eh)) fM ak) (cC (aD (kg 24 i8 (kl (ka 18 (kn 0)) (kl (ka 21 (kn 0)) (kl (ki 0) (kl (iR true) ar)))))) ak))))))))
def ik:FS:=av (sp 2 0 2 oS [])
theorem vp:aL 2 782 ik:=bu (aP 131 2 (ix HH 6) cT) yw
def cv:W2:=(af (aG 2 (aq mJ ah)) (af (dp (tE (ag iG (aa 1) (aF (one bA) (ae (aa 0) ah)))) (af (aG 3 (ag az (aa 0) (aa 1))) (af (aI (tE (aq eH (ae (aa 3) ah))) (af (aI (tE (bq [(764,dw)] (aa 2) ah)) cB ai) (af (aG 2 (aq lg (ae (aa 2) (ae (aa 3) ah)))) ai)) (af (aI (tE (ag fNe (aq dZ (ae (aa 3) ah)) (au ""))) (af (aG 2 (aq ik (ae (aa 2) (ae (aa 3) ah)))) ai) (af (ax (bk (ae (aa 2) (ae (aa 1) ah)))) ai)) ai)) (af (aG 1 (ag aH (aa 1) (aj 1))) ai))) 20) (af (ax (bk (ae (aa 2) (ae (aa 1) ah)))) ai)))
theorem vq:ba 3 78 cv:=
 go (cC (aU 2 (zw 24 CE)) (cC (R9 20 (aE nu (kn 1) (kb bN (bJ c6) (kl (kn 0) ar))) (cC (aU 3 (a9 (kn 0) (kn 1))) (cC (aK (dq (kg 25 D9 (kl (kn 3) ar))) (cC (aK (dq (iw lJ (ed jB iy rfl bY) (kn 2))) fM ak) (cC (aU 2 (kg 26 Ae (kl (kn 2) (kl (kn 3) ar)))) ak)) (cC (aK (aE cP (kg 27 sk (kl (kn 3) ar)) (ks "")) (cC (aU 2 (kg 28 vp (kl (kn 2) (kl (kn 3) ar)))) ak) (cC (aD (bM (kl (kn 2) (kl (kn 1) ar)))) ak)) ak)) (cC (aU 1 (aC aM (kn 1) (ki 1))) ak)))) (cC (aD (bM (kl (kn 2) (kl (kn 1) ar)))) ak)))
def bp:FS:=av (sp 2 0 2 cv [])
theorem sm:aL 3 789 bp:=bu (aP 133 2 (ix HI 6) cT) vq
def uG:W2:=(af (aI (tE (ag iG (aa 0) (aj 0))) (af (ax (bk (ae (aj 0) (ae (aj 0) (ae (aj 0) (ae (aj 0) ah)))))) ai) ai) (af (ax (bk (ae (ag b8 (ag fS (aa 0) (aj 8)) (aj 2)) (ae (ag b8 (ag fS (aa 0) (aj 4)) (aj 2)) (ae (ag b8 (ag fS (aa 0) (aj 2)) (aj 2)) (ae (ag b8 (aa 0) (aj 2)) ah)))))) ai))
theorem Eb:ba 0 71 uG:=
 go (cC (aK (aE nu (kn 0) (ki 0)) (cC (aD (bM (kl (ki 0) (kl (ki 0) (kl (ki 0) (kl (ki 0) ar)))))) ak) ak) (cC (aD (bM (kl (aC fR (aC lU (kn 0) (ki 8)) (ki 2)) (kl (aC fR (aC lU (kn 0) (ki 4)) (ki 2)) (kl (aC fR (aC lU (kn 0) (ki 2)) (ki 2)) (kl (aC fR (kn 0) (ki 2)) ar)))))) ak))
end
noncomputable section
def qy:FS:=av (sp 1 0 0 uG [])
theorem Af:aL 0 690 qy:=bu (aP 116 1 (ix HA 6) bZ) Eb
def nJ:W2:=(af (aQ 29 (aa 1) (aa 0)) (af (aQ 28 (aa 2) (aa 0)) (af (aQ 30 (aa 3) (aa 0)) (af (aG 4 (aq qy (ae (ao 24 (aa 2)) ah))) (af (aQ 31 (ag az (aa 4) (aj 0)) (aa 0)) (af (aQ 32 (ag az (aa 4) (aj 1)) (aa 0)) (af (aQ 33 (ag az (aa 4) (aj 2)) (aa 0)) (af (aQ 34 (ag az (aa 4) (aj 3)) (aa 0)) (af (aQ 5 (aj 0) (aa 0)) (af (aQ 4 (aj 0) (aa 0)) (af (aQ 8 (aj 0) (aa 0)) (af (aQ 35 (aa 3) (aa 0)) (af (aQ 36 (eC (aj 1)) (aa 0)) (af (aQ 37 (aj 0) (aa 0)) (af (aQ 38 (aj 0) (aa 0)) (af (aQ 39 (eC (aj 1)) (aa 0)) (af (aQ 40 (aj 0) (aa 0)) (af (aQ 41 (aj 0) (aa 0)) (af (aQ 42 (aa 3) (aa 0)) ai)))))))))))))))))))
theorem wQ:ef 1 86 0 nJ:=
 go (cC (bE 29 (kn 1) (kn 0)) (cC (bE 28 (kn 2) (kn 0)) (cC (bE 30 (kn 3) (kn 0)) (cC (aU 4 (kg 30 Af (kl (ka 24 (kn 2)) ar))) (cC (bE 31 (a9 (kn 4) (ki 0)) (kn 0)) (cC (bE 32 (a9 (kn 4) (ki 1)) (kn 0)) (cC (bE 33 (a9 (kn 4) (ki 2)) (kn 0)) (cC (bE 34 (a9 (kn 4) (ki 3)) (kn 0)) (cC (bE 5 (ki 0) (kn 0)) (cC (bE 4 (ki 0) (kn 0)) (cC (bE 8 (ki 0) (kn 0)) (cC (bE 35 (kn 3) (kn 0)) (cC (bE 36 (iS (ki 1)) (kn 0)) (cC (bE 37 (ki 0) (kn 0)) (cC (bE 38 (ki 0) (kn 0)) (cC (bE 39 (iS (ki 1)) (kn 0)) (cC (bE 40 (ki 0) (kn 0)) (cC (bE 41 (ki 0) (kn 0)) (cC (bE 42 (kn 3) (kn 0)) ak)))))))))))))))))))
def ly:FS:=sp 4 0 1 nJ []
theorem ub:aL 1 831 ly:=dN (aP 139 4 (ix HL 6) Fi) wQ
def iz:FS:=newSpec 869 ly
theorem J0:aL 2 869 iz:=(fT L5 JM JN ub)
def cU:W2:=(af (aG 2 (ao 30 (aa 0))) (af (aI (tE (ag aO (eE (aa 1) (cJ (aa 2)) (cJ (ag aH (aa 2) (aj 1)))) (aF (one gd) (ae (aY (ae (aj 15) ah)) ah)))) (af (aQ 5 (aj 1) (aa 0)) (af (aG 2 (ag aH (aa 2) (aj 1))) ai)) ai) (af (aI (tE (ag uk (aa 2) (aF (one bA) (ae (aa 1) ah)))) cB ai) (af (aQ 4 (ag az (aa 1) (aa 2)) (aa 0)) (af (aQ 35 (ag aH (aa 2) (aj 1)) (aa 0)) (af (aQ 42 (ag aH (aa 2) (aj 1)) (aa 0)) ai))))))
theorem so:ef 0 86 3 cU:=
 go (cC (aU 2 (ka 30 (kn 0))) (cC (aK (aE aS (gQ (kn 1) (gY (kn 2)) (gY (aC aM (kn 2) (ki 1)))) (kb mn (bJ rD) (kl (di (kl (gL JH) ar)) ar))) (cC (bE 5 (ki 1) (kn 0)) (cC (aU 2 (aC aM (kn 2) (ki 1))) ak)) ak) (cC (aK (aE BD (kn 2) (kb bN (bJ c6) (kl (kn 1) ar))) fM ak) (cC (bE 4 (a9 (kn 1) (kn 2)) (kn 0)) (cC (bE 35 (aC aM (kn 2) (ki 1)) (kn 0)) (cC (bE 42 (aC aM (kn 2) (ki 1)) (kn 0)) ak))))))
def bK:FS:=sp 2 0 1 cU []
theorem p0:aL 0 852 bK:=dN (aP 145 2 (ix HO 6) cT) so
def i9:W2:=(af (ax (aF (one rC) (ae (bf tC M0 (ao 47 (aa 0)) (ae (bk (ae (aa 1) (ae (aa 2) (ae (aa 3) ah)))) (ae (aY ah) ah))) ah))) ai)
theorem qa:ef 0 149 4 i9:=
 go (cC (aD (kb tH (bJ BL) (kl (Fh Pa Pk RH rfl Vo (ka 47 (kn 0)) (kl (bM (kl (kn 1) (kl (kn 2) (kl (kn 3) ar)))) (kl (di ar) ar))) ar))) ak)
def s_fInstructionSet_at_4:FS:=av (sp 4 0 0 i9 [])
theorem gZ:aL 0 1301 s_fInstructionSet_at_4:=bu (aP 263 4 (ix Bh 6) Fi) qa
def ku:W2:=(af (cZ (dr (cQ (bk (ae (ao 22 (ao 28 (aa 0))) (ae (eT (tE (ao 21 (ao 28 (aa 0)))) (aj 102) (aj 0)) ah))))) [2] (af (aI (bj (tE (ag fNe (aa 2) (aj 0))) (bj (tE (ag fNe (oJ 1 [(1330,s_fInstructionSet_at_4)] (aa 1) (ae (aa 2) (ae (ao 5 (aa 0)) (ae (ao 4 (aa 0)) ah)))) (aY ah))) (fun σ=>.ok true σ))) (af (aQ 8 (aa 2) (aa 0)) (af Gm ai)) ai) ai)) ai)
theorem sq:ef 1 86 4 ku:=
 go (cC (lu 2 (fi (fU (bM (kl (ka 22 (ka 28 (kn 0))) (kl (iT (dq (ka 21 (ka 28 (kn 0)))) (gL nE) (ki 0)) ar))))) (cC (aK (cf (aE cP (kn 2) (ki 0)) (cf (aE cP (WG Nr (ed iP gZ rfl bY) (kn 1) (kl (kn 2) (kl (ka 5 (kn 0)) (kl (ka 4 (kn 0)) ar)))) (di ar)) eF)) (cC (bE 8 (kn 2) (kn 0)) (cC ZX ak)) ak) ak)) ak)
def fy:FS:=sp 2 0 1 ku []
theorem qb:aL 1 859 fy:=dN (aP 147 2 (ix HP 6) cT) sq
def lz:W2:=(af (ax (y1 (ag uk (ao 6 (aa 0)) (aj 0)) (y1 (ag (eK false) (au "rm") (ao 11 (aa 0))) (ag (eK false) (au "reg") (ao 11 (aa 0)))))) ai)
theorem uc:ef 0 28 3 lz:=
 go (cC (aD (Fg (cF BD (ka 6 (kn 0)) (ki 0)) (Fg (cF uo (ks "rm") (ka 11 (kn 0))) (wA .Or (cF uo (ks "reg") (ka 11 (kn 0))))))) ak)
def cN:FS:=av (sp 1 0 0 lz [])
theorem q7:aL 0 231 cN:=bu (aP 49 1 (ix He 6) bZ) uc
def nK:W2:=(af (ax (bk (ae (ag fS (aa 0) (aj 64)) (ae (ag b8 (ag fS (aa 0) (aj 8)) (aj 8)) (ae (ag b8 (aa 0) (aj 8)) ah))))) ai)
theorem wR:ba 0 57 nK:=
 go (cC (aD (bM (kl (aC lU (kn 0) (ki 64)) (kl (aC fR (aC lU (kn 0) (ki 8)) (ki 8)) (kl (aC fR (kn 0) (ki 8)) ar))))) ak)
def gS:FS:=av (sp 1 0 0 nK [])
theorem lA:aL 0 641 gS:=bu (aP 102 1 (ix Ht 6) bZ) wR
def nM:W2:=(af (ax (aq gS (ae (aa 0) ah))) ai)
theorem wU:ba 1 58 nM:=
 go (cC (aD (kg 32 lA (kl (kn 0) ar))) ak)
def cG:FS:=av (sp 1 0 0 nM [])
theorem ud:aL 1 648 cG:=bu (aP 104 1 (ix Hu 6) bZ) wU
def j4:W2:=(af (aI (tE (ag uk (aa 1) (aF (one bA) (ae (aa 0) ah)))) cB ai) (af (ax (ag az (aa 0) (aa 1))) ai))
theorem Ec:ba 0 60 j4:=
 go (cC (aK (aE BD (kn 1) (kb bN (bJ c6) (kl (kn 0) ar))) fM ak) (cC (aD (a9 (kn 0) (kn 1))) ak))
def ek:FS:=av (sp 2 0 0 j4 [])
theorem qz:aL 0 662 ek:=bu (aP 108 2 (ix Hw 6) cT) Ec
def mK:W2:=(af (aI (tE (ag aO (aa 0) (aj 3))) (af (ax (aj 0)) ai) ai) (af (aI (tE (ag aO (aa 0) (aj 1))) (af (ax (aj 1)) ai) ai) (af (aI (tE (ag aO (aa 0) (aj 2))) (af (ax (aj 4)) ai) ai) (af (aI (tE (ag aO (aa 1) (aj 5))) (af (ax (aj 4)) ai) ai) (af (ax (eT (bj (tE (ag aO (aa 1) (aj 4))) (bj (tE (ag aO (ag b8 (aa 2) (aj 8)) (aj 5))) (fun σ=>.ok true σ))) (aj 4) (aj 0))) ai)))))
theorem vt:ba 0 61 mK:=
 go (cC (aK (aE aS (kn 0) (ki 3)) (cC (aD (ki 0)) ak) ak) (cC (aK (aE aS (kn 0) (ki 1)) (cC (aD (ki 1)) ak) ak) (cC (aK (aE aS (kn 0) (ki 2)) (cC (aD (ki 4)) ak) ak) (cC (aK (aE aS (kn 1) (gL uv)) (cC (aD (ki 4)) ak) ak) (cC (aD (iT (cf (aE aS (kn 1) (gL ot)) (cf (aE aS (aC fR (kn 2) (ki 8)) (gL wh)) eF)) (ki 4) (ki 0))) ak)))))
def cV:FS:=av (sp 3 0 0 mK [])
theorem sr:aL 0 669 cV:=bu (aP 110 3 (ix Hx 6) my) vt
def Fk:W2:=(af (ax (ag jJ (ag BB (aj 1) (aa 0)) (aj 1))) ai)
theorem Pr:ba 0 7 Fk:=
 go (cC (aD (aC pD (aC Gj (ki 1) (kn 0)) (ki 1))) ak)
def zA:FS:=sp 1 0 0 Fk []
theorem J4:aL 0 92 zA:=dN (aP 14 1 (ix Na 6) bZ) Pr
def Fm:W2:=(af (ax (ag Lq (aa 0) (aq zA (ae (aa 1) ah)))) ai)
theorem Pt:ba 1 8 Fm:=
 go (cC (aD (aC P7 (kn 0) (kg 36 J4 (kl (kn 1) ar)))) ak)
def zB:FS:=sp 2 0 0 Fm []
theorem J5:aL 1 99 zB:=dN (aP 16 2 (ix Nb 6) cT) Pt
def zC:W2:=(af (aG 2 (aq zB (ae (aa 0) (ae (aa 1) ah)))) (af (aI (tE (ag aO (ag Lr (aa 2) (ag jJ (aa 1) (aj 1))) (aj 1))) (af (ax (ag jJ (aa 2) (ag BB (aj 1) (aa 1)))) ai) ai) (af (ax (aa 2)) ai)))
theorem J6:ba 2 9 zC:=
 go (cC (aU 2 (kg 37 J5 (kl (kn 0) (kl (kn 1) ar)))) (cC (aK (aE aS (aC P8 (kn 2) (aC pD (kn 1) (ki 1))) (ki 1)) (cC (aD (aC pD (kn 2) (aC Gj (ki 1) (kn 1)))) ak) ak) (cC (aD (kn 2)) ak)))
def uH:FS:=sp 2 0 1 zC []
theorem Ed:aL 2 106 uH:=dN (aP 18 2 (ix GY 6) cT) J6
def oU:W2:=(af (aG 1 (aj 0)) (af (aG 2 (aj 0)) (af (cZ (dr (xV (aa 0))) [3] (af (aG 1 (ag Wb (aa 1) (ag BB (aa 3) (aa 2)))) (af (aG 2 (ag aH (aa 2) (aj 8))) ai))) (af (ax (aa 1)) ai))))
theorem yx:ba 0 11 oU:=
 go (cC (aU 1 (ki 0)) (cC (aU 2 (ki 0)) (cC (lu 3 (fi (XK (kn 0))) (cC (aU 1 (aC ZI (kn 1) (aC Gj (kn 3) (kn 2)))) (cC (aU 2 (aC aM (kn 2) (ki 8))) ak))) (cC (aD (kn 1)) ak))))
def mL:FS:=av (sp 1 0 3 oU [])
theorem vw:aL 0 120 mL:=bu (aP 20 1 (ix GZ 6) bZ) yx
def iA:W2:=(af (aI (tE (ag aO (aF (one bA) (ae (aa 0) ah)) (aj 0))) (af (ax (aj 0)) ai) ai) (af (ax (aq uH (ae (aq mL (ae (aa 0) ah)) (ae (ag dC (aj 8) (aF (one bA) (ae (aa 0) ah))) ah)))) ai))
theorem oV:ba 3 12 iA:=
 go (cC (aK (aE aS (kb bN (bJ c6) (kl (kn 0) ar)) (ki 0)) (cC (aD (ki 0)) ak) ak) (cC (aD (kg 38 Ed (kl (kg 39 vw (kl (kn 0) ar)) (kl (aC kK (ki 8) (kb bN (bJ c6) (kl (kn 0) ar))) ar)))) ak))
def aR:FS:=av (sp 1 0 0 iA [])
theorem gM:aL 3 127 aR:=bu (aP 22 1 (ix G0 6) bZ) oV
def cx:W2:=(af (eo (aq cG (ae (aq ek (ae (aa 0) (ae (aa 1) ah))) ah)) [aName 2,aName 3,aName 4]) (af (aG 1 (ag aH (aa 1) (aj 1))) (af (aG 5 (eC (aj 1))) (af (aI (bj (tE (ag fNe (aa 2) (aj 3))) (bj (tE (ag aO (aa 4) (aj 4))) (fun σ=>.ok true σ))) (af (aG 5 (aq ek (ae (aa 0) (ae (aa 1) ah)))) (af (aG 1 (ag aH (aa 1) (aj 1))) ai)) ai) (af (aG 6 (aq cV (ae (aa 2) (ae (aa 4) (ae (aa 5) ah))))) (af (aI (tE (ag uj (ag aH (aa 1) (aa 6)) (aF (one bA) (ae (aa 0) ah)))) cB ai) (af (aG 7 (eT (tE (ag uj (aa 6) (aj 0))) (aq aR (ae (eE (aa 0) (cJ (aa 1)) (cJ (ag aH (aa 1) (aa 6)))) ah)) (aj 0))) (af (ax (bk (ae (aa 2) (ae (aa 3) (ae (aa 4) (ae (aa 5) (ae (aa 7) (ae (aa 6) (ae (ag aH (aa 1) (aa 6)) ah))))))))) ai))))))))
theorem Ag:ba 4 62 cx:=
 go (cC (kX (s:=(nS (dW 62) 0)) (w:=(eo (aq cG (ae (aq ek (ae (aa 0) (ae (aa 1) ah))) ah)) [aName 2,aName 3,aName 4])) (pK (go (kg 33 ud (kl (kg 34 qz (kl (kn 0) (kl (kn 1) ar))) ar))) (.cons (fun _=>rfl) (fH (stN rfl)) (.cons (fun _=>rfl) (fH (stN rfl)) (.cons (fun _=>rfl) (fH (stN rfl)) .nil))) (fun _=>rfl) (fun _ _ _ _ _ _=>rfl))) (cC (aU 1 (aC aM (kn 1) (ki 1))) (cC (aU 5 (iS (ki 1))) (cC (aK (cf (aE cP (kn 2) (ki 3)) (cf (aE aS (kn 4) (gL ot)) eF)) (cC (aU 5 (kg 34 qz (kl (kn 0) (kl (kn 1) ar)))) (cC (aU 1 (aC aM (kn 1) (ki 1))) ak)) ak) (cC (aU 6 (kg 35 sr (kl (kn 2) (kl (kn 4) (kl (kn 5) ar))))) (cC (aK (aE EO (aC aM (kn 1) (kn 6)) (kb bN (bJ c6) (kl (kn 0) ar))) fM ak) (cC (aU 7 (iT (aE EO (kn 6) (ki 0)) (kg 40 gM (kl (gQ (kn 0) (gY (kn 1)) (gY (aC aM (kn 1) (kn 6)))) ar)) (ki 0))) (cC (aD (bM (kl (kn 2) (kl (kn 3) (kl (kn 4) (kl (kn 5) (kl (kn 7) (kl (kn 6) (kl (aC aM (kn 1) (kn 6)) ar))))))))) ak))))))))
def bO:FS:=av (sp 2 0 6 cx [])
theorem wV:aL 4 676 bO:=bu (aP 112 2 (ix Hy 6) cT) Ag
def d7:W2:=(af (aG 2 (aq bO (ae (aa 1) (ae (ao 35 (aa 0)) ah)))) (af (eo (bk (ae (ag az (aa 2) (aj 0)) (ae (ag az (aa 2) (aj 1)) (ae (ag az (aa 2) (aj 2)) ah)))) [fW 36 (aa 0),fW 37 (aa 0),fW 38 (aa 0)]) (af (eo (bk (ae (ag az (aa 2) (aj 3)) (ae (ag az (aa 2) (aj 4)) (ae (ag az (aa 2) (aj 5)) ah)))) [fW 39 (aa 0),fW 40 (aa 0),fW 41 (aa 0)]) (af (aQ 42 (ag az (aa 2) (aj 6)) (aa 0)) ai))))
theorem q8:ef 5 86 5 d7:=
 go (cC (aU 2 (kg 41 wV (kl (kn 1) (kl (ka 35 (kn 0)) ar)))) (cC (kX (s:=(nS (rS 86 5) 1)) (w:=(eo (bk (ae (ag az (aa 2) (aj 0)) (ae (ag az (aa 2) (aj 1)) (ae (ag az (aa 2) (aj 2)) ah)))) [fW 36 (aa 0),fW 37 (aa 0),fW 38 (aa 0)])) (pK (go (bM (kl (a9 (kn 2) (ki 0)) (kl (a9 (kn 2) (ki 1)) (kl (a9 (kn 2) (ki 2)) ar))))) (.cons (fun _=>rfl) (oC (i:=36) ig (jn rfl)) (.cons (fun _=>rfl) (oC (i:=37) ig (jn rfl)) (.cons (fun _=>rfl) (oC (i:=38) ig (jn rfl)) .nil))) (fun _=>rfl) (fun _ _ _ _ _ _=>rfl))) (cC (kX (s:=(nS (rS 86 5) 2)) (w:=(eo (bk (ae (ag az (aa 2) (aj 3)) (ae (ag az (aa 2) (aj 4)) (ae (ag az (aa 2) (aj 5)) ah)))) [fW 39 (aa 0),fW 40 (aa 0),fW 41 (aa 0)])) (pK (go (bM (kl (a9 (kn 2) (ki 3)) (kl (a9 (kn 2) (ki 4)) (kl (a9 (kn 2) (ki 5)) ar))))) (.cons (fun _=>rfl) (oC (i:=39) ig (jn rfl)) (.cons (fun _=>rfl) (oC (i:=40) ig (jn rfl)) (.cons (fun _=>rfl) (oC (i:=41) ig (jn rfl)) .nil))) (fun _=>rfl) (fun _ _ _ _ _ _=>rfl))) (cC (bE 42 (a9 (kn 2) (ki 6)) (kn 0)) ak))))
def cW:FS:=sp 2 0 1 d7 []
theorem oW:aL 5 866 cW:=dN (aP 149 2 (ix HQ 6) cT) q8
def uI:W2:=(af (aI (bC (tE (ag aO (ao 5 (aa 1)) (aj 1))) (bC (tE (ag fNe (ao 4 (aa 1)) (aj 144))) (fun σ=>.ok false σ))) (af (ax (cb true)) ai) ai) (af (aG 2 (rn (ag aO (ao 34 (aa 1)) (aj 0)) (rn (ag aO (ao 31 (aa 1)) (aj 0)) (Gl (ao 21 (ao 28 (aa 1))))))) (af (ax (ag aO (ag aO (ao 2 (aa 0)) (au "nop")) (aa 2))) ai)))
theorem Ee:ba 0 89 uI:=
 go (cC (aK (ck (aE aS (ka 5 (kn 1)) (ki 1)) (ck (aE cP (ka 4 (kn 1)) (gL RM)) eh)) (cC (aD (iR true)) ak) ak) (cC (aU 2 (yp (cF aS (ka 34 (kn 1)) (ki 0)) (yp (cF aS (ka 31 (kn 1)) (ki 0)) (wA .And (RZ (ka 21 (ka 28 (kn 1)))))))) (cC (aD (cF aS (cF aS (ka 2 (kn 0)) (ks "nop")) (kn 2))) ak)))
def qA:FS:=cL (sp 2 0 1 uI [])
theorem Ah:aL 0 892 qA:=zt (aP 157 2 (ix HT 6) cT) Ee
def uJ:W2:=(af (ax (y1 (ag iG (aa 1) (aj 3)) (Gl (aF (one rB) (ae (du (cQ (ao 3 (aa 0))) 1 2 [] (fun σ=>.ok true σ) (ag aO (eE (aa 1) fq (cJ (aj 1))) (au "m"))) ah))))) ai)
theorem Ef:ba 0 88 uJ:=
 go (cC (aD (Fg (cF nu (kn 1) (gL uw)) (wA .Or (RZ (kb Cm (bJ LA) (kl (mx ⟨.function,[(".0",.local),("kind",.local)],false,false,[]⟩ 1 2 2 [] (by decide +kernel) (fU (ka 3 (kn 0))) uB (cF aS (gQ (kn 1) r7 (gY (ki 1))) (ks "m"))) ar)))))) ak)
def qB:FS:=cL (sp 2 0 0 uJ [])
theorem Ai:aL 0 885 qB:=zt (aP 155 2 (ix HS 4) cT) Ef
def kz:W2:=(af (ax (rn (ao 21 (ao 28 (aa 0))) (ag fNe (ao 8 (aa 0)) (aj 102)))) ai)
theorem su:ef 0 86 2 kz:=
 go (cC (aD (yp (ka 21 (ka 28 (kn 0))) (wA .And (cF cP (ka 8 (kn 0)) (gL nE))))) ak)
def dJ:FS:=cL (sp 1 0 0 kz [])
theorem fA:aL 0 845 dJ:=zt (aP 143 1 (ix HN 6) bZ) su
def sv:W2:=(af (aI (bC (tE (ag aO (ao 7 (aa 0)) (aj 0))) (bC (tE (ag aO (ao 7 (aa 0)) (aj 8))) (fun σ=>.ok false σ))) (af (ax (cb true)) ai) ai) (af (aI (tE (ao 9 (aa 0))) (af (ax (ag aO (ao 7 (aa 0)) (eT (tE (bq [(869,dJ)] (aa 1) ah)) (aj 16) (aj 64)))) ai) ai) (af (aI (tE (ag aO (ao 31 (aa 1)) (aj 1))) (af (ax (ag aO (ao 7 (aa 0)) (aj 64))) ai) ai) (af (ax (ag aO (ao 7 (aa 0)) (eT (tE (bq [(869,dJ)] (aa 1) ah)) (aj 16) (aj 32)))) ai))))
theorem CG:ba 1 87 sv:=
 go (cC (aK (ck (aE aS (ka 7 (kn 0)) (ki 0)) (ck (aE aS (ka 7 (kn 0)) (ki 8)) eh)) (cC (aD (iR true)) ak) ak) (cC (aK (dq (ka 9 (kn 0))) (cC (aD (cF aS (ka 7 (kn 0)) (iT (dq (iw mr (ed gh fA rfl bY) (kn 1))) (ki 16) (ki 64)))) ak) ak) (cC (aK (aE aS (ka 31 (kn 1)) (ki 1)) (cC (aD (cF aS (ka 7 (kn 0)) (ki 64))) ak) ak) (cC (aD (cF aS (ka 7 (kn 0)) (iT (dq (iw mr (ed gh fA rfl bY) (kn 1))) (ki 16) (ki 32)))) ak))))
def oX:FS:=cL (sp 2 0 0 sv [])
theorem yy:aL 1 880 oX:=zt (aP 153 2 (ix HR 6) cT) CG
def zD:W2:=(af (cZ (dr (cQ (aa 0))) [2] (af (aI (bj (tE (ag uk (ao 6 (aa 2)) (aj 0))) (bj (tE (ag fNe (ao 6 (aa 2)) (ao 37 (aa 1)))) (fun σ=>.ok true σ))) (af gg ai) ai) (af (aI (bj (tE (aq oX (ae (aa 2) (ae (aa 1) ah)))) (bj (tE (aq qB (ae (aa 2) (ae (ao 36 (aa 1)) ah)))) (bj (tE (aq qA (ae (aa 2) (ae (aa 1) ah)))) (fun σ=>.ok true σ)))) (af (ax (aa 2)) ai) ai) ai))) (af (B6 83) ai))
theorem J7:ba 2 90 zD:=
 go (cC (lu 2 (fi (fU (kn 0))) (cC (aK (cf (aE BD (ka 6 (kn 2)) (ki 0)) (cf (aE cP (ka 6 (kn 2)) (ka 37 (kn 1))) eF)) (cC WD ak) ak) (cC (aK (cf (dq (kg 44 yy (kl (kn 2) (kl (kn 1) ar)))) (cf (dq (kg 43 Ai (kl (kn 2) (kl (ka 36 (kn 1)) ar)))) (cf (dq (kg 42 Ah (kl (kn 2) (kl (kn 1) ar)))) eF))) (cC (aD (kn 2)) ak) ak) ak))) (cC (kX (s:=(nS (dW 90) 1)) (w:=(B6 83)) (QU Cu (E7 45 rfl) (ZO 45 rfl) Qv ⟨_,rfl⟩ (fun _=>rfl) (by decide))) ak))
def s_fpicked_2:FS:=cL (sp 2 0 1 zD [])
theorem Eg:aL 2 899 s_fpicked_2:=zt (aP 159 2 (ix HU 6) cT) J7
def c9:W2:=(af (eo (aq bp (ae (aa 1) (ae (aa 2) ah))) [aName 3,aName 4]) (af (aG 5 (aq iz (ae (aa 2) (ae (aa 3) (ae (aa 4) ah))))) (af (bR (bq [(869,bK)] (aa 5) (ae (aa 1) ah))) (af (bR (bq [(869,fy)] (aa 5) (ae (aa 0) ah))) (af (aG 6 (oJ 1 [(1330,s_fInstructionSet_at_4)] (aa 0) (ae (ao 8 (aa 5)) (ae (ao 5 (aa 5)) (ae (ao 4 (aa 5)) ah))))) (af (aI (tE (aF (one rB) (ae (du (cQ (aa 6)) 1 2 [] (fun σ=>.ok true σ) (bq [(255,cN)] (aa 1) ah)) ah))) (af (bR (bq [(869,cW)] (aa 5) (ae (aa 1) ah))) ai) ai) (af (ax (bk (ae (aa 5) (ae (aq s_fpicked_2 (ae (aa 6) (ae (aa 5) ah))) ah)))) ai)))))))
theorem Aj:ba 6 101 c9:=
 go (cC (kX (s:=(nS (dW 101) 0)) (w:=(eo (aq bp (ae (aa 1) (ae (aa 2) ah))) [aName 3,aName 4])) (pK (go (kg 29 sm (kl (kn 1) (kl (kn 2) ar)))) (.cons (fun _=>rfl) (fH (stN rfl)) (.cons (fun _=>rfl) (fH (stN rfl)) .nil)) (fun _=>rfl) (fun _ _ _ _ _ _=>rfl))) (cC (aU 5 (kg 31 J0 (kl (kn 2) (kl (kn 3) (kl (kn 4) ar))))) (cC (fL (km Cq (ed rV p0 rfl bY) (kn 5) (kl (kn 1) ar))) (cC (fL (km Cr (ed rW qb rfl bY) (kn 5) (kl (kn 0) ar))) (cC (aU 6 (WG Nr (ed iP gZ rfl bY) (kn 0) (kl (ka 8 (kn 5)) (kl (ka 5 (kn 5)) (kl (ka 4 (kn 5)) ar))))) (cC (aK (dq (kb Cm (bJ LA) (kl (mx ⟨.function,[(".0",.local),("form",.local)],false,false,[]⟩ 1 2 7 [] (by decide +kernel) (fU (kn 6)) uB (iw Cp (ed t7 q7 rfl bY) (kn 1))) ar))) (cC (fL (km zX (ed qZ oW rfl bY) (kn 5) (kl (kn 1) ar))) ak) ak) (cC (aD (bM (kl (kn 5) (kl (kg 46 Eg (kl (kn 6) (kl (kn 5) ar))) ar)))) ak)))))))
def bL:FS:=av (sp 3 0 4 c9 [])
theorem wW:aL 6 972 bL:=bu (aP 177 3 (ix H4 4) my) Aj
def qC:W2:=(af (ax (aF (one rC) (ae (ao 11 (aa 0)) ah))) ai)
theorem Ak:ef 0 28 2 qC:=
 go (cC (aD (kb tH (bJ BL) (kl (ka 11 (kn 0)) ar))) ak)
def jc:FS:=av (sp 1 0 0 qC [])
theorem wX:aL 0 224 jc:=bu (aP 47 1 (ix Hd 6) bZ) Ak
def lB:W2:=(af (aQ 12 (aa 1) (aa 0)) ai)
theorem ue:ef 0 32 0 lB:=
 go (cC (bE 12 (kn 1) (kn 0)) ak)
def d8:FS:=sp 2 0 0 lB []
theorem fV:aL 0 287 d8:=dN (aP 55 2 (ix Hg 6) cT) ue
def qD:W2:=(af (bR (aq d8 (ae (aa 0) (ae (au "reg") ah)))) (af (aQ 13 (aa 1) (aa 0)) ai))
theorem Al:ef 1 33 0 qD:=
 go (cC (fL (Sf 48 iQ fV (kl (kn 0) (kl (ks "reg") ar)))) (cC (bE 13 (kn 1) (kn 0)) ak))
def nN:FS:=sp 2 0 0 qD []
theorem wY:aL 1 329 nN:=dN (aP 59 2 (ix Hh 6) cT) Al
def yz:FS:=av (newSpec 346 nN)
theorem Fn:aL 2 346 yz:=(JF.pure (fT RU Pn Po wY))
def oY:W2:=(af (aI (tE (ag aO (aa 0) (aj 64))) (af (ax (bf fm gf (au "rax rcx rdx rbx rsp rbp rsi rdi") ah)) ai) ai) (af (aI (tE (ag aO (aa 0) (aj 32))) (af (ax (bf fm gf (au "eax ecx edx ebx esp ebp esi edi") ah)) ai) ai) (af (aI (tE (ag aO (aa 0) (aj 16))) (af (ax (bf fm gf (au "ax cx dx bx sp bp si di") ah)) ai) ai) (af (aI (tE (ag aO (aa 0) (aj 8))) (af (ax (bf fm gf (au "al cl dl bl spl bpl sil dil") ah)) ai) ai) (af (ax (aY ah)) ai)))))
theorem yA:ba 0 46 oY:=
 go (cC (aK (aE aS (kn 0) (ki 64)) (cC (aD (r9 ei fJ fw rfl iJ (r6 DX))) ak) ak) (cC (aK (aE aS (kn 0) (ki 32)) (cC (aD (r9 ei fJ fw rfl iJ (r6 DW))) ak) ak) (cC (aK (aE aS (kn 0) (ki 16)) (cC (aD (r9 ei fJ fw rfl iJ (r6 DV))) ak) ak) (cC (aK (aE aS (kn 0) (ki 8)) (cC (aD (r9 ei fJ fw rfl iJ (r6 Ib))) ak) ak) (cC (aD (di ar)) ak)))))
def mO:FS:=av (sp 1 0 0 oY [])
theorem vx:aL 0 599 mO:=bu (aP 96 1 (ix Hq 6) bZ) yA
def kD:W2:=(af (aQ 2 (aa 1) (aa 0)) (af (aQ 12 (aa 2) (aa 0)) (af (aQ 10 (aa 3) (aa 0)) (af (aQ 7 (aa 4) (aa 0)) ai))))
theorem sy:ef 0 45 0 kD:=
 go (cC (bE 2 (kn 1) (kn 0)) (cC (bE 12 (kn 2) (kn 0)) (cC (bE 10 (kn 3) (kn 0)) (cC (bE 7 (kn 4) (kn 0)) ak))))
def jd:FS:=sp 5 0 0 kD []
theorem qc:aL 0 550 jd:=dN (aP 92 5 (ix Hp 6) Fj) sy
def mP:FS:=av (newSpec 588 jd)
theorem sC:aL 1 588 mP:=(JF.pure (fT D4 Cs Ct qc))
def J8:W2:=(af (aG 2 (aq mO (ae (aa 1) ah))) (af (aI (bC (tE (ag aO (aa 2) (aY ah))) (bC (uX (vN IY IY (aj 0) (aa 0) (aj 15))) (fun σ=>.ok false σ))) cB ai) (af (aI (tE (ag iG (aa 0) (aj 8))) (af (ax (aq mP (ae (ag az (aa 2) (aa 0)) (ae (au "gpr") (ae (aa 0) (ae (aa 1) ah)))))) ai) ai) (af cB ai))))
theorem Sl:ba 2 48 J8:=
 go (cC (aU 2 (kg 50 vx (kl (kn 1) ar))) (cC (aK (ck (aE aS (kn 2) (di ar)) (ck (JU (R8 MU MU (ki 0) (kn 0) (ki 15))) eh)) fM ak) (cC (aK (aE nu (kn 0) (ki 8)) (cC (aD (kg 51 sC (kl (a9 (kn 2) (kn 0)) (kl (ks "gpr") (kl (kn 0) (kl (kn 1) ar)))))) ak) ak) (cC Cw ak))))
def mQ:FS:=av (sp 2 0 1 J8 [])
theorem qd:aL 2 613 mQ:=bu (aP 98 2 (ix Hr 6) cT) Sl
def oZ:W2:=(af (aI (bj (tE (ag aO (aa 1) (aj 8))) (bj (uX (tE (aa 2))) (bj (vN IY IY (aj 4) (aa 0) (aj 7)) (fun σ=>.ok true σ)))) cB ai) (af (ax (aq mQ (ae (aa 0) (ae (aa 1) ah)))) ai))
theorem yB:ba 3 91 oZ:=
 go (cC (aK (cf (aE aS (kn 1) (ki 8)) (cf (JU (dq (kn 2))) (cf (R8 MU MU (ki 4) (kn 0) (ki 7)) eF))) fM ak) (cC (aD (kg 52 qd (kl (kn 0) (kl (kn 1) ar)))) ak))
def il:FS:=av (sp 3 0 0 oZ [])
theorem mR:aL 3 906 il:=bu (aP 161 3 (ix HV 6) my) yB
def sD:W2:=(af (aI (bC (tE (ag (eK false) (aa 0) (bk (ae (au "m") (ae (au "one") ah))))) (bC (tE (aq eQ (ae (aa 0) ah))) (bC (tE (aq fx (ae (aa 0) ah))) (fun σ=>.ok false σ)))) (af (ax (aj 0)) ai) ai) (af (aI (tE (aq la (ae (aa 0) ah))) cB ai) (af (aI (tE (ag aO (aa 0) (au "x"))) (af (ax (aj 128)) ai) ai) (af (ax (aF (one dh) (ae (bf fm xX (aa 0) (ae (au "rmox") ah)) ah))) ai))))
theorem CH:ba 1 25 sD:=
 go (cC (aK (ck (aE uo (kn 0) (bM (kl (ks "m") (kl (ks "one") ar)))) (ck (dq (kg 4 gR (kl (kn 0) ar))) (ck (dq (kg 5 ij (kl (kn 0) ar))) eh))) (cC (aD (ki 0)) ak) ak) (cC (aK (dq (kg 3 qs (kl (kn 0) ar))) fM ak) (cC (aK (aE aS (kn 0) (ks "x")) (cC (aD (ki 128)) ak) ak) (cC (aD (kb eW (bJ jM) (kl (Fh ei fJ JD rfl OV (kn 0) (kl (ks "rmox") ar)) ar))) ak))))
def e8:FS:=av (sp 1 0 0 sD [])
theorem jS:aL 1 183 e8:=bu (aP 38 1 (ix Ha 6) bZ) CH
def mS:W2:=(af (ax (ag uk (ao 24 (ao 28 (aa 0))) (aj 0))) ai)
theorem vy:ef 0 86 1 mS:=
 go (cC (aD (cF BD (ka 24 (ka 28 (kn 0))) (ki 0))) ak)
def gp:FS:=cL (sp 1 0 0 mS [])
theorem kE:aL 0 838 gp:=zt (aP 141 1 (ix HM 6) bZ) vy
def o3:W2:=(af (aG 2 (ag aH (ao 37 (aa 1)) (ag dC (aj 8) (ao 32 (aa 1))))) (af (aI (tE (ag aO (aa 0) (au "x"))) cB ai) (af (ax (aq yz (ae (aq il (ae (aa 2) (ae (aq e8 (ae (aa 0) ah)) (ae (bq [(869,gp)] (aa 1) ah) ah)))) ah))) ai)))
theorem yC:ba 4 92 o3:=
 go (cC (aU 2 (aC aM (ka 37 (kn 1)) (aC kK (ki 8) (ka 32 (kn 1))))) (cC (aK (aE aS (kn 0) (ks "x")) fM ak) (cC (aD (kg 49 Fn (kl (kg 53 mR (kl (kn 2) (kl (kg 54 jS (kl (kn 0) ar)) (kl (iw lJ (ed mq kE rfl bY) (kn 1)) ar)))) ar))) ak)))
def mU:FS:=av (sp 2 0 1 o3 [])
theorem vz:aL 4 913 mU:=bu (aP 163 2 (ix HW 6) cT) yC
def lh:W2:=(af (bR (aq d8 (ae (aa 0) (ae (au "mem") ah)))) (af (aQ 15 (aa 1) (aa 0)) (af (aQ 16 (aa 2) (aa 0)) (af (aQ 17 (aa 3) (aa 0)) (af (aQ 14 (aa 4) (aa 0)) (af (aQ 7 (aa 5) (aa 0)) (af (aQ 18 (aa 6) (aa 0)) (af (aQ 2 (aa 7) (aa 0)) ai))))))))
theorem qE:ef 1 36 0 lh:=
 go (cC (fL (Sf 48 iQ fV (kl (kn 0) (kl (ks "mem") ar)))) (cC (bE 15 (kn 1) (kn 0)) (cC (bE 16 (kn 2) (kn 0)) (cC (bE 17 (kn 3) (kn 0)) (cC (bE 14 (kn 4) (kn 0)) (cC (bE 7 (kn 5) (kn 0)) (cC (bE 18 (kn 6) (kn 0)) (cC (bE 2 (kn 7) (kn 0)) ak))))))))
theorem wZ:de KF 438 (rS 36 0) (sM 36 0) ((Loc (sM 36 0)).take 8) 7 0 [.str "" 710]:=aP 75 8 (ix B9 6) WM
def nP:FS:=sp 7 1 0 lh [.str ""]
theorem w1:aL 1 438 nP:=(om (dxs:=[.str ""]) wZ (fun _ _ _=>(.cons (.str _ _) VRs.nil)) qE)
def o4:FS:=av (newSpec 474 nP)
theorem tJ:aL 2 474 o4:=(JF.pure (fT JO E9 Fb w1))
def J9:W2:=(af (ax (aq mP (ae (au "rip") (ae (au "rip") (ae (aj 0) (ae (aj 64) ah)))))) ai)
theorem Sm:ba 2 51 J9:=
 go (cC (aD (kg 51 sC (kl (ks "rip") (kl (ks "rip") (kl (ki 0) (kl (ki 64) ar)))))) ak)
def qe:FS:=av (sp 0 0 0 J9 [])
theorem CI:aL 2 634 qe:=bu (aP 100 0 (ix Hs 6) wB) Sm
def qF:W2:=(af (ax (aq gS (ae (aa 0) ah))) ai)
theorem Am:ba 1 59 qF:=
 go (cC (aD (kg 32 lA (kl (kn 0) ar))) ak)
def jh:FS:=av (sp 1 0 0 qF [])
theorem w3:aL 1 655 jh:=bu (aP 106 1 (ix Hv 6) bZ) Am
def sE:W2:=(af (aI (tE (ag fNe (aa 1) (aj 4))) (af (aI (bj (tE (ag aO (aa 0) (aj 0))) (bj (tE (ag aO (aa 1) (aj 5))) (fun σ=>.ok true σ))) (af (ax (aq o4 (ae (aq qe ah) (ae bS (ae (aj 1) (ae (aa 3) (ae (aa 6) (ae (aa 7) ah)))))))) ai) ai) (af (ax (aq o4 (ae (aq mQ (ae (ag aH (aa 1) (ag dC (aj 8) (aa 5))) (ae (aj 64) ah))) (ae bS (ae (aj 1) (ae (aa 3) (ae (aa 6) (ae (aa 7) ah)))))))) ai)) ai) (af (eo (aq jh (ae (aa 2) ah)) [aName 8,aName 9,aName 10]) (af (aG 11 (eT (bj (tE (ag aO (aa 0) (aj 0))) (bj (tE (ag aO (aa 10) (aj 5))) (fun σ=>.ok true σ))) bS (aq mQ (ae (ag aH (aa 10) (ag dC (aj 8) (aa 5))) (ae (aj 64) ah))))) (af (aI (bj (tE (ag aO (aa 9) (aj 4))) (bj (tE (ag aO (aa 4) (aj 0))) (fun σ=>.ok true σ))) (af (ax (aq o4 (ae (aa 11) (ae bS (ae (aj 1) (ae (aa 3) (ae (aa 6) (ae (aa 7) ah)))))))) ai) ai) (af (ax (aq o4 (ae (aa 11) (ae (aq mQ (ae (ag aH (aa 9) (ag dC (aj 8) (aa 4))) (ae (aj 64) ah))) (ae (ag BB (aj 1) (aa 8)) (ae (aa 3) (ae (aa 6) (ae (aa 7) ah)))))))) ai)))))
theorem CJ:ba 3 63 sE:=
 go (cC (aK (aE cP (kn 1) (gL ot)) (cC (aK (cf (aE aS (kn 0) (ki 0)) (cf (aE aS (kn 1) (gL uv)) eF)) (cC (aD (kg 56 tJ (kl (zw 57 CI) (kl gi (kl (ki 1) (kl (kn 3) (kl (kn 6) (kl (kn 7) ar)))))))) ak) ak) (cC (aD (kg 56 tJ (kl (kg 52 qd (kl (aC aM (kn 1) (aC kK (ki 8) (kn 5))) (kl (ki 64) ar))) (kl gi (kl (ki 1) (kl (kn 3) (kl (kn 6) (kl (kn 7) ar)))))))) ak)) ak) (cC (kX (s:=(nS (dW 63) 1)) (w:=(eo (aq jh (ae (aa 2) ah)) [aName 8,aName 9,aName 10])) (pK (go (kg 58 w3 (kl (kn 2) ar))) (.cons (fun _=>rfl) (fH (stN rfl)) (.cons (fun _=>rfl) (fH (stN rfl)) (.cons (fun _=>rfl) (fH (stN rfl)) .nil))) (fun _=>rfl) (fun _ _ _ _ _ _=>rfl))) (cC (aU 11 (iT (cf (aE aS (kn 0) (ki 0)) (cf (aE aS (kn 10) (gL wh)) eF)) gi (kg 52 qd (kl (aC aM (kn 10) (aC kK (ki 8) (kn 5))) (kl (ki 64) ar))))) (cC (aK (cf (aE aS (kn 9) (gL DY)) (cf (aE aS (kn 4) (ki 0)) eF)) (cC (aD (kg 56 tJ (kl (kn 11) (kl gi (kl (ki 1) (kl (kn 3) (kl (kn 6) (kl (kn 7) ar)))))))) ak) ak) (cC (aD (kg 56 tJ (kl (kn 11) (kl (kg 52 qd (kl (aC aM (kn 9) (aC kK (ki 8) (kn 4))) (kl (ki 64) ar))) (kl (aC Gj (ki 1) (kn 8)) (kl (kn 3) (kl (kn 6) (kl (kn 7) ar)))))))) ak)))))
def o5:FS:=av (sp 8 0 4 sE [])
theorem yD:aL 3 683 o5:=bu (aP 114 8 (ix Hz 6) WN) CJ
def qG:W2:=(af (aI (tE (ag iG (ao 36 (aa 1)) (aj 3))) (af (er (bk (ae (aq e8 (ae (aa 0) ah)) (ae (ao 18 (ao 28 (aa 1))) ah))) [3,2]) (af (ax (aq o5 (ae (ao 36 (aa 1)) (ae (ao 38 (aa 1)) (ae (ao 39 (aa 1)) (ae (ao 40 (aa 1)) (ae (ao 33 (aa 1)) (ae (ao 34 (aa 1)) (ae (aa 2) (ae (aa 3) ah)))))))))) ai)) ai) (af (aG 4 (ag aH (ao 38 (aa 1)) (ag dC (aj 8) (ao 34 (aa 1))))) (af (aI (tE (ag aO (eE (aa 0) fq (cJ (aj 1))) (au "x"))) cB ai) (af (ax (aq yz (ae (aq il (ae (aa 4) (ae (aq e8 (ae (aa 0) ah)) (ae (bq [(869,gp)] (aa 1) ah) ah)))) ah))) ai))))
theorem An:ba 4 93 qG:=
 go (cC (aK (aE nu (ka 36 (kn 1)) (gL uw)) (cC (kX (s:=(nS (oP (nS (dW 93) 0)).1 0)) (w:=(er (bk (ae (aq e8 (ae (aa 0) ah)) (ae (ao 18 (ao 28 (aa 1))) ah))) [3,2])) (rG (names:=["size","segment"]) (slR:=[3,2]) (go (bM (kl (kg 54 jS (kl (kn 0) ar)) (kl (ka 18 (ka 28 (kn 1))) ar)))) (.cons (stN rfl) (.cons (stN rfl) .nil)) (fun _=>rfl) (fun _ _ _ _ _ _=>rfl))) (cC (aD (kg 59 yD (kl (ka 36 (kn 1)) (kl (ka 38 (kn 1)) (kl (ka 39 (kn 1)) (kl (ka 40 (kn 1)) (kl (ka 33 (kn 1)) (kl (ka 34 (kn 1)) (kl (kn 2) (kl (kn 3) ar)))))))))) ak)) ak) (cC (aU 4 (aC aM (ka 38 (kn 1)) (aC kK (ki 8) (ka 34 (kn 1))))) (cC (aK (aE aS (gQ (kn 0) r7 (gY (ki 1))) (ks "x")) fM ak) (cC (aD (kg 49 Fn (kl (kg 53 mR (kl (kn 4) (kl (kg 54 jS (kl (kn 0) ar)) (kl (iw lJ (ed mq kE rfl bY) (kn 1)) ar)))) ar))) ak))))
def nQ:FS:=av (sp 2 0 3 qG [])
theorem w6:aL 4 920 nQ:=bu (aP 165 2 (ix HX 6) cT) An
def qH:W2:=(af (aI (tE (aq eQ (ae (aa 0) ah))) cB ai) (af (aI (tE (aq fx (ae (aa 0) ah))) (af (ax (ag fS (aF (one dh) (ae (eE (aa 0) (cJ (aj 3)) fq) ah)) (aj 8))) ai) ai) (af (ax (aj 0)) ai)))
theorem Ao:ba 1 26 qH:=
 go (cC (aK (dq (kg 4 gR (kl (kn 0) ar))) fM ak) (cC (aK (dq (kg 5 ij (kl (kn 0) ar))) (cC (aD (aC lU (kb eW (bJ jM) (kl (gQ (kn 0) (gY (ki 3)) r7) ar)) (ki 8))) ak) ak) (cC (aD (ki 0)) ak)))
def fY:FS:=av (sp 1 0 0 qH [])
theorem w7:aL 1 190 fY:=bu (aP 40 1 (ix Hb 6) bZ) Ao
def lj:W2:=(af (bR (aq d8 (ae (aa 0) (ae (au "rel") ah)))) (af (aQ 14 (aa 1) (aa 0)) (af (aQ 2 (aa 2) (aa 0)) ai)))
theorem qI:ef 1 35 0 lj:=
 go (cC (fL (Sf 48 iQ fV (kl (kn 0) (kl (ks "rel") ar)))) (cC (bE 14 (kn 1) (kn 0)) (cC (bE 2 (kn 2) (kn 0)) ak)))
theorem w8:de KF 397 (rS 35 0) (sM 35 0) ((Loc (sM 35 0)).take 3) 2 0 [.str "" 658]:=aP 68 3 (ix B8 6) cT
def nR:FS:=sp 2 1 0 lj [.str ""]
theorem w9:aL 1 397 nR:=(om (dxs:=[.str ""]) w8 (fun _ _ _=>(.cons (.str _ _) VRs.nil)) qI)
def yE:FS:=av (newSpec 421 nR)
theorem Pu:aL 2 421 yE:=(JF.pure (fT JQ Fc Fd w9))
def ez:W2:=(af (aI (tE (ag aO (aa 1) (au "rel"))) (af (ax (aq yE (ae (aq aR (ae (aa 2) ah)) ah))) ai) ai) (af (aI (bC (tE (ag aO (aa 0) (au "simm8"))) (bC (tE (ag aO (aa 0) (au "simm32"))) (fun σ=>.ok false σ))) cB ai) (af cB ai)))
theorem sF:ba 4 97 ez:=
 go (cC (aK (aE aS (kn 1) (ks "rel")) (cC (aD (kg 62 Pu (kl (kg 40 gM (kl (kn 2) ar)) ar))) ak) ak) (cC (aK (ck (aE aS (kn 0) (ks "simm8")) (ck (aE aS (kn 0) (ks "simm32")) eh)) fM ak) (cC Cw ak)))
def dK:FS:=av (sp 3 0 0 ez [])
theorem qf:aL 4 948 dK:=bu (aP 169 3 (ix HZ 6) my) sF
def fP:W2:=(af (aG 3 (aF (one gd) (ae (eE (aa 0) (cJ (aa 1)) (cJ (ag aH (aa 1) (aa 2)))) ah))) (af (aI (tE (ag iG (aF (one bA) (ae (aa 3) ah)) (aa 2))) cB ai) (af (ax (aa 3)) ai)))
theorem Eh:ba 0 96 fP:=
 go (cC (aU 3 (kb mn (bJ rD) (kl (gQ (kn 0) (gY (kn 1)) (gY (aC aM (kn 1) (kn 2)))) ar))) (cC (aK (aE nu (kb bN (bJ c6) (kl (kn 3) ar)) (kn 2)) fM ak) (cC (aD (kn 3)) ak)))
def dc:FS:=av (sp 3 0 1 fP [])
theorem Ap:aL 0 941 dc:=bu (aP 167 3 (ix HY 6) my) Eh
def dQ:W2:=(af (er (bk (ae (dH ah) (ae (ao 42 (aa 1)) ah))) [4,3]) (af (cZ (v5 (ae (ao 3 (aa 0)) (ae (bq [(255,jc)] (aa 0) ah) ah))) [5,6] (af (aI (tE (ag aO (aa 6) (au "reg"))) (af (bR (bf cI bx (aa 3) (ae (aq mU (ae (aa 5) (ae (aa 1) ah))) ah))) ai) (af (aI (tE (ag aO (aa 6) (au "rm"))) (af (bR (bf cI bx (aa 3) (ae (aq nQ (ae (aa 5) (ae (aa 1) ah))) ah))) ai) (af (aI (tE (ag aO (aa 6) (au "plus"))) cB (af (aI (bC (tE (ag aO (aa 6) (au "fixed"))) (bC (tE (ag aO (aa 5) (au "one"))) (fun σ=>.ok false σ))) cB (af (aG 7 (aq fY (ae (aa 5) ah))) (af (bR (bf cI bx (aa 3) (ae (aq dK (ae (aa 5) (ae (aa 6) (ae (aq dc (ae (aa 2) (ae (aa 4) (ae (aa 7) ah)))) ah)))) ah))) (af (aG 4 (ag aH (aa 4) (aa 7))) ai)))) ai)) ai)) ai)) ai)) (af (ax (bk (ae (aa 3) (ae (aa 4) ah)))) ai)))
theorem yF:ba 5 98 dQ:=
 go (cC (kX (s:=(nS (dW 98) 0)) (w:=(er (bk (ae (dH ah) (ae (ao 42 (aa 1)) ah))) [4,3])) (rG (names:=["found","end"]) (slR:=[4,3]) (go (bM (kl (jR ar) (kl (ka 42 (kn 1)) ar)))) (.cons (stN rfl) (.cons (stN rfl) .nil)) (fun _=>rfl) (fun _ _ _ _ _ _=>rfl))) (cC (JW [5,6] (WI (kl (ka 3 (kn 0)) (kl (iw L4 (ed zV wX rfl bY) (kn 0)) ar))) (cC (aK (aE aS (kn 6) (ks "reg")) (cC (fL (jC (kn 3) (kl (kg 55 vz (kl (kn 5) (kl (kn 1) ar))) ar))) ak) (cC (aK (aE aS (kn 6) (ks "rm")) (cC (fL (jC (kn 3) (kl (kg 60 w6 (kl (kn 5) (kl (kn 1) ar))) ar))) ak) (cC (aK (aE aS (kn 6) (ks "plus")) fM (cC (aK (ck (aE aS (kn 6) (ks "fixed")) (ck (aE aS (kn 5) (ks "one")) eh)) fM (cC (aU 7 (kg 61 w7 (kl (kn 5) ar))) (cC (fL (jC (kn 3) (kl (kg 63 qf (kl (kn 5) (kl (kn 6) (kl (kg 64 Ap (kl (kn 2) (kl (kn 4) (kl (kn 7) ar)))) ar)))) ar))) (cC (aU 4 (aC aM (kn 4) (kn 7))) ak)))) ak)) ak)) ak)) ak)) (cC (aD (bM (kl (kn 3) (kl (kn 4) ar)))) ak)))
end
noncomputable section
def b7:FS:=av (sp 3 0 5 dQ [])
theorem vA:aL 5 955 b7:=bu (aP 171 3 (ix H0 6) my) yF
def qJ:W2:=(af (aI (bj (tE (bq [(869,dJ)] (aa 1) ah)) (bj (tE (ag fNe (ao 7 (aa 0)) (aj 16))) (fun σ=>.ok true σ))) cB ai) (af (aI (tE (ao 23 (ao 28 (aa 1)))) cB ai) (af (aI (bj (tE (ag fNe (ao 18 (ao 28 (aa 1))) (au ""))) (bj (uX (tE (aF (one rB) (ae (du (cQ (aa 2)) 1 2 [] (fun σ=>.ok true σ) (ag aO (ao 12 (aa 1)) (au "mem"))) ah)))) (fun σ=>.ok true σ))) cB ai) ai)))
theorem Aq:ba 1 99 qJ:=
 go (cC (aK (cf (dq (iw mr (ed gh fA rfl bY) (kn 1))) (cf (aE cP (ka 7 (kn 0)) (ki 16)) eF)) fM ak) (cC (aK (dq (ka 23 (ka 28 (kn 1)))) fM ak) (cC (aK (cf (aE cP (ka 18 (ka 28 (kn 1))) (ks "")) (cf (JU (dq (kb Cm (bJ LA) (kl (mx ⟨.function,[(".0",.local),("operand",.local)],false,false,[]⟩ 1 2 3 [] (by decide +kernel) (fU (kn 2)) uB (cF aS (ka 12 (kn 1)) (ks "mem"))) ar)))) eF)) fM ak) ak)))
def fZ:FS:=av (sp 3 0 0 qJ [])
theorem xb:aL 1 960 fZ:=bu (aP 173 3 (ix H1 4) my) Aq
def iB:W2:=(af (aQ 2 (aa 1) (aa 0)) (af (aQ 19 (aF (one xW) (ae (aa 2) ah)) (aa 0)) (af (aQ 20 (aa 3) (aa 0)) ai)))
theorem o6:ef 0 37 0 iB:=
 go (cC (bE 2 (kn 1) (kn 0)) (cC (bE 19 (kb pQ (bJ GC) (kl (kn 2) ar)) (kn 0)) (cC (bE 20 (kn 3) (kn 0)) ak)))
def gN:FS:=sp 4 0 0 iB []
theorem nj:aL 0 491 gN:=dN (aP 84 4 (ix Hm 6) Fi) o6
def bV:FS:=cL (newSpec 525 gN)
theorem ji:aL 1 525 bV:=(JF.frz (fT yo wm wq nj))
def o7:W2:=(af (aI (tE (ao 23 (ao 28 (aa 1)))) (af (ax (au "lock")) ai) ai) (af (aG 2 (ao 22 (ao 28 (aa 1)))) (af (aI (bC (tE (ag aO (aa 2) (aj 0))) (bC (tE (ag aO (aa 2) (ao 8 (aa 1)))) (fun σ=>.ok false σ))) (af (ax (au "")) ai) ai) (af (aG 3 (eT (tE (ag aO (aa 2) (aj 243))) (au "rep") (au "repne"))) (af cB (af (ax (aa 3)) ai))))))
theorem yG:ba 0 100 o7:=
 go (cC (aK (dq (ka 23 (ka 28 (kn 1)))) (cC (aD (ks "lock")) ak) ak) (cC (aU 2 (ka 22 (ka 28 (kn 1)))) (cC (aK (ck (aE aS (kn 2) (ki 0)) (ck (aE aS (kn 2) (ka 8 (kn 1))) eh)) (cC (aD (ks "")) ak) ak) (cC (aU 3 (iT (aE aS (kn 2) (ki 243)) (ks "rep") (ks "repne"))) (cC Cw (cC (aD (kn 3)) ak))))))
def fC:FS:=av (sp 2 0 2 o7 [])
theorem vB:aL 0 967 fC:=bu (aP 175 2 (ix H3 6) cT) yG
def lD:W2:=(af (aQ 25 (aa 1) (aa 0)) (af (aQ 26 (aa 2) (aa 0)) (af (aQ 27 (aa 3) (aa 0)) (af (aQ 28 (aa 4) (aa 0)) ai))))
theorem uf:ef 0 85 0 lD:=
 go (cC (bE 25 (kn 1) (kn 0)) (cC (bE 26 (kn 2) (kn 0)) (cC (bE 27 (kn 3) (kn 0)) (cC (bE 28 (kn 4) (kn 0)) ak))))
def jE:FS:=sp 5 0 0 lD []
theorem q9:aL 0 803 jE:=dN (aP 135 5 (ix HJ 6) Fj) uf
def j5:FS:=av (newSpec 813 jE)
theorem Ei:aL 1 813 j5:=(JF.pure (fT Ie D2 D3 q9))
def fj:W2:=(af (eo (aq bL (ae (aa 0) (ae (aa 1) (ae (aa 2) ah)))) [aName 3,aName 4]) (af (eo (aq b7 (ae (aa 4) (ae (aa 3) (ae (aa 1) ah)))) [aName 5,aName 6]) (af (aI (tE (ag uj (ag jJ (aa 6) (aa 2)) (aj 15))) cB ai) (af (bR (aq fZ (ae (aa 4) (ae (aa 3) (ae (aa 5) ah))))) (af (aG 7 (aq bV (ae (ao 2 (aa 4)) (ae (aa 5) (ae (aq fC (ae (aa 4) (ae (aa 3) ah))) ah))))) (af (ax (aq j5 (ae (aa 7) (ae (ag jJ (aa 6) (aa 2)) (ae (aa 4) (ae (ao 28 (aa 3)) ah)))))) ai))))))
theorem Ka:ba 7 102 fj:=
 go (cC (kX (s:=(nS (dW 102) 0)) (w:=(eo (aq bL (ae (aa 0) (ae (aa 1) (ae (aa 2) ah)))) [aName 3,aName 4])) (pK (go (kg 47 wW (kl (kn 0) (kl (kn 1) (kl (kn 2) ar))))) (.cons (fun _=>rfl) (fH (stN rfl)) (.cons (fun _=>rfl) (fH (stN rfl)) .nil)) (fun _=>rfl) (fun _ _ _ _ _ _=>rfl))) (cC (kX (s:=(nS (dW 102) 1)) (w:=(eo (aq b7 (ae (aa 4) (ae (aa 3) (ae (aa 1) ah)))) [aName 5,aName 6])) (pK (go (kg 65 vA (kl (kn 4) (kl (kn 3) (kl (kn 1) ar))))) (.cons (fun _=>rfl) (fH (stN rfl)) (.cons (fun _=>rfl) (fH (stN rfl)) .nil)) (fun _=>rfl) (fun _ _ _ _ _ _=>rfl))) (cC (aK (aE EO (aC pD (kn 6) (kn 2)) (gL ym)) fM ak) (cC (fL (kg 66 xb (kl (kn 4) (kl (kn 3) (kl (kn 5) ar))))) (cC (aU 7 (kg 67 ji (kl (ka 2 (kn 4)) (kl (kn 5) (kl (kg 68 vB (kl (kn 4) (kl (kn 3) ar))) ar))))) (cC (aD (kg 69 Ei (kl (kn 7) (kl (aC pD (kn 6) (kn 2)) (kl (kn 4) (kl (ka 28 (kn 3)) ar)))))) ak))))))
def bF:FS:=av (sp 3 0 5 fj [])
theorem uK:aL 7 980 bF:=bu (aP 180 3 (ix H5 6) my) Ka
def c8:W2:=(yj 83 (af (ax (aq bF (ae (aa 0) (ae (aa 1) (ae (aa 2) ah))))) ai))
theorem ug:MV PW KF 8 (sA 103) (dW 103) c8:=
 (M7 Cu (E7 45 rfl) (go (cC (aD (kg 70 uK (kl (kn 0) (kl (kn 1) (kl (kn 2) ar))))) ak)))
theorem rf:de KF 988 (dW 103) (sA 103) ((Loc (sA 103)).take 3) 3 0 []:=aP 183 3 (ix H6 6) my
def cO:FS:=av (sp 3 0 0 c8 [])
theorem rg:aL 8 988 cO:=(JF.pure (Gq (dxs:=[]) rf (fun _ _ _=>VRs.nil) ug))
def qK:W2:=(af (aQ 1 (aa 1) (aa 0)) (af (aQ 43 (aa 2) (aa 0)) (af (aQ 44 (aa 3) (aa 0)) (af (aQ 25 (aa 4) (aa 0)) ai))))
theorem Ar:ef 0 131 0 qK:=
 go (cC (bE 1 (kn 1) (kn 0)) (cC (bE 43 (kn 2) (kn 0)) (cC (bE 44 (kn 3) (kn 0)) (cC (bE 25 (kn 4) (kn 0)) ak))))
def nT:FS:=sp 5 0 0 qK []
theorem xc:aL 0 1142 nT:=dN (aP 223 5 (ix A0 6) Fj) Ar
def n_Row_5:FS:=av (newSpec 1159 nT)
theorem Fo:aL 1 1159 n_Row_5:=(JF.pure (fT RX Pp Pq xc))
def qL:W2:=(af (aG 2 (au "")) (af (aG 3 (aa 0)) (af (dp (bC (tE (ag uj (aa 3) (aj 0))) (bC (tE (ag iG (aF (one bA) (ae (aa 2) ah)) (aa 1))) (fun σ=>.ok false σ))) (af (aG 2 (ag aH (ag az (au "0123456789abcdef") (ag Lq (aa 3) (aj 15))) (aa 2))) (af (aG 3 (ag Lr (aa 3) (aj 4))) ai)) 70) (af (ax (aa 2)) ai))))
theorem As:ba 0 13 qL:=
 go (cC (aU 2 (ks "")) (cC (aU 3 (kn 0)) (cC (R9 70 (ck (aE EO (kn 3) (ki 0)) (ck (aE nu (kb bN (bJ c6) (kl (kn 2) ar)) (kn 1)) eh)) (cC (aU 2 (aC aM (a9 (r6 Ia) (aC P7 (kn 3) (ki 15))) (kn 2))) (cC (aU 3 (aC P8 (kn 3) (ki 4))) ak))) (cC (aD (kn 2)) ak))))
def jj:FS:=av (sp 2 0 2 qL [])
theorem nU:aL 0 134 jj:=bu (aP 24 2 (ix G1 6) cT) As
def uL:W2:=(af (aI (tE (ag iG (aa 0) (aj 0))) (af (ax (ag aH (au "-0x") (aq jj (ae (eC (aa 0)) (ae (aj 1) ah))))) ai) ai) (af (ax (ag aH (au "0x") (aq jj (ae (aa 0) (ae (aj 1) ah))))) ai))
theorem Ej:ba 1 14 uL:=
 go (cC (aK (aE nu (kn 0) (ki 0)) (cC (aD (aC aM (ks "-0x") (kg 73 nU (kl (iS (kn 0)) (kl (ki 1) ar))))) ak) ak) (cC (aD (aC aM (ks "0x") (kg 73 nU (kl (kn 0) (kl (ki 1) ar))))) ak))
def b9:FS:=av (sp 1 0 0 uL [])
theorem cy:aL 1 141 b9:=bu (aP 26 1 (ix G2 6) bZ) Ej
def uM:W2:=(af (aI (tE (ag aO (aa 1) (aj 0))) (af (ax (aa 0)) ai) ai) (af (aI (tE (ag iG (aa 1) (aj 0))) (af (ax (ag aH (ag aH (aa 0) (au " - ")) (aq b9 (ae (eC (aa 1)) ah)))) ai) ai) (af (ax (ag aH (ag aH (aa 0) (au " + ")) (aq b9 (ae (aa 1) ah)))) ai)))
theorem Ek:ba 2 112 uM:=
 go (cC (aK (aE aS (kn 1) (ki 0)) (cC (aD (kn 0)) ak) ak) (cC (aK (aE nu (kn 1) (ki 0)) (cC (aD (aC aM (aC aM (kn 0) (ks " - ")) (kg 74 cy (kl (iS (kn 1)) ar)))) ak) ak) (cC (aD (aC aM (aC aM (kn 0) (ks " + ")) (kg 74 cy (kl (kn 1) ar)))) ak)))
def h9:FS:=av (sp 2 0 0 uM [])
theorem ll:aL 2 1016 h9:=bu (aP 191 2 (ix AJ 6) cT) Ek
def qM:W2:=(af (aI (tE (ag iG (aa 0) (aj 0))) (af (ax (ag aH (au ". - ") (aq b9 (ae (eC (aa 0)) ah)))) ai) ai) (af (ax (ag aH (au ". + ") (aq b9 (ae (aa 0) ah)))) ai))
theorem Au:ba 2 113 qM:=
 go (cC (aK (aE nu (kn 0) (ki 0)) (cC (aD (aC aM (ks ". - ") (kg 74 cy (kl (iS (kn 0)) ar)))) ak) ak) (cC (aD (aC aM (ks ". + ") (kg 74 cy (kl (kn 0) ar)))) ak))
def jk:FS:=av (sp 1 0 0 qM [])
theorem nV:aL 2 1023 jk:=bu (aP 193 1 (ix AK 6) bZ) Au
def sG:W2:=(af (aI (tE (ag aO (aa 0) (aj 8))) (af (ax (au "byte")) ai) ai) (af (aI (tE (ag aO (aa 0) (aj 16))) (af (ax (au "word")) ai) ai) (af (aI (tE (ag aO (aa 0) (aj 32))) (af (ax (au "dword")) ai) ai) (af (aI (tE (ag aO (aa 0) (aj 64))) (af (ax (au "qword")) ai) ai) (af (aI (tE (ag aO (aa 0) (aj 128))) (af (ax (au "xmmword")) ai) ai) (af (ax (au "")) ai))))))
theorem CK:ba 0 110 sG:=
 go (cC (aK (aE aS (kn 0) (ki 8)) (cC (aD (ks "byte")) ak) ak) (cC (aK (aE aS (kn 0) (ki 16)) (cC (aD (ks "word")) ak) ak) (cC (aK (aE aS (kn 0) (ki 32)) (cC (aD (ks "dword")) ak) ak) (cC (aK (aE aS (kn 0) (ki 64)) (cC (aD (ks "qword")) ak) ak) (cC (aK (aE aS (kn 0) (ki 128)) (cC (aD (ks "xmmword")) ak) ak) (cC (aD (ks "")) ak))))))
def o8:FS:=av (sp 1 0 0 sG [])
theorem yH:aL 0 1002 o8:=bu (aP 187 1 (ix AH 6) bZ) CK
def nW:W2:=(af (aG 1 (dH ah)) (af (aI (tE (ag gw (ao 15 (aa 0)) bS)) (af (bR (bf cI bx (aa 1) (ae (ao 2 (ao 15 (aa 0))) ah))) ai) ai) (af (aI (tE (ag gw (ao 16 (aa 0)) bS)) (af (bR (bf cI bx (aa 1) (ae (ag aH (ag aH (ao 2 (ao 16 (aa 0))) (au "*")) (aF (one BJ) (ae (ao 17 (aa 0)) ah))) ah))) ai) ai) (af (aI (tE (ag fNe (ao 2 (aa 0)) (au ""))) (af (bR (bf cI bx (aa 1) (ae (ao 2 (aa 0)) ah))) ai) ai) (af (aI (tE (ag aO (aF (one bA) (ae (aa 1) ah)) (aj 0))) (af (aG 2 (aq b9 (ae (ao 14 (aa 0)) ah))) ai) (af (aG 2 (aq h9 (ae (bf fm lI (au " + ") (ae (aa 1) ah)) (ae (ao 14 (aa 0)) ah)))) (af (aI (bj (tE (ag aO (ao 14 (aa 0)) (aj 0))) (bj (tE (ag aO (ao 2 (aa 0)) (au ""))) (bj (tE (ag gw (ao 15 (aa 0)) bS)) (bj (tE (ag aO (ao 12 (ao 15 (aa 0))) (au "rip"))) (fun σ=>.ok true σ))))) (af (aG 2 (ag aH (aa 2) (au " + 0x0"))) ai) ai) ai))) (af (aG 3 (ag aH (ag aH (au "[") (aa 2)) (au "]"))) (af (aI (tE (ag fNe (ao 18 (aa 0)) (au ""))) (af (aG 3 (ag aH (ag aH (ao 18 (aa 0)) (au ":")) (aa 3))) ai) ai) (af (aG 4 (aq o8 (ae (ao 7 (aa 0)) ah))) (af (aI (tE (ag fNe (aa 4) (au ""))) (af (aG 3 (ag aH (ag aH (aa 4) (au " ptr ")) (aa 3))) ai) ai) (af (ax (aa 3)) ai))))))))))
theorem xd:ba 3 126 nW:=
 go (cC (aU 1 (jR ar)) (cC (aK (aE nv (ka 15 (kn 0)) gi) (cC (fL (jC (kn 1) (kl (ka 2 (ka 15 (kn 0))) ar))) ak) ak) (cC (aK (aE nv (ka 16 (kn 0)) gi) (cC (fL (jC (kn 1) (kl (aC aM (aC aM (ka 2 (ka 16 (kn 0))) (ks "*")) (kb Co (bJ Lz) (kl (ka 17 (kn 0)) ar))) ar))) ak) ak) (cC (aK (aE cP (ka 2 (kn 0)) (ks "")) (cC (fL (jC (kn 1) (kl (ka 2 (kn 0)) ar))) ak) ak) (cC (aK (aE aS (kb bN (bJ c6) (kl (kn 1) ar)) (ki 0)) (cC (aU 2 (kg 74 cy (kl (ka 14 (kn 0)) ar))) ak) (cC (aU 2 (kg 75 ll (kl (Fh ei fJ E5 rfl MX (ks " + ") (kl (kn 1) ar)) (kl (ka 14 (kn 0)) ar)))) (cC (aK (cf (aE aS (ka 14 (kn 0)) (ki 0)) (cf (aE aS (ka 2 (kn 0)) (ks "")) (cf (aE nv (ka 15 (kn 0)) gi) (cf (aE aS (ka 12 (ka 15 (kn 0))) (ks "rip")) eF)))) (cC (aU 2 (aC aM (kn 2) (ks " + 0x0"))) ak) ak) ak))) (cC (aU 3 (aC aM (aC aM (ks "[") (kn 2)) (ks "]"))) (cC (aK (aE cP (ka 18 (kn 0)) (ks "")) (cC (aU 3 (aC aM (aC aM (ka 18 (kn 0)) (ks ":")) (kn 3))) ak) ak) (cC (aU 4 (kg 77 yH (kl (ka 7 (kn 0)) ar))) (cC (aK (aE cP (kn 4) (ks "")) (cC (aU 3 (aC aM (aC aM (kn 4) (ks " ptr ")) (kn 3))) ak) ak) (cC (aD (kn 3)) ak))))))))))
def lE:FS:=av (sp 1 0 4 nW [])
theorem uh:aL 3 1114 lE:=bu (aP 217 1 (ix AX 6) bZ) xd
def mV:W2:=(af (aI (tE (ag aO (ao 12 (aa 0)) (au "reg"))) (af (ax (ao 2 (ao 13 (aa 0)))) ai) ai) (af (aI (tE (ag aO (ao 12 (aa 0)) (au "imm"))) (af (aI (tE (ag fNe (ao 2 (aa 0)) (au ""))) (af (ax (ag aH (au "offset ") (aq h9 (ae (ao 2 (aa 0)) (ae (ao 14 (aa 0)) ah))))) ai) ai) (af (ax (aq b9 (ae (ao 14 (aa 0)) ah))) ai)) ai) (af (aI (tE (ag aO (ao 12 (aa 0)) (au "rel"))) (af (aI (tE (ag fNe (ao 2 (aa 0)) (au ""))) (af (ax (aq h9 (ae (ao 2 (aa 0)) (ae (ao 14 (aa 0)) ah)))) ai) ai) (af (ax (aq jk (ae (ao 14 (aa 0)) ah))) ai)) ai) (af (ax (aq lE (ae (aa 0) ah))) ai))))
theorem vC:ba 4 127 mV:=
 go (cC (aK (aE aS (ka 12 (kn 0)) (ks "reg")) (cC (aD (ka 2 (ka 13 (kn 0)))) ak) ak) (cC (aK (aE aS (ka 12 (kn 0)) (ks "imm")) (cC (aK (aE cP (ka 2 (kn 0)) (ks "")) (cC (aD (aC aM (ks "offset ") (kg 75 ll (kl (ka 2 (kn 0)) (kl (ka 14 (kn 0)) ar))))) ak) ak) (cC (aD (kg 74 cy (kl (ka 14 (kn 0)) ar))) ak)) ak) (cC (aK (aE aS (ka 12 (kn 0)) (ks "rel")) (cC (aK (aE cP (ka 2 (kn 0)) (ks "")) (cC (aD (kg 75 ll (kl (ka 2 (kn 0)) (kl (ka 14 (kn 0)) ar)))) ak) ak) (cC (aD (kg 76 nV (kl (ka 14 (kn 0)) ar))) ak)) ak) (cC (aD (kg 78 uh (kl (kn 0) ar))) ak))))
def cw:FS:=av (sp 1 0 0 mV [])
theorem sH:aL 4 1121 cw:=bu (aP 219 1 (ix AY 6) bZ) vC
def gD:W2:=(af (aG 4 (aa 1)) (af (aI (tE (ag fNe (ao 20 (aa 0)) (au ""))) (af (aG 4 (ag aH (ag aH (ao 20 (aa 0)) (au " ")) (aa 1))) ai) ai) (af (aI (tE (ag aO (aF (one bA) (ae (aa 2) ah)) (aj 0))) (af (ax (aa 4)) ai) ai) (af (ax (ag aH (ag aH (aa 4) (au " ")) (bf fm lI (aa 3) (ae (aa 2) ah)))) ai))))
theorem yI:ba 0 122 gD:=
 go (cC (aU 4 (kn 1)) (cC (aK (aE cP (ka 20 (kn 0)) (ks "")) (cC (aU 4 (aC aM (aC aM (ka 20 (kn 0)) (ks " ")) (kn 1))) ak) ak) (cC (aK (aE aS (kb bN (bJ c6) (kl (kn 2) ar)) (ki 0)) (cC (aD (kn 4)) ak) ak) (cC (aD (aC aM (aC aM (kn 4) (ks " ")) (Fh ei fJ E5 rfl MX (kn 3) (kl (kn 2) ar)))) ak))))
def bQ:FS:=sp 4 0 1 gD []
theorem mW:aL 0 1086 bQ:=dN (aP 209 4 (ix AS 6) Fi) yI
def dS:W2:=(af (aG 1 (dH ah)) (af (cZ (dr (cQ (ao 19 (aa 0)))) [2] (af (bR (bf cI bx (aa 1) (ae (aq cw (ae (aa 2) ah)) ah))) ai)) (af (ax (aq bQ (ae (aa 0) (ae (ao 2 (aa 0)) (ae (aa 1) (ae (au ", ") ah)))))) ai)))
theorem yJ:ba 5 128 dS:=
 go (cC (aU 1 (jR ar)) (cC (lu 2 (fi (fU (ka 19 (kn 0)))) (cC (fL (jC (kn 1) (kl (kg 79 sH (kl (kn 2) ar)) ar))) ak)) (cC (aD (kg 80 mW (kl (kn 0) (kl (ka 2 (kn 0)) (kl (kn 1) (kl (ks ", ") ar)))))) ak)))
def s_fwrite_intel_1:FS:=av (sp 1 0 2 dS [])
theorem mX:aL 5 1128 s_fwrite_intel_1:=bu (aP 221 1 (ix AZ 6) bZ) yJ
def jF:W2:=(af (aI (bC (tE (ag fNe (ao 2 (aa 0)) (au "mov"))) (bC (tE (ag fNe (aF (one bA) (ae (ao 19 (aa 0)) ah)) (aj 2))) (fun σ=>.ok false σ))) (af (ax (cb false)) ai) ai) (af (aG 1 (ag az (ao 19 (aa 0)) (aj 0))) (af (aG 2 (ag az (ao 19 (aa 0)) (aj 1))) (af cB (af cB ai)))))
theorem rh:ba 0 120 jF:=
 go (cC (aK (ck (aE cP (ka 2 (kn 0)) (ks "mov")) (ck (aE cP (kb bN (bJ c6) (kl (ka 19 (kn 0)) ar)) (ki 2)) eh)) (cC (aD (iR false)) ak) ak) (cC (aU 1 (a9 (ka 19 (kn 0)) (ki 0))) (cC (aU 2 (a9 (ka 19 (kn 0)) (ki 1))) (cC Cw (cC Cw ak)))))
def iC:FS:=av (sp 1 0 2 jF [])
theorem o9:aL 0 1072 iC:=bu (aP 205 1 (ix AQ 6) bZ) rh
def uN:W2:=(af (aG 1 (ao 2 (aa 0))) (af (aI (tE (ag aO (aF (one bA) (ae (ao 19 (aa 0)) ah)) (aj 0))) (af (aG 2 (bf fm gf (au "cbw cwde cdqe cwd cdq cqo movsd cmpsd stosd lodsd scasd") ah)) (af (aG 3 (bf fm gf (au "cbtw cwtl cltq cwtd cltd cqto movsl cmpsl stosl lodsl scasl") ah)) (af (cZ (dr (eV (ae (aF (one bA) (ae (aa 2) ah)) ah))) [4] (af (aI (tE (ag aO (ag az (aa 2) (aa 4)) (aa 1))) (af (ax (ag az (aa 3) (aa 4))) ai) ai) ai)) (af (ax (aa 1)) ai)))) ai) (af (aI (bj (tE (ag aO (aF (one bA) (ae (ao 19 (aa 0)) ah)) (aj 2))) (bj (bC (tE (ag aO (aa 1) (au "movzx"))) (bC (tE (ag aO (aa 1) (au "movsx"))) (bC (tE (ag aO (aa 1) (au "movsxd"))) (fun σ=>.ok false σ)))) (fun σ=>.ok true σ))) cB ai) (af (aI (tE (aq iC (ae (aa 0) ah))) (af (ax (au "movabs")) ai) ai) (af (ax (aa 1)) ai)))))
theorem El:ba 1 121 uN:=
 go (cC (aU 1 (ka 2 (kn 0))) (cC (aK (aE aS (kb bN (bJ c6) (kl (ka 19 (kn 0)) ar)) (ki 0)) (cC (aU 2 (r9 ei fJ fw rfl iJ (r6 yn))) (cC (aU 3 (r9 ei fJ fw rfl iJ (r6 Ci))) (cC (lu 4 (fi (r8 (kl (kb bN (bJ c6) (kl (kn 2) ar)) ar))) (cC (aK (aE aS (a9 (kn 2) (kn 4)) (kn 1)) (cC (aD (a9 (kn 3) (kn 4))) ak) ak) ak)) (cC (aD (kn 1)) ak)))) ak) (cC (aK (cf (aE aS (kb bN (bJ c6) (kl (ka 19 (kn 0)) ar)) (ki 2)) (cf (ck (aE aS (kn 1) (ks "movzx")) (ck (aE aS (kn 1) (ks "movsx")) (ck (aE aS (kn 1) (ks "movsxd")) eh))) eF)) fM ak) (cC (aK (dq (kg 82 o9 (kl (kn 0) ar))) (cC (aD (ks "movabs")) ak) ak) (cC (aD (kn 1)) ak)))))
def s_fatt_name_1:FS:=av (sp 1 0 4 uN [])
theorem Av:aL 1 1079 s_fatt_name_1:=bu (aP 207 1 (ix AR 6) bZ) El
def uO:W2:=(af (aI (tE (ag (eK true) (ao 2 (aa 0)) (bf fm gf (au "rol ror rcl rcr shl shr sar shld shrd") ah))) (af (ax (cb false)) ai) ai) (af (aI (tE (ag fNe (aa 1) (ag jJ (aF (one bA) (ae (ao 19 (aa 0)) ah)) (aj 1)))) (af (ax (cb false)) ai) ai) (af (aG 2 (ag az (ao 19 (aa 0)) (aa 1))) (af (ax (rn (ag aO (ao 12 (aa 2)) (au "reg")) (ag aO (ao 2 (ao 13 (aa 2))) (au "cl")))) ai))))
theorem Em:ba 0 115 uO:=
 go (cC (aK (aE rN (ka 2 (kn 0)) (r9 ei fJ fw rfl iJ (r6 yl))) (cC (aD (iR false)) ak) ak) (cC (aK (aE cP (kn 1) (aC pD (kb bN (bJ c6) (kl (ka 19 (kn 0)) ar)) (ki 1))) (cC (aD (iR false)) ak) ak) (cC (aU 2 (a9 (ka 19 (kn 0)) (kn 1))) (cC (aD (yp (cF aS (ka 12 (kn 2)) (ks "reg")) (wA .And (cF aS (ka 2 (ka 13 (kn 2))) (ks "cl"))))) ak))))
def qN:FS:=av (sp 2 0 1 uO [])
theorem Aw:aL 0 1037 qN:=bu (aP 197 2 (ix AM 6) cT) Em
def qO:W2:=(af (ax (rn (ag aO (ao 12 (aa 0)) (au "reg")) (y1 (ag aO (ao 12 (ao 13 (aa 0))) (au "gpr")) (ag aO (ao 12 (ao 13 (aa 0))) (au "high"))))) ai)
theorem Ax:ba 0 114 qO:=
 go (cC (aD (yp (cF aS (ka 12 (kn 0)) (ks "reg")) (wA .And (Fg (cF aS (ka 12 (ka 13 (kn 0))) (ks "gpr")) (wA .Or (cF aS (ka 12 (ka 13 (kn 0))) (ks "high"))))))) ak)
def nX:FS:=av (sp 1 0 0 qO [])
theorem xe:aL 0 1030 nX:=bu (aP 195 1 (ix AL 6) bZ) Ax
def pb:W2:=(af (aI (tE (ag aO (aa 0) (aj 8))) (af (ax (au "b")) ai) ai) (af (aI (tE (ag aO (aa 0) (aj 16))) (af (ax (au "w")) ai) ai) (af (aI (tE (ag aO (aa 0) (aj 32))) (af (ax (au "l")) ai) ai) (af (aI (tE (ag aO (aa 0) (aj 64))) (af (ax (au "q")) ai) ai) (af (ax (au "")) ai)))))
theorem yK:ba 0 109 pb:=
 go (cC (aK (aE aS (kn 0) (ki 8)) (cC (aD (ks "b")) ak) ak) (cC (aK (aE aS (kn 0) (ki 16)) (cC (aD (ks "w")) ak) ak) (cC (aK (aE aS (kn 0) (ki 32)) (cC (aD (ks "l")) ak) ak) (cC (aK (aE aS (kn 0) (ki 64)) (cC (aD (ks "q")) ak) ak) (cC (aD (ks "")) ak)))))
def mY:FS:=av (sp 1 0 0 pb [])
theorem vD:aL 0 995 mY:=bu (aP 185 1 (ix H7 6) bZ) yK
def sI:W2:=(af (aG 1 (aj 0)) (af (aG 2 (cb false)) (af (cZ (dr (cQ (ao 19 (aa 0)))) [3] (af (aI (tE (ag aO (ao 12 (aa 3)) (au "mem"))) (af (aG 1 (ao 7 (aa 3))) ai) (af (aI (bj (tE (ag aO (ao 12 (aa 3)) (au "reg"))) (bj (tE (ag aO (ao 12 (ao 13 (aa 3))) (au "xmm"))) (fun σ=>.ok true σ))) (af (ax (au "")) ai) ai) ai)) ai)) (af (aI (bC (tE (ag aO (ao 2 (aa 0)) (au "movzx"))) (bC (tE (ag aO (ao 2 (aa 0)) (au "movsx"))) (bC (tE (ag aO (ao 2 (aa 0)) (au "movsxd"))) (fun σ=>.ok false σ)))) (af (ax (au "")) ai) ai) (af (cZ (dr (eV (ae (aF (one bA) (ae (ao 19 (aa 0)) ah)) ah))) [4] (af (aG 3 (ag az (ao 19 (aa 0)) (aa 4))) (af (aI (bj (tE (aq nX (ae (aa 3) ah))) (bj (uX (tE (aq qN (ae (aa 0) (ae (aa 4) ah))))) (bj (tE (ag aO (ao 7 (ao 13 (aa 3))) (aa 1))) (fun σ=>.ok true σ)))) (af (aG 2 (cb true)) ai) ai) ai))) (af (aI (tE (aa 2)) (af (ax (au "")) ai) ai) (af (ax (aq mY (ae (aa 1) ah))) ai)))))))
theorem CL:ba 1 118 sI:=
 go (cC (aU 1 (ki 0)) (cC (aU 2 (iR false)) (cC (lu 3 (fi (fU (ka 19 (kn 0)))) (cC (aK (aE aS (ka 12 (kn 3)) (ks "mem")) (cC (aU 1 (ka 7 (kn 3))) ak) (cC (aK (cf (aE aS (ka 12 (kn 3)) (ks "reg")) (cf (aE aS (ka 12 (ka 13 (kn 3))) (ks "xmm")) eF)) (cC (aD (ks "")) ak) ak) ak)) ak)) (cC (aK (ck (aE aS (ka 2 (kn 0)) (ks "movzx")) (ck (aE aS (ka 2 (kn 0)) (ks "movsx")) (ck (aE aS (ka 2 (kn 0)) (ks "movsxd")) eh))) (cC (aD (ks "")) ak) ak) (cC (lu 4 (fi (r8 (kl (kb bN (bJ c6) (kl (ka 19 (kn 0)) ar)) ar))) (cC (aU 3 (a9 (ka 19 (kn 0)) (kn 4))) (cC (aK (cf (dq (kg 85 xe (kl (kn 3) ar))) (cf (JU (dq (kg 84 Aw (kl (kn 0) (kl (kn 4) ar))))) (cf (aE aS (ka 7 (ka 13 (kn 3))) (kn 1)) eF))) (cC (aU 2 (iR true)) ak) ak) ak))) (cC (aK (dq (kn 2)) (cC (aD (ks "")) ak) ak) (cC (aD (kg 86 vD (kl (kn 1) ar))) ak)))))))
def s_fsuffix_of_1:FS:=av (sp 1 0 4 sI [])
theorem yL:aL 1 1058 s_fsuffix_of_1:=bu (aP 203 1 (ix AP 6) bZ) CL
def sJ:W2:=(af (aI (tE (ag aO (aa 1) (aj 0))) (af (ax (aa 0)) ai) ai) (af (aI (tE (ag iG (aa 1) (aj 0))) (af (ax (ag aH (aa 0) (aq b9 (ae (aa 1) ah)))) ai) ai) (af (ax (ag aH (ag aH (aa 0) (au "+")) (aq b9 (ae (aa 1) ah)))) ai)))
theorem CM:ba 2 111 sJ:=
 go (cC (aK (aE aS (kn 1) (ki 0)) (cC (aD (kn 0)) ak) ak) (cC (aK (aE nu (kn 1) (ki 0)) (cC (aD (aC aM (kn 0) (kg 74 cy (kl (kn 1) ar)))) ak) ak) (cC (aD (aC aM (aC aM (kn 0) (ks "+")) (kg 74 cy (kl (kn 1) ar)))) ak)))
def gE:FS:=av (sp 2 0 0 sJ [])
theorem jT:aL 2 1009 gE:=bu (aP 189 2 (ix AI 6) cT) CM
def qP:W2:=(af (aG 1 (au "")) (af (aI (tE (ag fNe (ao 18 (aa 0)) (au ""))) (af (aG 1 (ag aH (ag aH (au "%") (ao 18 (aa 0))) (au ":"))) ai) ai) (af (aI (tE (ag fNe (ao 2 (aa 0)) (au ""))) (af (aG 1 (ag aH (aa 1) (aq gE (ae (ao 2 (aa 0)) (ae (ao 14 (aa 0)) ah))))) ai) (af (aI (bC (tE (ag fNe (ao 14 (aa 0)) (aj 0))) (bC (tE (ag fk (ao 15 (aa 0)) bS)) (bC (tE (ag aO (ao 12 (ao 15 (aa 0))) (au "rip"))) (fun σ=>.ok false σ)))) (af (aG 1 (ag aH (aa 1) (aq b9 (ae (ao 14 (aa 0)) ah)))) ai) ai) ai)) (af (aG 2 (au "")) (af (aI (tE (ag gw (ao 15 (aa 0)) bS)) (af (aG 2 (ag aH (au "%") (ao 2 (ao 15 (aa 0))))) ai) ai) (af (aI (tE (ag gw (ao 16 (aa 0)) bS)) (af (ax (ag aH (ag aH (ag aH (ag aH (ag aH (ag aH (ag aH (aa 1) (au "(")) (aa 2)) (au ",%")) (ao 2 (ao 16 (aa 0)))) (au ",")) (aF (one BJ) (ae (ao 17 (aa 0)) ah))) (au ")"))) ai) ai) (af (aI (tE (ag fNe (aa 2) (au ""))) (af (ax (ag aH (ag aH (ag aH (aa 1) (au "(")) (aa 2)) (au ")"))) ai) ai) (af (ax (aa 1)) ai))))))))
theorem Ay:ba 3 116 qP:=
 go (cC (aU 1 (ks "")) (cC (aK (aE cP (ka 18 (kn 0)) (ks "")) (cC (aU 1 (aC aM (aC aM (ks "%") (ka 18 (kn 0))) (ks ":"))) ak) ak) (cC (aK (aE cP (ka 2 (kn 0)) (ks "")) (cC (aU 1 (aC aM (kn 1) (kg 88 jT (kl (ka 2 (kn 0)) (kl (ka 14 (kn 0)) ar))))) ak) (cC (aK (ck (aE cP (ka 14 (kn 0)) (ki 0)) (ck (aE uW (ka 15 (kn 0)) gi) (ck (aE aS (ka 12 (ka 15 (kn 0))) (ks "rip")) eh))) (cC (aU 1 (aC aM (kn 1) (kg 74 cy (kl (ka 14 (kn 0)) ar)))) ak) ak) ak)) (cC (aU 2 (ks "")) (cC (aK (aE nv (ka 15 (kn 0)) gi) (cC (aU 2 (aC aM (ks "%") (ka 2 (ka 15 (kn 0))))) ak) ak) (cC (aK (aE nv (ka 16 (kn 0)) gi) (cC (aD (aC aM (aC aM (aC aM (aC aM (aC aM (aC aM (aC aM (kn 1) (ks "(")) (kn 2)) (ks ",%")) (ka 2 (ka 16 (kn 0)))) (ks ",")) (kb Co (bJ Lz) (kl (ka 17 (kn 0)) ar))) (ks ")"))) ak) ak) (cC (aK (aE cP (kn 2) (ks "")) (cC (aD (aC aM (aC aM (aC aM (kn 1) (ks "(")) (kn 2)) (ks ")"))) ak) ak) (cC (aD (kn 1)) ak))))))))
def nY:FS:=av (sp 1 0 2 qP [])
theorem xf:aL 3 1044 nY:=bu (aP 199 1 (ix AN 6) bZ) Ay
def pd:W2:=(af (aI (tE (ag aO (ao 12 (aa 0)) (au "reg"))) (af (ax (ag aH (au "%") (ao 2 (ao 13 (aa 0))))) ai) ai) (af (aI (tE (ag aO (ao 12 (aa 0)) (au "imm"))) (af (aI (tE (ag fNe (ao 2 (aa 0)) (au ""))) (af (ax (ag aH (au "$") (aq gE (ae (ao 2 (aa 0)) (ae (ao 14 (aa 0)) ah))))) ai) ai) (af (ax (ag aH (au "$") (aq b9 (ae (ao 14 (aa 0)) ah)))) ai)) ai) (af (aI (tE (ag aO (ao 12 (aa 0)) (au "rel"))) (af (aI (tE (ag fNe (ao 2 (aa 0)) (au ""))) (af (ax (aq gE (ae (ao 2 (aa 0)) (ae (ao 14 (aa 0)) ah)))) ai) ai) (af (ax (aq jk (ae (ao 14 (aa 0)) ah))) ai)) ai) (af (ax (aq nY (ae (aa 0) ah))) ai))))
theorem yM:ba 4 117 pd:=
 go (cC (aK (aE aS (ka 12 (kn 0)) (ks "reg")) (cC (aD (aC aM (ks "%") (ka 2 (ka 13 (kn 0))))) ak) ak) (cC (aK (aE aS (ka 12 (kn 0)) (ks "imm")) (cC (aK (aE cP (ka 2 (kn 0)) (ks "")) (cC (aD (aC aM (ks "$") (kg 88 jT (kl (ka 2 (kn 0)) (kl (ka 14 (kn 0)) ar))))) ak) ak) (cC (aD (aC aM (ks "$") (kg 74 cy (kl (ka 14 (kn 0)) ar)))) ak)) ak) (cC (aK (aE aS (ka 12 (kn 0)) (ks "rel")) (cC (aK (aE cP (ka 2 (kn 0)) (ks "")) (cC (aD (kg 88 jT (kl (ka 2 (kn 0)) (kl (ka 14 (kn 0)) ar)))) ak) ak) (cC (aD (kg 76 nV (kl (ka 14 (kn 0)) ar))) ak)) ak) (cC (aD (kg 89 xf (kl (kn 0) ar))) ak))))
def cS:FS:=av (sp 1 0 0 pd [])
theorem vE:aL 4 1051 cS:=bu (aP 201 1 (ix AO 6) bZ) yM
def sL:W2:=(af (aI (bC (tE (ag (eK true) (ao 2 (aa 0)) (bf fm gf (au "jmp call") ah))) (bC (tE (ag fNe (aF (one bA) (ae (ao 19 (aa 0)) ah)) (aj 1))) (fun σ=>.ok false σ))) (af (ax (cb false)) ai) ai) (af (ax (ag fNe (ao 12 (ag az (ao 19 (aa 0)) (aj 0))) (au "rel"))) ai))
theorem CN:ba 0 123 sL:=
 go (cC (aK (ck (aE rN (ka 2 (kn 0)) (r9 ei fJ fw rfl iJ (r6 wj))) (ck (aE cP (kb bN (bJ c6) (kl (ka 19 (kn 0)) ar)) (ki 1)) eh)) (cC (aD (iR false)) ak) ak) (cC (aD (cF cP (ka 12 (a9 (ka 19 (kn 0)) (ki 0))) (ks "rel"))) ak))
def s_fis_target_1:FS:=av (sp 1 0 0 sL [])
theorem yN:aL 0 1093 s_fis_target_1:=bu (aP 211 1 (ix AU 6) bZ) CN
def e9:W2:=(af (aG 1 (dH ah)) (af (cZ (dr (eV (ae (ag jJ (aF (one bA) (ae (ao 19 (aa 0)) ah)) (aj 1)) (ae (eC (aj 1)) (ae (eC (aj 1)) ah))))) [2] (af (aG 3 (aq cS (ae (ag az (ao 19 (aa 0)) (aa 2)) ah))) (af (aI (tE (aq s_fis_target_1 (ae (aa 0) ah))) (af (aG 3 (ag aH (au "*") (aa 3))) ai) ai) (af (bR (bf cI bx (aa 1) (ae (aa 3) ah))) ai)))) (af (ax (aa 1)) ai)))
theorem CO:ba 5 124 e9:=
 go (cC (aU 1 (jR ar)) (cC (lu 2 (fi (r8 (kl (aC pD (kb bN (bJ c6) (kl (ka 19 (kn 0)) ar)) (ki 1)) (kl (iS (ki 1)) (kl (iS (ki 1)) ar))))) (cC (aU 3 (kg 90 vE (kl (a9 (ka 19 (kn 0)) (kn 2)) ar))) (cC (aK (dq (kg 91 yN (kl (kn 0) ar))) (cC (aU 3 (aC aM (ks "*") (kn 3))) ak) ak) (cC (fL (jC (kn 1) (kl (kn 3) ar))) ak)))) (cC (aD (kn 1)) ak)))
def dj:FS:=av (sp 1 0 3 e9 [])
theorem yO:aL 5 1100 dj:=bu (aP 213 1 (ix AV 6) bZ) CO
def jm:W2:=(af (aG 1 (ag aH (aq s_fatt_name_1 (ae (aa 0) ah)) (aq s_fsuffix_of_1 (ae (aa 0) ah)))) (af (ax (aq bQ (ae (aa 0) (ae (aa 1) (ae (aq dj (ae (aa 0) ah)) (ae (au ",") ah)))))) ai))
theorem CP:ba 6 125 jm:=
 go (cC (aU 1 (aC aM (kg 83 Av (kl (kn 0) ar)) (kg 87 yL (kl (kn 0) ar)))) (cC (aD (kg 80 mW (kl (kn 0) (kl (kn 1) (kl (kg 92 yO (kl (kn 0) ar)) (kl (ks ",") ar)))))) ak))
def s_fwrite_att_1:FS:=av (sp 1 0 1 jm [])
theorem pe:aL 6 1107 s_fwrite_att_1:=bu (aP 215 1 (ix AW 6) bZ) CP
def gF:W2:=(af (ax (eT (tE (ag aO (aa 1) (au "intel"))) (aq s_fwrite_intel_1 (ae (aa 0) ah)) (aq s_fwrite_att_1 (ae (aa 0) ah)))) ai)
theorem Im:ba 7 132 gF:=
 go (cC (aD (iT (aE aS (kn 1) (ks "intel")) (kg 81 mX (kl (kn 0) ar)) (kg 93 pe (kl (kn 0) ar)))) ak)
def d5:FS:=av (sp 2 0 0 gF [])
theorem CQ:aL 7 1170 d5:=bu (aP 231 2 (ix A3 6) cT) Im
def nZ:FS:=sp 3 0 0 lj []
theorem xg:aL 1 397 nZ:=dN (aP 68 3 (ix B8 6) my) qI
def tK:FS:=av (newSpec 421 nZ)
theorem Fp:aL 2 421 tK:=(JF.pure (fT JQ Fc Fd xg))
def qQ:W2:=(af (ax (rn (ag gw (ao 15 (aa 0)) bS) (ag aO (ao 12 (ao 15 (aa 0))) (au "rip")))) ai)
theorem Az:ef 0 36 4 qQ:=
 go (cC (aD (yp (cF nv (ka 15 (kn 0)) gi) (wA .And (cF aS (ka 12 (ka 15 (kn 0))) (ks "rip"))))) ak)
def dz:FS:=av (sp 1 0 0 qQ [])
theorem xh:aL 0 464 dz:=bu (aP 79 1 (ix Hl 6) bZ) Az
def n5:FS:=sp 8 0 0 lh []
theorem xi:aL 1 438 n5:=dN (aP 75 8 (ix B9 6) WN) qE
def tL:FS:=av (newSpec 474 n5)
theorem Fq:aL 2 474 tL:=(JF.pure (fT JO E9 Fb xi))
def bl:W2:=(af (aI (bj (tE (ag aO (ao 12 (aa 0)) (au "rel"))) (bj (tE (ag aO (ao 2 (aa 0)) (au ""))) (bj (tE (ag (eK false) (ag aH (aa 1) (ao 14 (aa 0))) (aa 2))) (fun σ=>.ok true σ)))) (af (ax (aq tK (ae (aj 0) (ae (ag az (aa 2) (ag aH (aa 1) (ao 14 (aa 0)))) ah)))) ai) ai) (af (aI (bj (tE (ag aO (ao 12 (aa 0)) (au "mem"))) (bj (tE (bq [(474,dz)] (aa 0) ah)) (bj (tE (ag aO (ao 2 (aa 0)) (au ""))) (bj (tE (ag (eK false) (ag aH (aa 1) (ao 14 (aa 0))) (aa 2))) (fun σ=>.ok true σ))))) (af (aG 3 (ag az (aa 2) (ag aH (aa 1) (ao 14 (aa 0))))) (af (ax (aq tL (ae (ao 15 (aa 0)) (ae bS (ae (aj 1) (ae (aj 0) (ae (ao 7 (aa 0)) (ae (ao 18 (aa 0)) (ae (aa 3) ah))))))))) ai)) ai) (af (ax (aa 0)) ai)))
theorem vF:ba 3 134 bl:=
 go (cC (aK (cf (aE aS (ka 12 (kn 0)) (ks "rel")) (cf (aE aS (ka 2 (kn 0)) (ks "")) (cf (aE uo (aC aM (kn 1) (ka 14 (kn 0))) (kn 2)) eF))) (cC (aD (kg 62 Fp (kl (ki 0) (kl (a9 (kn 2) (aC aM (kn 1) (ka 14 (kn 0)))) ar)))) ak) ak) (cC (aK (cf (aE aS (ka 12 (kn 0)) (ks "mem")) (cf (dq (iw JK (ed zW xh rfl bY) (kn 0))) (cf (aE aS (ka 2 (kn 0)) (ks "")) (cf (aE uo (aC aM (kn 1) (ka 14 (kn 0))) (kn 2)) eF)))) (cC (aU 3 (a9 (kn 2) (aC aM (kn 1) (ka 14 (kn 0))))) (cC (aD (kg 56 Fq (kl (ka 15 (kn 0)) (kl gi (kl (ki 1) (kl (ki 0) (kl (ka 7 (kn 0)) (kl (ka 18 (kn 0)) (kl (kn 3) ar))))))))) ak)) ak) (cC (aD (kn 0)) ak)))
def bg:FS:=av (sp 3 0 1 bl [])
theorem sN:aL 3 1184 bg:=bu (aP 235 3 (ix A5 6) my) vF
def gO:W2:=(af (aG 3 (aF (one GD) (ae (ao 19 (aa 0)) ah))) (af (fu (aa 2) (aa 3) (aa 1)) (af (ax (aq bV (ae (ao 2 (aa 0)) (ae (aa 3) (ae (ao 20 (aa 0)) ah))))) ai)))
theorem nk:ef 2 37 5 gO:=
 go (cC (aU 3 (kb tH (bJ Vn) (kl (ka 19 (kn 0)) ar))) (cC (zx (kn 2) (kn 3) (kn 1)) (cC (aD (kg 67 ji (kl (ka 2 (kn 0)) (kl (kn 3) (kl (ka 20 (kn 0)) ar))))) ak)))
def bh:FS:=av (sp 3 0 1 gO [])
theorem lK:aL 2 522 bh:=bu (aP 88 3 (ix Ho 6) my) nk
def eI:W2:=(af (aG 3 (aa 0)) (af (cZ (rP (ae (ao 19 (aa 0)) ah)) [4,5] (af (aG 6 (aq bg (ae (aa 5) (ae (aa 1) (ae (aa 2) ah))))) (af (BS (aa 6) (aa 5) (af (aG 3 (bq [(525,bh)] (aa 3) (ae (aa 4) (ae (aa 6) ah)))) ai)) ai))) (af (ax (aa 3)) ai)))
theorem L8:ba 4 135 eI:=
 go (cC (aU 3 (kn 0)) (cC (JW [4,5] (WH (kl (ka 19 (kn 0)) ar)) (cC (aU 6 (kg 95 sN (kl (kn 5) (kl (kn 1) (kl (kn 2) ar))))) (cC (kX (s:=(nS (oP (nS (dW 135) 1)).1 1)) (w:=(BS (aa 6) (aa 5) (af (aG 3 (bq [(525,bh)] (aa 3) (ae (aa 4) (ae (aa 6) ah)))) ai))) (XE (go (kn 6)) (go (kn 5)) (go (cC (aU 3 (km D0 (ed ni lK rfl bY) (kn 3) (kl (kn 4) (kl (kn 6) ar)))) ak)) rfl)) ak))) (cC (aD (kn 3)) ak)))
def s_fnamed_3:FS:=av (sp 3 0 4 eI [])
theorem Io:aL 4 1191 s_fnamed_3:=bu (aP 237 3 (ix A6 6) my) L8
def iD:W2:=(af (aG 5 (aq cO (ae (aa 0) (ae (aa 1) (ae (aa 2) ah))))) (af (aI (tE (ag fk (aa 5) bS)) (af (ax (aq n_Row_5 (ae (aa 2) (ae (aF (one gd) (ae (eE (aa 1) (cJ (aa 2)) (cJ (ag aH (aa 2) (aj 1)))) ah)) (ae (au "(bad)") (ae bS ah)))))) ai) ai) (af (aG 6 (ag aH (aa 2) (ao 26 (aa 5)))) (af (aG 7 (aq d5 (ae (aq s_fnamed_3 (ae (ao 25 (aa 5)) (ae (aa 6) (ae (aa 3) ah)))) (ae (aa 4) ah)))) (af (ax (aq n_Row_5 (ae (aa 2) (ae (aF (one gd) (ae (eE (aa 1) (cJ (aa 2)) (cJ (aa 6))) ah)) (ae (aa 7) (ae (ao 25 (aa 5)) ah)))))) ai)))))
theorem Kb:ba 9 136 iD:=
 go (cC (aU 5 (kg 71 rg (kl (kn 0) (kl (kn 1) (kl (kn 2) ar))))) (cC (aK (aE uW (kn 5) gi) (cC (aD (kg 72 Fo (kl (kn 2) (kl (kb mn (bJ rD) (kl (gQ (kn 1) (gY (kn 2)) (gY (aC aM (kn 2) (ki 1)))) ar)) (kl (r6 RK) (kl gi ar)))))) ak) ak) (cC (aU 6 (aC aM (kn 2) (ka 26 (kn 5)))) (cC (aU 7 (kg 94 CQ (kl (kg 96 Io (kl (ka 25 (kn 5)) (kl (kn 6) (kl (kn 3) ar)))) (kl (kn 4) ar)))) (cC (aD (kg 72 Fo (kl (kn 2) (kl (kb mn (bJ rD) (kl (gQ (kn 1) (gY (kn 2)) (gY (kn 6))) ar)) (kl (kn 7) (kl (ka 25 (kn 5)) ar)))))) ak)))))
def s_frow_at_5:FS:=av (sp 5 0 3 iD [])
theorem En:aL 9 1198 s_frow_at_5:=bu (aP 239 5 (ix A7 6) Fj) Kb
def lL:W2:=(af (ax (ag aH (ao 1 (aa 0)) (aF (one bA) (ae (ao 43 (aa 0)) ah)))) ai)
theorem Ip:ef 0 131 1 lL:=
 go (cC (aD (aC aM (ka 1 (kn 0)) (kb bN (bJ c6) (kl (ka 43 (kn 0)) ar)))) ak)
def gq:FS:=av (sp 1 0 0 lL [])
theorem CR:aL 0 1149 gq:=bu (aP 225 1 (ix A1 6) bZ) Ip
def mZ:W2:=(af (er (bk (ae (aq s_fnames_by_place_1 (ae (aa 2) ah)) (ae (dH ah) (ae (aj 0) ah)))) [6,5,4]) (af (dp (tE (ag iG (aa 6) (aF (one bA) (ae (aa 1) ah)))) (af (bR (bf cI bx (aa 5) (ae (aq s_frow_at_5 (ae (aa 0) (ae (aa 1) (ae (aa 6) (ae (aa 4) (ae (aa 3) ah)))))) ah))) (af (aG 6 (bq [(1159,gq)] (ag az (aa 5) (eC (aj 1))) ah)) ai)) 40) (af (ax (aa 5)) ai)))
theorem CS:ba 10 137 mZ:=
 go (cC (kX (s:=(nS (dW 137) 0)) (w:=(er (bk (ae (aq s_fnames_by_place_1 (ae (aa 2) ah)) (ae (dH ah) (ae (aj 0) ah)))) [6,5,4])) (rG (names:=["names","found","at"]) (slR:=[6,5,4]) (go (bM (kl (kg 23 q5 (kl (kn 2) ar)) (kl (jR ar) (kl (ki 0) ar))))) (.cons (stN rfl) (.cons (stN rfl) (.cons (stN rfl) .nil))) (fun _=>rfl) (fun _ _ _ _ _ _=>rfl))) (cC (R9 40 (aE nu (kn 6) (kb bN (bJ c6) (kl (kn 1) ar))) (cC (fL (jC (kn 5) (kl (kg 97 En (kl (kn 0) (kl (kn 1) (kl (kn 6) (kl (kn 4) (kl (kn 3) ar)))))) ar))) (cC (aU 6 (iw RS (ed Ic CR rfl bY) (a9 (kn 5) (iS (ki 1))))) ak))) (cC (aD (kn 5)) ak)))
end
noncomputable section
def fD:FS:=av (sp 4 0 3 mZ [])
theorem xj:aL 10 1206 fD:=bu (aP 242 4 (ix wc 6) Fi) CS
def j6:W2:=(af (ax (bk (ae (ao 1 (aa 0)) (ae (ao 43 (aa 0)) (ae (ao 44 (aa 0)) ah))))) ai)
theorem Eo:ef 0 131 2 j6:=
 go (cC (aD (bM (kl (ka 1 (kn 0)) (kl (ka 43 (kn 0)) (kl (ka 44 (kn 0)) ar))))) ak)
def cz:FS:=av (sp 1 0 0 j6 [])
theorem qR:aL 0 1156 cz:=bu (aP 227 1 (ix A2 6) bZ) Eo
theorem Iq:de KF 1206 (dW 137) (sA 137) ((Loc (sA 137)).take 4) 2 3 [.none,.str "att" 1795]:=aP 242 4 (ix wc 6) cT
def jo:FS:=av (sp 2 2 3 mZ [.none,.str "att"])
theorem Ir:aL 10 1206 jo:=(JF.pure (om (dxs:=[.none,.str "att"]) Iq (fun _ _ _=>(.cons .none (.cons (.str _ _) VRs.nil))) CS))
def sO:W2:=(yj 83 (af (ax (aq bF (ae (aa 0) (ae (aa 1) (ae (aa 2) ah))))) ai))
theorem CT:MV PW KF 8 (sA 160) (dW 160) sO:=
 (M7 Cu (E7 45 rfl) (go (cC (aD (kg 70 uK (kl (kn 0) (kl (kn 1) (kl (kn 2) ar))))) ak)))
theorem yP:de KF 1398 (dW 160) (sA 160) ((Loc (sA 160)).take 3) 3 0 []:=aP 285 3 (ix Br 6) my
def s_f_law_told_3:FS:=av (sp 3 0 0 sO [])
theorem yQ:aL 8 1398 s_f_law_told_3:=(JF.pure (Gq (dxs:=[]) yP (fun _ _ _=>VRs.nil) CT))
def uP:W2:=(af (aG 1 (eT (tE (ag fk (ao 15 (aa 0)) bS)) (au "") (ao 2 (ao 15 (aa 0))))) (af (aG 2 (eT (tE (ag fk (ao 16 (aa 0)) bS)) (au "") (ao 2 (ao 16 (aa 0))))) (af (ax (bk (ae (au "mem") (ae (aa 1) (ae (aa 2) (ae (ao 17 (aa 0)) (ae (ao 14 (aa 0)) (ae (ao 7 (aa 0)) (ae (ao 18 (aa 0)) (ae (ao 2 (aa 0)) ah)))))))))) ai)))
theorem Ep:ef 0 36 1 uP:=
 go (cC (aU 1 (iT (aE uW (ka 15 (kn 0)) gi) (ks "") (ka 2 (ka 15 (kn 0))))) (cC (aU 2 (iT (aE uW (ka 16 (kn 0)) gi) (ks "") (ka 2 (ka 16 (kn 0))))) (cC (aD (bM (kl (ks "mem") (kl (kn 1) (kl (kn 2) (kl (ka 17 (kn 0)) (kl (ka 14 (kn 0)) (kl (ka 7 (kn 0)) (kl (ka 18 (kn 0)) (kl (ka 2 (kn 0)) ar)))))))))) ak)))
def dD:FS:=av (sp 1 0 2 uP [])
theorem qS:aL 0 445 dD:=bu (aP 77 1 (ix Hk 6) bZ) Ep
def uQ:W2:=(af (ax (bk (ae (au "rel") (ae (ao 14 (aa 0)) (ae (ao 2 (aa 0)) ah))))) ai)
theorem Er:ef 0 35 1 uQ:=
 go (cC (aD (bM (kl (ks "rel") (kl (ka 14 (kn 0)) (kl (ka 2 (kn 0)) ar))))) ak)
def ia:FS:=av (sp 1 0 0 uQ [])
theorem qT:aL 0 404 ia:=bu (aP 70 1 (ix Hj 6) bZ) Er
def uR:W2:=(af (ax (bk (ae (au "reg") (ae (ao 2 (ao 13 (aa 0))) ah)))) ai)
theorem Es:ef 0 33 1 uR:=
 go (cC (aD (bM (kl (ks "reg") (kl (ka 2 (ka 13 (kn 0))) ar)))) ak)
def ib:FS:=av (sp 1 0 0 uR [])
theorem qU:aL 0 336 ib:=bu (aP 61 1 (ix Hi 6) bZ) Es
noncomputable def dm:Scope:=⟨.function,[("names",.cell),("place",.cell),("some",.local),("sorted",.globalImplicit)],false,false,[("fast",.str "names"),("fast",.str "place"),("fast",.str "name"),("fast",.str "some")]⟩
def eA:W2:=(af (aG 0 (aF (one tF) (ae (du (oH (aa 1)) 1 2 [1,2] (tE (ag aO (ag az (aa 2) (aa 1)) (aa 3))) (aa 1)) ah))) (af (ax (eT (tE (ag fNe (aa 0) (aY ah))) (ag az (aa 0) (aj 0)) (au ""))) ai))
theorem xl:JS PW KF 0 dm (dW 158) eA:=
 go (cC (aU 0 (kb zu (bJ LV) (kl (mx ⟨.function,[(".0",.local),("name",.local),("names",.free),("place",.free)],false,false,[]⟩ 1 2 1 [0,1] (by decide +kernel) (XM (sb 1 0)) (Z0 (aE aS (a9 (sb 2 0) (kn 1)) (sb 2 1))) (kn 1)) ar))) (cC (aD (iT (aE cP (kn 0) (di ar)) (a9 (kn 0) (ki 0)) (ks ""))) ak))
theorem ui:oG KF 1384 (dW 158) dm ["names","place"]:=Sk 281 (ix Bp 4) cT
def s_f_law_name_at_2:FS:=av (jQ ["names","place"] (Loc dm) (Cel dm) eA)
theorem lF:aL 0 1384 s_f_law_name_at_2:=(JF.pure (GP ui xl))
def bW:W2:=(af (aG 3 (dH ah)) (af (cZ (dr (cQ (ao 19 (aa 0)))) [4] (af (aG 5 (bq [(346,ib),(421,ia),(474,dD)] (aa 4) ah)) (af (aG 6 (au "")) (af (aI (tE (ag aO (ag az (aa 5) (aj 0)) (au "rel"))) (af (aG 6 (aq s_f_law_name_at_2 (ae (aa 2) (ae (ag aH (aa 1) (ag az (aa 5) (aj 1))) ah)))) (af (aG 4 (eT (tE (ag fNe (aa 6) (au ""))) (aq tK (ae (aj 0) (ae (aa 6) ah))) (aa 4))) ai)) (af (aI (bj (tE (ag aO (ag az (aa 5) (aj 0)) (au "mem"))) (bj (tE (ag aO (ag az (aa 5) (aj 1)) (au "rip"))) (fun σ=>.ok true σ))) (af (aG 6 (aq s_f_law_name_at_2 (ae (aa 2) (ae (ag aH (aa 1) (ag az (aa 5) (aj 4))) ah)))) (af (aG 4 (eT (tE (ag fNe (aa 6) (au ""))) (aq tL (ae (aq qe ah) (ae bS (ae (aj 1) (ae (aj 0) (ae (ag az (aa 5) (aj 5)) (ae (ag az (aa 5) (aj 6)) (ae (aa 6) ah)))))))) (aa 4))) ai)) ai) ai)) (af (bR (bf cI bx (aa 3) (ae (aa 4) ah))) ai))))) (af (ax (aq bV (ae (ao 2 (aa 0)) (ae (aa 3) (ae (ao 20 (aa 0)) ah))))) ai)))
theorem Et:ba 3 159 bW:=
 go (cC (aU 3 (jR ar)) (cC (lu 4 (fi (fU (ka 19 (kn 0)))) (cC (aU 5 (iw iv (ed uy qU rfl (ed uz qT rfl (ed ux qS rfl bY))) (kn 4))) (cC (aU 6 (ks "")) (cC (aK (aE aS (a9 (kn 5) (ki 0)) (ks "rel")) (cC (aU 6 (kg 100 lF (kl (kn 2) (kl (aC aM (kn 1) (a9 (kn 5) (ki 1))) ar)))) (cC (aU 4 (iT (aE cP (kn 6) (ks "")) (kg 62 Fp (kl (ki 0) (kl (kn 6) ar))) (kn 4))) ak)) (cC (aK (cf (aE aS (a9 (kn 5) (ki 0)) (ks "mem")) (cf (aE aS (a9 (kn 5) (ki 1)) (ks "rip")) eF)) (cC (aU 6 (kg 100 lF (kl (kn 2) (kl (aC aM (kn 1) (a9 (kn 5) (ki 4))) ar)))) (cC (aU 4 (iT (aE cP (kn 6) (ks "")) (kg 56 Fq (kl (zw 57 CI) (kl gi (kl (ki 1) (kl (ki 0) (kl (a9 (kn 5) (ki 5)) (kl (a9 (kn 5) (ki 6)) (kl (kn 6) ar)))))))) (kn 4))) ak)) ak) ak)) (cC (fL (jC (kn 3) (kl (kn 4) ar))) ak))))) (cC (aD (kg 67 ji (kl (ka 2 (kn 0)) (kl (kn 3) (kl (ka 20 (kn 0)) ar))))) ak)))
def s_f_law_due_3:FS:=av (sp 3 0 4 bW [])
theorem AA:aL 3 1391 s_f_law_due_3:=bu (aP 283 3 (ix Bq 6) my) Et
def jG:W2:=(af (ax (bk (ae (ao 2 (aa 0)) (ae (ao 20 (aa 0)) (ae (aF (one xW) (ae (du (cQ (ao 19 (aa 0))) 1 2 [] (fun σ=>.ok true σ) (bq [(346,ib),(421,ia),(474,dD)] (aa 1) ah)) ah)) ah))))) ai)
theorem rj:ef 1 37 1 jG:=
 go (cC (aD (bM (kl (ka 2 (kn 0)) (kl (ka 20 (kn 0)) (kl (kb pQ (bJ GC) (kl (mx ⟨.function,[(".0",.local),("operand",.local)],false,false,[]⟩ 1 2 1 [] (by decide +kernel) (fU (ka 19 (kn 0))) uB (iw iv (ed uy qU rfl (ed uz qT rfl (ed ux qS rfl bY))) (kn 1))) ar)) ar))))) ak)
def s_fInstruction_told_1:FS:=av (sp 1 0 0 jG [])
theorem dA:aL 1 496 s_fInstruction_told_1:=bu (aP 86 1 (ix Hn 4) bZ) rj
noncomputable def gG:Scope:=⟨.function,[("script",.local),("pen",.local),("iset",.local),("octets",.local),("names",.local),("both",.local),("row",.local),("twin",.local),("found",.local),("due",.local),("_law_pen",.globalImplicit),("InstructionSet",.globalImplicit),("jump_forms",.globalImplicit),("call_forms",.globalImplicit),("loop_forms",.globalImplicit),("load_forms",.globalImplicit),("_law_laid",.globalImplicit),("_law_rows",.globalImplicit),("_law_names",.globalImplicit),("sweep",.globalImplicit),("zip",.globalImplicit),("_law_told",.globalImplicit),("_law_due",.globalImplicit),("write_att",.globalImplicit),("write_intel",.globalImplicit),("len",.globalImplicit)],false,false,[("fast",.str "script"),("fast",.str "pen"),("fast",.str "iset"),("fast",.str "octets"),("fast",.str "names"),("fast",.str "both"),("fast",.str "row"),("fast",.str "twin"),("fast",.str "found"),("fast",.str "due")]⟩
def xm:W2:=(af (aG 1 (aq hZ (ae (aa 0) ah))) (af (aG 2 (u9 (aq gk (ae (ag aH (ag aH (ag aH (aq iW ah) (aq iX ah)) (aq iY ah)) (aq iZ (ae (au "sub") (ae (aj 42) ah)))) ah)))) (af (aG 3 (aq gB (ae (aq gC (ae (aa 1) ah)) ah))) (af (aG 4 (aq ew (ae (aa 1) (ae (aa 3) ah)))) (af (aG 5 (aY (ae (aq fD (ae (aa 2) (ae (aa 3) (ae (aa 4) (ae (au "att") ah))))) (ae (aq fD (ae (aa 2) (ae (aa 3) (ae (aa 4) (ae (au "intel") ah))))) ah)))) (af (aI (bj (tE (ag fk (aa 4) bS)) (bj (tE (ag fNe (du (cQ (ag az (aa 5) (aj 0))) 1 2 [] (fun σ=>.ok true σ) (bq [(1159,cz)] (aa 1) ah)) (du (cQ (aq jo (ae (aa 2) (ae (aa 3) ah)))) 1 2 [] (fun σ=>.ok true σ) (bq [(1159,cz)] (aa 1) ah)))) (fun σ=>.ok true σ))) (af (ax (cb false)) ai) ai) (af (cZ (v5 (ae (ag az (aa 5) (aj 0)) (ae (ag az (aa 5) (aj 1)) ah))) [6,7] (af (aG 8 (aq s_f_law_told_3 (ae (aa 2) (ae (aa 3) (ae (ao 1 (aa 6)) ah))))) (af (aI (bC (tE (ag fNe (ao 1 (aa 6)) (ao 1 (aa 7)))) (bC (tE (ag fNe (ao 43 (aa 6)) (ao 43 (aa 7)))) (fun σ=>.ok false σ))) (af (ax (cb false)) ai) ai) (af (aI (tE (ag fk (aa 8) bS)) (af (aI (bC (tE (ag fNe (ao 44 (aa 6)) (au "(bad)"))) (bC (tE (ag fNe (ao 44 (aa 7)) (au "(bad)"))) (bC (tE (ag gw (ao 25 (aa 6)) bS)) (fun σ=>.ok false σ)))) (af (ax (cb false)) ai) ai) (af gg ai)) ai) (af (aG 9 (aq s_f_law_due_3 (ae (ao 25 (aa 8)) (ae (ag aH (ao 1 (aa 6)) (ao 26 (aa 8))) (ae (eT (tE (ag fk (aa 4) bS)) lP (aa 4)) ah))))) (af (aI (bC (tE (ag fNe (ao 44 (aa 6)) (aq s_fwrite_att_1 (ae (aa 9) ah)))) (bC (tE (ag fNe (ao 44 (aa 7)) (aq s_fwrite_intel_1 (ae (aa 9) ah)))) (fun σ=>.ok false σ))) (af (ax (cb false)) ai) ai) (af (aI (bC (tE (ag fNe (bq [(525,s_fInstruction_told_1)] (ao 25 (aa 6)) ah) (bq [(525,s_fInstruction_told_1)] (ao 25 (aa 8)) ah))) (bC (tE (ag fNe (bq [(525,s_fInstruction_told_1)] (ao 25 (aa 7)) ah) (bq [(525,s_fInstruction_told_1)] (ao 25 (aa 8)) ah))) (fun σ=>.ok false σ))) (af (ax (cb false)) ai) ai) ai))))))) (af (ax (ag aO (aF (one bA) (ae (ag az (aa 5) (aj 0)) ah)) (aF (one bA) (ae (ag az (aa 5) (aj 1)) ah)))) ai))))))))
theorem Sn:JS PW KF 11 gG (dW 161) xm:=
 go (cC (aU 1 (kg 0 zY (kl (kn 0) ar))) (cC (aU 2 (ZY (kg 2 se (kl (aC aM (aC aM (aC aM (zw 10 wG) (zw 11 wH)) (zw 12 wI)) (kg 16 wM (kl (ks "sub") (kl (ki 42) ar)))) ar)))) (cC (aU 3 (kg 18 yt (kl (kg 21 yv (kl (kn 1) ar)) ar))) (cC (aU 4 (kg 22 wN (kl (kn 1) (kl (kn 3) ar)))) (cC (aU 5 (di (kl (kg 98 xj (kl (kn 2) (kl (kn 3) (kl (kn 4) (kl (ks "att") ar))))) (kl (kg 98 xj (kl (kn 2) (kl (kn 3) (kl (kn 4) (kl (ks "intel") ar))))) ar)))) (cC (aK (cf (aE uW (kn 4) gi) (cf (aE cP (mx ⟨.function,[(".0",.local),("row",.local)],false,false,[]⟩ 1 2 10 [] (by decide +kernel) (fU (a9 (kn 5) (ki 0))) uB (iw iv (ed uA qR rfl bY) (kn 1))) (mx ⟨.function,[(".0",.local),("row",.local)],false,false,[]⟩ 1 2 10 [] (by decide +kernel) (fU (kg 98 Ir (kl (kn 2) (kl (kn 3) ar)))) uB (iw iv (ed uA qR rfl bY) (kn 1)))) eF)) (cC (aD (iR false)) ak) ak) (cC (JW [6,7] (WI (kl (a9 (kn 5) (ki 0)) (kl (a9 (kn 5) (ki 1)) ar))) (cC (aU 8 (kg 99 yQ (kl (kn 2) (kl (kn 3) (kl (ka 1 (kn 6)) ar))))) (cC (aK (ck (aE cP (ka 1 (kn 6)) (ka 1 (kn 7))) (ck (aE cP (ka 43 (kn 6)) (ka 43 (kn 7))) eh)) (cC (aD (iR false)) ak) ak) (cC (aK (aE uW (kn 8) gi) (cC (aK (ck (aE cP (ka 44 (kn 6)) (ks "(bad)")) (ck (aE cP (ka 44 (kn 7)) (ks "(bad)")) (ck (aE nv (ka 25 (kn 6)) gi) eh))) (cC (aD (iR false)) ak) ak) (cC WD ak)) ak) (cC (aU 9 (kg 101 AA (kl (ka 25 (kn 8)) (kl (aC aM (ka 1 (kn 6)) (ka 26 (kn 8))) (kl (iT (aE uW (kn 4) gi) XI (kn 4)) ar))))) (cC (aK (ck (aE cP (ka 44 (kn 6)) (kg 93 pe (kl (kn 9) ar))) (ck (aE cP (ka 44 (kn 7)) (kg 81 mX (kl (kn 9) ar))) eh)) (cC (aD (iR false)) ak) ak) (cC (aK (ck (aE cP (iw iv (ed d6 dA rfl bY) (ka 25 (kn 6))) (iw iv (ed d6 dA rfl bY) (ka 25 (kn 8)))) (ck (aE cP (iw iv (ed d6 dA rfl bY) (ka 25 (kn 7))) (iw iv (ed d6 dA rfl bY) (ka 25 (kn 8)))) eh)) (cC (aD (iR false)) ak) ak) ak))))))) (cC (aD (cF aS (kb bN (bJ c6) (kl (a9 (kn 5) (ki 0)) ar)) (kb bN (bJ c6) (kl (a9 (kn 5) (ki 1)) ar)))) ak))))))))
theorem L9:de KF 1403 (dW 161) gG ((Loc gG).take 1) 1 9 []:=aP 287 1 (ix Bs 4) bZ
end
def LawW:Prop:=∀ sc:List Int,sc.length≤1000→∃ env' st1,xm ⟨[.lst (sc.map V.int),.unb,.unb,.unb,.unb,.unb,.unb,.unb,.unb,.unb],[]⟩=.ok (.ret (.bool true)) ⟨env',st1⟩
theorem Ma (hlaw:LawW) {w:World}{A:Around}{s:Shared}{R:Result→Shared→Prop}{a:Addr}{vs:List Value}{sc:List Int}
  (X:(KF w).In s.heap) (T:∃ p loose mg mb,TopRead p loose mg mb s.heap) (hA:A.handled=none) (hf:A.frames=some []) (hd:A.depth+60<recursionLimit) (hu:A.units+160<cLine)
  (ho:s.heap.get? a=some (lstOf vs 0)) (hl:vs.length=sc.length) (hv:∀ (i:Nat) v n,vs[i]?=some v→sc[i]?=some n→∃ t,v=.int n t) (hsc:sc.length≤1000)
  (hR:∀ h' tk,(∀ b o,s.heap.get? b=some o→h'.get? b=some o)→R (.ok (.ret (.bool true))) { s with heap:=h',toks:=tk }):
  codeAny (model PW w) A (.call (.ref 1403) ⟨[.ref a],[]⟩) R s:=by
 have H:=L9
 refine H.there w _ fun oc od name qual params dV kV doc pm an cdv ct osl hfo hcd hbind=>?_
 obtain⟨p',loose',mg,mb,T⟩:=T
 refine codeAny_call_def (fd:=fnOf name qual params (dW 161) gG dV kV doc pm an cdv ct) (body:=(dW 161)) (binds:=[((Str.ofString "script"),Value.ref a)]) (by omega) (X _ _ hfo) rfl T.nolimit (codeRec_of X hcd) rfl
  (hbind s [.ref a] X rfl) H.cell (fun y hy=>?_) (fun h₁ hns hk=>?_) H.co H.gen H.kind
 ·rw[List.mem_singleton.mp hy];exact H.loc _ (.head _)
 ·let env':Env:=envX qual gG s.heap.objs.size 1403 cdv []
  obtain⟨e1,st1,hw⟩:=hlaw sc hsc
  have hA':(A.deeper env').frames=some [env']:=Around.frames_deeper hf
  have rm':cA 11 ⟨w,s.heap,Loc gG,s.heap.objs.size,env',[env'],[],[]⟩ (A.deeper env'):=
   ⟨hA,hA',by show A.depth+1+4 * 11+4<recursionLimit;omega,by show A.units+3+12 * 11+12<cLine;omega⟩
  have hvr:VR w.params (FZ s.heap []) [] (.ref a) (.lst (sc.map V.int)):=by
   refine .lst (n:=0) (vs:=vs) (.inl ho) (by rw[hl,List.length_map]) fun i v x h1 h2=>?_
   rw[List.getElem?_map]at h2
   cases hq:sc[i]? with
   | none=>rw[hq]at h2;cases h2
   | some n=>
    rw[hq]at h2
    cases h2
    obtain⟨t,rfl⟩:=hv i v n h1 hq
    exact .int _ _
  have R':Rel ⟨w,s.heap,Loc gG,s.heap.objs.size,env',[env'],[],[]⟩ h₁ (fun x=>List.lookup x [(Str.ofString "script",Value.ref a)].reverse) ⟨[],[],[],[]⟩ ⟨[.lst (sc.map V.int),.unb,.unb,.unb,.unb,.unb,.unb,.unb,.unb,.unb],[]⟩:=by
   refine⟨⟨hns,hk,Nat.le_refl _⟩,fun p hp=>(nomatch hp),.nil,fun p hp=>(nomatch hp),fun q hq=>(nomatch hq),.nil,fun q hq=>(nomatch hq),fun p hp=>(nomatch hp),fun p hp=>(nomatch hp),fun p hp=>(nomatch hp),rfl,fun k o h=>(by simp at h),rfl,fun i n v hi hv'=>?_,fun j n v h=>(by simp at h),fun e he=>?_⟩
   ·cases i with
    | zero=>
     have e1:n=Str.ofString "script":=(Option.some.inj hi).symm
     have e2:v=.lst (sc.map V.int):=(Option.some.inj hv').symm
     subst e1 e2
     exact .inr ⟨.ref a,by simp,hvr⟩
    | succ i=>
     simp only[List.getElem?_cons_succ]at hv'
     have:=List.mem_of_getElem? hv'
     simp only[List.mem_cons,List.not_mem_nil,or_false,or_self]at this
     exact .inl this
   ·rw[List.mem_singleton.mp he]
    exact⟨(by show gG.kind≠_;decide),_,rfl,.inl rfl⟩
  refine Sn ⟨w,s.heap,Loc gG,s.heap.objs.size,env',[env'],[],[]⟩ (A.deeper env') rm' ⟨⟨_,_,_,_,rfl⟩,rfl,rfl,rfl⟩ ⟨X,⟨p',loose',mg,mb,T⟩⟩ { s with heap:=h₁,toks:=s.toks+1 } _ _ _ R' _ _ ?_
  rw[hw]
  intro fv h' tk m'' W'' R2 X2 hfl
  cases hfl with
  | ret hv2=>
   have:∀ v,VR w.params (FZ s.heap W''.fz) W''.rho v (.bool true)→v=.bool true:=fun v h=>by cases h;rfl
   rw[this _ hv2]
   exact hR h' tk R2.F.keep
section
section
variable {β γ:Type}{σ σ1:S}{env:List V}{st:List MO}{x y z:V}{xs ys:List V}{C:Addr}
theorem bw (f:β→S→Rs γ) (v:β):(Rs.ok v σ).bind f=f v σ:=.trans rfl rfl
theorem Kc (f:β→S→Rs γ):(Rs.exc C:Rs β).bind f=.exc C:=.trans rfl rfl
theorem Bu:(Rf.ok x st).rs env=.ok x ⟨env,st⟩:=.trans rfl rfl
theorem So:(Rf.exc C).rs env=.exc C:=.trans rfl rfl
def kN (σ:S):Option V→Rs V
 | some .unb=>.no
 | some x=>.ok x σ
 | Option.none=>.no
theorem gr (i:Nat):aa i ⟨env,st⟩=kN ⟨env,st⟩ env[i]?:=by
 unfold aa kN
 cases env[i]? with
 | none=>rfl
 | some v=>cases v <;> rfl
theorem Kd (b:Int):kN σ (some (.int b))=.ok (.int b) σ:=.trans rfl rfl
theorem Sp (b:Str):kN σ (some (.str b))=.ok (.str b) σ:=.trans rfl rfl
theorem CU (b:List UInt8):kN σ (some (.bytes b))=.ok (.bytes b) σ:=.trans rfl rfl
theorem pf (b:Nat):kN σ (some (.loc b))=.ok (.loc b) σ:=.trans rfl rfl
theorem Sr (fs:List (V×V)):kN σ (some (.dct fs))=.ok (.dct fs) σ:=.trans rfl rfl
theorem lR (i:Int):aj i σ=.ok (.int i) σ:=.trans rfl rfl
theorem Fs (i:Str):au i σ=.ok (.str i) σ:=.trans rfl rfl
theorem CV:bS σ=.ok .none σ:=.trans rfl rfl
noncomputable def Ny (f:V→V→S→Rs V) (x y:V):S→Rs V:=f x y
def kB (f:V→V→S→Rs V) (r:W1) (x:V):S→Rs V:=fun σ=>(r σ).bind (Ny f x)
theorem pg (f:V→V→S→Rs V) (l r:W1):ag f l r σ=(l σ).bind (kB f r):=.trans rfl rfl
theorem xo (f:V→V→S→Rs V) (r:W1):kB f r x σ=(r σ).bind (Ny f x):=.trans rfl rfl
theorem ph (f:V→V→S→Rs V):Ny f x y σ=f x y σ:=.trans rfl rfl
def kC (s:FS) (xs:List V) (σ:S):Rs V:=(s xs σ.st).rs σ.env
theorem jU (s:FS) (wa:S→Rs (List V)):aq s wa σ=(wa σ).bind (kC s):=.trans rfl rfl
theorem tM (s:FS):kC s xs ⟨env,st⟩=(s xs st).rs env:=.trans rfl rfl
theorem n6 (f:List V→S→Rs V) (wa:S→Rs (List V)):aF f wa σ=(wa σ).bind f:=.trans rfl rfl
theorem CW (f:V→S→Rs V):one f [x] σ=f x σ:=.trans rfl rfl
theorem jV:ah σ=.ok [] σ:=.trans rfl rfl
noncomputable def Ss (x:V) (xs:List V) (σ:S):Rs (List V):=.ok (x::xs) σ
def kL (r:S→Rs (List V)) (x:V) (σ:S):Rs (List V):=(r σ).bind (Ss x)
theorem gs (w:W1) (r:S→Rs (List V)):ae w r σ=(w σ).bind (kL r):=.trans rfl rfl
theorem n7 (r:S→Rs (List V)):kL r x σ=(r σ).bind (Ss x):=.trans rfl rfl
theorem m7:Ss x xs σ=.ok (x::xs) σ:=.trans rfl rfl
theorem tN (w:W1):tE w σ=(w σ).bind eS:=.trans rfl rfl
theorem qg (b:Bool):eS (.bool b) σ=.ok b σ:=.trans rfl rfl
def yR (r:S→Rs Bool) (b:Bool) (σ:S):Rs Bool:=if b then r σ else .ok false σ
def Nz (r:S→Rs Bool) (b:Bool) (σ:S):Rs Bool:=if b then .ok true σ else r σ
theorem Ft (w r:S→Rs Bool):bj w r σ=(w σ).bind (yR r):=.trans rfl rfl
theorem Ke (w r:S→Rs Bool):bC w r σ=(w σ).bind (Nz r):=.trans rfl rfl
theorem Kf (r:S→Rs Bool):yR r true σ=r σ:=.trans rfl rfl
theorem Kg (r:S→Rs Bool):yR r false σ=.ok false σ:=.trans rfl rfl
theorem NA (r:S→Rs Bool):Nz r false σ=r σ:=.trans rfl rfl
def Su (x:V) (σ:S):Rs V:=jx x.un fun a=>.ok (.int (-a)) σ
theorem Fu (w:W1):eC w σ=(w σ).bind Su:=.trans rfl rfl
theorem Pv (i:Int):Su (.int i) σ=.ok (.int (-i)) σ:=.trans rfl rfl
def kI (a b:W1) (c:Bool) (σ:S):Rs V:=if c then a σ else b σ
theorem xp (t:S→Rs Bool) (a b:W1):eT t a b σ=(t σ).bind (kI a b):=.trans rfl rfl
theorem Sv (a b:W1):kI a b true σ=a σ:=.trans rfl rfl
theorem Sw (a b:W1):kI a b false σ=b σ:=.trans rfl rfl
def kS (b:W2) (f:Fl) (σ:S):Rs Fl:=match f with
 | .next=>b σ
 | f=>.ok f σ
theorem eJ (a b:W2):af a b σ=(a σ).bind (kS b):=.trans rfl rfl
theorem jW (b:W2):kS b .next σ=b σ:=.trans rfl rfl
theorem m8 (b:W2):kS b (.ret x) σ=.ok (.ret x) σ:=.trans rfl rfl
theorem tO:ai σ=.ok .next σ:=.trans rfl rfl
def Sx (i:Nat) (x:V) (σ:S):Rs Fl:=.ok .next ⟨σ.env.set i x,σ.st⟩
theorem pj (i:Nat) (w:W1):aG i w σ=(w σ).bind (Sx i):=.trans rfl rfl
theorem pk (i:Nat):Sx i x ⟨env,st⟩=.ok .next ⟨env.set i x,st⟩:=.trans rfl rfl
def Sy (x:V) (σ:S):Rs Fl:=.ok (.ret x) σ
theorem gH (w:W1):ax w σ=(w σ).bind Sy:=.trans rfl rfl
theorem jX:Sy x σ=.ok (.ret x) σ:=.trans rfl rfl
def Fv (a b:W2) (c:Bool) (σ:S):Rs Fl:=if c then a σ else b σ
theorem sP (t:S→Rs Bool) (a b:W2):aI t a b σ=(t σ).bind (Fv a b):=.trans rfl rfl
theorem Iu (a b:W2):Fv a b true σ=a σ:=.trans rfl rfl
theorem Bv (a b:W2):Fv a b false σ=b σ:=.trans rfl rfl
def kEx (x:V) (σ:S):Rs Fl:=.ok .next σ
theorem CX (w:W1):bR w σ=(w σ).bind kEx:=.trans rfl rfl
theorem Sz:kEx x σ=.ok .next σ:=.trans rfl rfl
def SA (xs:List V) (σ:S):Rs V:=if xs.length≤100000 then .ok (.tup xs) σ else .no
theorem tQ (wa:S→Rs (List V)):bk wa σ=(wa σ).bind SA:=.trans rfl rfl
theorem tR (h:decide (xs.length≤100000)=true):SA xs σ=.ok (.tup xs) σ:=if_pos (of_decide_eq_true h)
def WQ (xs:List V) (σ:S):Rs V:=if xs.length≤100000 then .ok (.lst xs) σ else .no
theorem n8 (wa:S→Rs (List V)):aY wa σ=(wa σ).bind WQ:=.trans rfl rfl
theorem xq (h:decide (xs.length≤100000)=true):WQ xs σ=.ok (.lst xs) σ:=if_pos (of_decide_eq_true h)
def WR (xs:List V) (σ:S):Rs V:=gU xs σ
theorem m9 (wa:S→Rs (List V)):dH wa σ=(wa σ).bind WR:=.trans rfl rfl
theorem sQ (h:decide (xs.length≤100000)=true):WR xs ⟨env,st⟩=.ok (.loc st.length) ⟨env,st++[.lst xs]⟩:=if_pos (of_decide_eq_true h)
def WS (xs:List (V→W2)) (x:V) (σ:S):Rs Fl:=match dG x with
 | some ys=>if ys.length=xs.length then kQ xs ys σ else .no
 | Option.none=>.no
theorem CY (w:W1) (fs:List (V→W2)):eo w fs σ=(w σ).bind (WS fs):=.trans rfl rfl
theorem Kh {fs:List (V→W2)}(h:decide (xs.length=fs.length)=true):WS fs (.tup xs) σ=kQ fs xs σ:=if_pos (of_decide_eq_true h)
def SB (fs:List (V→W2)) (xs:List V) (_:Fl) (σ:S):Rs Fl:=kQ fs xs σ
theorem zE (f:V→W2) (fs:List (V→W2)):kQ (f::fs) (x::xs) σ=(f x σ).bind (SB fs xs):=.trans rfl rfl
theorem Fw (fs:List (V→W2)) (u:Fl):SB fs xs u σ=kQ fs xs σ:=.trans rfl rfl
theorem CZ (i:Nat):aName i x ⟨env,st⟩=.ok .next ⟨env.set i x,st⟩:=.trans rfl rfl
def WT (sl:List Nat) (x:V) (σ:S):Rs Fl:=match dG x with
 | some xs=>if xs.length=sl.length then .ok .next ⟨c5 σ.env sl xs.reverse,σ.st⟩else .no
 | Option.none=>.no
theorem n9 (w:W1) (sl:List Nat):er w sl σ=(w σ).bind (WT sl):=.trans rfl rfl
theorem xr {sl:List Nat}(h:decide (xs.length=sl.length)=true):WT sl (.tup xs) ⟨env,st⟩=.ok .next ⟨c5 env sl xs.reverse,st⟩:=if_pos (of_decide_eq_true h)
theorem dO (i:Nat) (is:List Nat):c5 env (i::is) (x::xs)=c5 (env.set i x) is xs:=.trans rfl rfl
theorem fE:c5 env [] []=env:=.trans rfl rfl
theorem ow (fs:List (Nat×V)):f9 (.inst C fs) σ=some (C,fs):=.trans rfl rfl
def NB (i:Nat) (σ:S):Option (Addr×List (Nat×V))→Rs V
 | some (C,fs)=>if eU C i then match rr fs i with
  | some y=>if isExt y then .no else .ok y σ
  | Option.none=>.no
  else .no
 | Option.none=>.no
def kA (i:Nat) (x:V) (σ:S):Rs V:=NB i σ (f9 x σ)
theorem C1 (i:Nat) (w:W1):ao i w σ=(w σ).bind (kA i):=by
 unfold ao kA NB
 rfl
theorem bU (i:Nat) (fs:List (Nat×V)) (h1:eU C i=true) (h2:rr fs i=some y) (h3:isExt y=false):kA i (.inst C fs) σ=.ok y σ:=by
 unfold kA NB
 rw[ow]
 dsimp only
 rw[if_pos h1,h2]
 dsimp only
 rw[h3,if_neg (by decide)]
theorem sR (i k:Nat) {fs:List (Nat×V)}(h0:st[k]?=some (.inst C fs)) (h1:eU C i=true) (h2:rr fs i=some y) (h3:isExt y=false):kA i (.loc k) ⟨env,st⟩=.ok y ⟨env,st⟩:=by
 unfold kA NB
 rw[show f9 (.loc k) ⟨env,st⟩=some (C,fs)from by show(match st[k]? with | some (.inst C fs)=>some (C,fs) | _=>Option.none)=_;rw[h0]]
 dsimp only
 rw[if_pos h1,h2]
 dsimp only
 rw[h3,if_neg (by decide)]
noncomputable def kM2 (s:FS) (x:V) (xs:List V) (σ:S):Rs V:=(s (x::xs) σ.st).rs σ.env
theorem c7 (s:FS):kM2 s x xs ⟨env,st⟩=(s (x::xs) st).rs env:=.trans rfl rfl
def kM (tbl:List (Addr×FS)) (wa:S→Rs (List V)) (x:V) (σ:S):Rs V:=match f9 x σ with
 | some (C,fs)=>if noAttr fs then match tbl.lookup C with
  | some spec=>(wa σ).bind (kM2 spec x)
  | Option.none=>.no
  else .no
 | Option.none=>.no
theorem C2 (tbl:List (Addr×FS)) (wo:W1) (wa:S→Rs (List V)):bq tbl wo wa σ=(wo σ).bind (kM tbl wa):=.trans rfl rfl
theorem fb {tbl:List (Addr×FS)}{wa:S→Rs (List V)}{fs:List (Nat×V)}{s:FS}(h1:noAttr fs=true) (h2:tbl.lookup C=some s):kM tbl wa (.inst C fs) σ=(wa σ).bind (kM2 s (.inst C fs)):=by
 unfold kM
 rw[ow]
 dsimp only
 rw[if_pos h1,h2]
theorem SD {tbl:List (Addr×FS)}{wa:S→Rs (List V)}{fs:List (Nat×V)}{s:FS}{k:Nat}(h0:st[k]?=some (.inst C fs)) (h1:noAttr fs=true) (h2:tbl.lookup C=some s):kM tbl wa (.loc k) ⟨env,st⟩=(wa ⟨env,st⟩).bind (kM2 s (.loc k)):=by
 unfold kM
 rw[show f9 (.loc k) ⟨env,st⟩=some (C,fs)from by show(match st[k]? with | some (.inst C fs)=>some (C,fs) | _=>Option.none)=_;rw[h0]]
 dsimp only
 rw[if_pos h1,h2]
def ip (i:Nat) (x o:V) (σ:S):Rs Fl:=xR i o x σ
def WU (i:Nat) (wo:W1) (x:V) (σ:S):Rs Fl:=(wo σ).bind (ip i x)
theorem C3 (i:Nat) (we wo:W1):aQ i we wo σ=(we σ).bind (WU i wo):=.trans rfl rfl
theorem Ki (i:Nat) (wo:W1):WU i wo x σ=(wo σ).bind (ip i x):=.trans rfl rfl
theorem fQ (i k:Nat) {fs:List (Nat×V)}(h0:st[k]?=some (.inst C fs)) (h1:(eU C i&&noAttr fs&&decide (fs.length<100))=true):ip i x (.loc k) ⟨env,st⟩=.ok .next ⟨env,st.set k (.inst C (xQ fs i x))⟩:=by
 show(match st[k]? with | some (.inst C fs)=>if eU C i&&noAttr fs&&decide (fs.length<100)then Rs.ok Fl.next ⟨env,st.set k (.inst C (xQ fs i x))⟩else .no | _=>.no)=_
 rw[h0]
 dsimp only
 rw[h1]
 rfl
noncomputable def Mc (f:List V→S→Rs V) (x:V) (xs:List V) (σ:S):Rs V:=f (x::xs) σ
def WV (ok:V→S→Bool) (f:List V→S→Rs V) (wa:S→Rs (List V)) (x:V) (σ:S):Rs V:=if ok x σ then(wa σ).bind (Mc f x)else .no
theorem zF (ok:V→S→Bool) (f:List V→S→Rs V) (wo:W1) (wa:S→Rs (List V)):bf ok f wo wa σ=(wo σ).bind (WV ok f wa):=.trans rfl rfl
theorem Kj {ok:V→S→Bool}{f:List V→S→Rs V}{wa:S→Rs (List V)}(h:ok x σ=true):WV ok f wa x σ=(wa σ).bind (Mc f x):=if_pos h
theorem Fy (f:List V→S→Rs V):Mc f x xs σ=f (x::xs) σ:=.trans rfl rfl
def kW (t:S→Rs Bool) (b:W2) (n:Nat) (r:Rs Fl):Rs Fl:=match r with
 | .ok .next σ2=>dp t b n σ2
 | .ok .cont σ2=>dp t b n σ2
 | .ok .brk σ2=>.ok .next σ2
 | .ok (.ret x) σ2=>.ok (.ret x) σ2
 | _=>.no
def Fz (t:S→Rs Bool) (b:W2) (n:Nat) (r:Rs Bool):Rs Fl:=match r with
 | .ok true σ1=>kW t b n (b σ1)
 | .ok false σ1=>.ok .next σ1
 | _=>.no
theorem qh (t:S→Rs Bool) (b:W2) (n:Nat):dp t b (n+1) σ=Fz t b n (t σ):=by
 show(match t σ with | .ok true σ1=>(match b σ1 with | .ok .next σ2=>dp t b n σ2 | .ok .cont σ2=>dp t b n σ2 | .ok .brk σ2=>.ok .next σ2 | .ok (.ret x) σ2=>.ok (.ret x) σ2 | _=>.no) | .ok false σ1=>.ok .next σ1 | _=>.no)=_
 unfold Fz kW
 rfl
theorem Iv (t:S→Rs Bool) (b:W2) (n:Nat):Fz t b n (.ok true σ)=kW t b n (b σ):=.trans rfl rfl
theorem NF (t:S→Rs Bool) (b:W2) (n:Nat):Fz t b n (.ok false σ)=.ok .next σ:=.trans rfl rfl
theorem FA (t:S→Rs Bool) (b:W2) (n:Nat):kW t b n (.ok .next σ)=dp t b n σ:=.trans rfl rfl
def kF (sl:List Nat) (wb:W2) (rows:List (List V)) (σ:S):Rs Fl:=ny sl wb rows σ
theorem lS (wi:S→Rs (List (List V))) (sl:List Nat) (wb:W2):cZ wi sl wb σ=(wi σ).bind (kF sl wb):=.trans rfl rfl
theorem SE (sl:List Nat) (wb:W2):kF sl wb [] σ=.ok .next σ:=.trans rfl rfl
def sS (sl:List Nat) (wb:W2) (rs:List (List V)) (r:Rs Fl):Rs Fl:=match r with
 | .ok .next σ'=>kF sl wb rs σ'
 | .ok .cont σ'=>kF sl wb rs σ'
 | .ok .brk σ'=>.ok .next σ'
 | .ok (.ret x) σ'=>.ok (.ret x) σ'
 | _=>.no
theorem iE {sl:List Nat}{wb:W2}{r:List V}{rs:List (List V)}(h:decide (r.length=sl.length)=true):kF sl wb (r::rs) ⟨env,st⟩=sS sl wb rs (wb ⟨c5 env sl r,st⟩):=by
 unfold kF sS
 rw[ny]
 dsimp only
 rw[if_pos (of_decide_eq_true h)]
 cases wb ⟨c5 env sl r,st⟩with
 | ok f σ=>cases f <;> rfl
 | exc C=>rfl
 | no=>rfl
theorem iq (sl:List Nat) (wb:W2) (rs:List (List V)):sS sl wb rs (.ok .next σ)=kF sl wb rs σ:=.trans rfl rfl
theorem C4 (sl:List Nat) (wb:W2) (rs:List (List V)):sS sl wb rs (.ok .cont σ)=kF sl wb rs σ:=.trans rfl rfl
def WW (rows:List V) (σ:S):Rs (List (List V)):=.ok (rows.map fun x=>[x]) σ
theorem qi (w:S→Rs (List V)):dr w σ=(w σ).bind WW:=.trans rfl rfl
theorem xt:WW xs σ=.ok (xs.map fun x=>[x]) σ:=.trans rfl rfl
def SG (x:V) (σ:S):Rs (List V):=ry (lW x) σ
theorem jY (w:W1):cQ w σ=(w σ).bind SG:=.trans rfl rfl
theorem pq:SG (.lst xs) σ=.ok xs σ:=.trans rfl rfl
def kP (x:V) (σ:S):Rs (Option Int):=jx x.un fun i=>.ok (some i) σ
theorem qj (w:W1):cJ w σ=(w σ).bind kP:=.trans rfl rfl
theorem Iw (i:Int):kP (.int i) σ=.ok (some i) σ:=.trans rfl rfl
theorem vG:fq σ=.ok Option.none σ:=.trans rfl rfl
def Me (x:V) (lo hi:Option Int) (σ:S):Rs V:=iK x lo hi σ
def Mf (wu:S→Rs (Option Int)) (x:V) (lo:Option Int) (σ:S):Rs V:=(wu σ).bind (Me x lo)
def WX (wl wu:S→Rs (Option Int)) (x:V) (σ:S):Rs V:=(wl σ).bind (Mf wu x)
theorem tS (w:W1) (wl wu:S→Rs (Option Int)):eE w wl wu σ=(w σ).bind (WX wl wu):=.trans rfl rfl
theorem xu (wl wu:S→Rs (Option Int)):WX wl wu x σ=(wl σ).bind (Mf wu x):=.trans rfl rfl
theorem tT (wu:S→Rs (Option Int)) (lo:Option Int):Mf wu x lo σ=(wu σ).bind (Me x lo):=.trans rfl rfl
theorem tU (lo hi:Option Int):Me x lo hi σ=iK x lo hi σ:=.trans rfl rfl
theorem Iy (a b:Int):aH (.int a) (.int b) σ=.ok (.int (a+b)) σ:=.trans rfl rfl
theorem NG (a b:Int):jJ (.int a) (.int b) σ=.ok (.int (a - b)) σ:=.trans rfl rfl
theorem SH (a b:Int):iG (.int a) (.int b) σ=.ok (.bool (decide (a<b))) σ:=.trans rfl rfl
theorem SI (a b:Int):uj (.int a) (.int b) σ=.ok (.bool (decide (b<a))) σ:=.trans rfl rfl
theorem SJ (a b:Int):uk (.int a) (.int b) σ=.ok (.bool (decide (b≤a))) σ:=.trans rfl rfl
theorem Mg (a b:Int):aO (.int a) (.int b) σ=.ok (.bool (a==b)) σ:=.trans rfl rfl
theorem SK (a b:Str):fNe (.str a) (.str b) σ=.ok (.bool (a != b)) σ:=.trans rfl rfl
theorem XN (a b:List UInt8):aO (.bytes a) (.bytes b) σ=.ok (.bool (a==b)) σ:=by
 show Rs.ok (V.bool (xor false (a==b))) σ=_
 rw[Bool.false_xor]
theorem NH {a b:Str}(h:decide (a.length+b.length≤100000)=true):aH (.str a) (.str b) σ=.ok (.str (a++b)) σ:=if_pos (of_decide_eq_true h)
theorem sT (h:decide (xs.length<2 ^ 40)=true):bA (.lst xs) σ=.ok (.int xs.length) σ:=if_pos (of_decide_eq_true h)
theorem XO (h:decide (xs.length<2 ^ 40)=true):bA (.tup xs) σ=.ok (.int xs.length) σ:=if_pos (of_decide_eq_true h)
theorem yS {o:List UInt8}(h:decide (o.length≤1099511627776)=true):bA (.bytes o) σ=.ok (.int o.length) σ:=if_pos (of_decide_eq_true h)
theorem Z4 {o:List UInt8}:gd (.bytes o) σ=.ok (.bytes o) σ:=.trans rfl rfl
noncomputable def NI (env:List V):Rs (List V)→Rs V
 | .ok ys σ2=>.ok (.lst ys) ⟨env,σ2.st⟩
 | _=>.no
def SL (slot k:Nat) (t:S→Rs Bool) (we:W1) (rows:List V) (σ1:S):Rs V:=if decide (rows.length≤100000)then NI σ1.env (bz slot t we rows [] ⟨List.replicate k .unb,σ1.st⟩)else .no
theorem vH (wi:S→Rs (List V)) (slot k:Nat) (t:S→Rs Bool) (we:W1):du wi slot k [] t we σ=(wi σ).bind (SL slot k t we):=by
 unfold du
 simp only[List.all_nil,if_true,Bool.true_and,List.map_nil,List.append_nil]
 cases wi σ with
 | ok rows σ1=>
  simp only[Rs.bind,SL]
  split
  ·unfold NI
   cases bz slot t we rows [] ⟨List.replicate k .unb,σ1.st⟩ <;> rfl
  ·rfl
 | exc C=>rfl
 | no=>rfl
theorem C5 (slot k:Nat) (t:S→Rs Bool) (we:W1) (h:decide (xs.length≤100000)=true):SL slot k t we xs ⟨env,st⟩=NI env (bz slot t we xs [] ⟨List.replicate k .unb,st⟩):=if_pos h
theorem Kk:NI env (.ok xs ⟨ys,st⟩)=.ok (.lst xs) ⟨env,st⟩:=.trans rfl rfl
def FC (slot:Nat) (t:S→Rs Bool) (we:W1) (xs acc:List V):Rs V→Rs (List V)
 | .ok y σ2=>bz slot t we xs (acc++[y]) σ2
 | _=>.no
def FD (slot:Nat) (t:S→Rs Bool) (we:W1) (xs acc:List V):Rs Bool→Rs (List V)
 | .ok true σ1=>FC slot t we xs acc (we σ1)
 | .ok false σ1=>bz slot t we xs acc σ1
 | _=>.no
theorem hG (slot:Nat) (t:S→Rs Bool) (we:W1) (acc:List V):bz slot t we (x::xs) acc ⟨env,st⟩=FD slot t we xs acc (t ⟨env.set slot x,st⟩):=by
 rw[bz]
 unfold FD FC
 rfl
theorem xw (slot:Nat) (t:S→Rs Bool) (we:W1) (acc:List V):FD slot t we xs acc (.ok true σ)=FC slot t we xs acc (we σ):=.trans rfl rfl
theorem NJ (slot:Nat) (t:S→Rs Bool) (we:W1) (acc:List V):FD slot t we xs acc (.ok false σ)=bz slot t we xs acc σ:=.trans rfl rfl
theorem sU (slot:Nat) (t:S→Rs Bool) (we:W1) (acc:List V):FC slot t we xs acc (.ok y σ)=bz slot t we xs (acc++[y]) σ:=.trans rfl rfl
theorem XQ (a:Bool):rB (.lst [.bool a]) σ=.ok (.bool a) σ:=by
 show Rs.ok (V.bool ([a].any id)) σ=_
 simp
theorem XR (a b c:Bool):rB (.lst [.bool a,.bool b,.bool c]) σ=.ok (.bool (a || (b || c))) σ:=by
 show Rs.ok (V.bool ([a,b,c].any id)) σ=_
 simp
def C6 (q:Nat) (tbl:List (Addr×FS)) (wa:S→Rs (List V)) (x:V) (σ:S):Rs V:=match f9 x σ with
 | some (C,fs)=>if lQ q fs then match tbl.lookup C with
  | some spec=>(wa σ).bind (kM2 spec x)
  | Option.none=>.no
  else .no
 | Option.none=>.no
theorem zG (q:Nat) (tbl:List (Addr×FS)) (wo:W1) (wa:S→Rs (List V)):oJ q tbl wo wa σ=(wo σ).bind (C6 q tbl wa):=.trans rfl rfl
theorem Mh {q:Nat}{tbl:List (Addr×FS)}{wa:S→Rs (List V)}{fs:List (Nat×V)}{s:FS}(h1:lQ q fs=true) (h2:tbl.lookup C=some s):C6 q tbl wa (.inst C fs) σ=(wa σ).bind (kM2 s (.inst C fs)):=by
 unfold C6
 rw[ow]
 dsimp only
 rw[if_pos h1,h2]
theorem zH:kU (x::xs) (y::ys)=[x,y]::kU xs ys:=.trans rfl rfl
theorem zI {k:Nat}(h:st[k]?=some (.lst xs)):cI (.loc k) ⟨env,st⟩=true:=by
 show(cY (.loc k) ⟨env,st⟩).isSome=true
 rw[show cY (.loc k) ⟨env,st⟩=some xs from by show(match st[k]? with | some (.lst xs)=>some xs | _=>Option.none)=_;rw[h]]
 rfl
theorem sV {k:Nat}(h:st[k]?=some (.lst xs)) (hl:xs.length≤100000):bx [.loc k,x] ⟨env,st⟩=.ok .none ⟨env,st.set k (.lst (xs++[x]))⟩:=by
 show dU (BF st[k]?) (fun xs=>if xs.length≤100000 then Rs.ok V.none ⟨env,st.set k (.lst (xs++[x]))⟩else .no)=_
 rw[h]
 exact if_pos hl
noncomputable def Mi:Rs Fl→Rf
 | .ok (.ret x) σ=>.ok x σ.st
 | .ok .next σ=>.ok .none σ.st
 | .ok _ _=>.no
 | .exc C=>.exc C
 | .no=>.no
theorem C7 {n k:Nat}{w:W2}(h:xs.length=n):jK n k w xs st=Mi (w ⟨xs++List.replicate k .unb,st⟩):=by
 unfold jK Mi
 rw[if_pos h]
 all_goals
  cases w ⟨xs++List.replicate k .unb,st⟩with
  | ok f σ=>cases f <;> rfl
  | exc C=>rfl
  | no=>rfl
theorem NK {spec:FS}{st1:List MO}(hl:xs.all (low 0 30)=true) (h:spec xs []=.ok x st1) (hf:frz 0 st1 30 x=some y) (st:List MO):av spec xs st=.ok y st:=by
 unfold av jL cL
 rw[if_pos hl,h]
 dsimp only[List.length_nil]
 rw[hf]
 rfl
theorem VB {spec:FS}(hl:xs.all (low 0 30)=true) (h:spec xs []=.exc C) (st:List MO):av spec xs st=.exc C:=by
 unfold av jL cL
 rw[if_pos hl,h]
theorem bc {w:W2}{g nd k:Nat}{ds:List V}{st1:List MO}(hl:xs.all (low 0 30)=true) (hg:xs.length=g) (hn:(xs++ds).length=g+nd) (h:∃ env',w ⟨(xs++ds)++List.replicate k .unb,[]⟩=.ok (.ret x) ⟨env',st1⟩) (hf:frz 0 st1 30 x=some y) (st:List MO):
  av (sp g nd k w ds) xs st=.ok y st:=by
 obtain⟨env',h⟩:=h
 exact NK (x:=x) (st1:=st1) hl (by unfold sp;rw[if_pos hg,C7 hn,h];rfl) hf st
theorem Kl {w:W2}{g nd k:Nat}{ds:List V}(hl:xs.all (low 0 30)=true) (hg:xs.length=g) (hn:(xs++ds).length=g+nd) (h:w ⟨(xs++ds)++List.replicate k .unb,[]⟩=.exc C) (st:List MO):
  av (sp g nd k w ds) xs st=.exc C:=
 VB hl (by unfold sp;rw[if_pos hg,C7 hn,h];rfl) st
theorem C8 {w:W2}{g nd k:Nat}{ds:List V}{st st1:List MO}(hg:xs.length=g) (hn:(xs++ds).length=g+nd) (h:∃ env',w ⟨(xs++ds)++List.replicate k .unb,st⟩=.ok (.ret x) ⟨env',st1⟩):
  sp g nd k w ds xs st=.ok x st1:=by
 obtain⟨env',h⟩:=h
 unfold sp
 rw[if_pos hg,C7 hn,h];rfl
theorem Iz {w:W2}{g nd k:Nat}{ds:List V}{st st1:List MO}(hg:xs.length=g) (hn:(xs++ds).length=g+nd) (h:∃ env',w ⟨(xs++ds)++List.replicate k .unb,st⟩=.ok .next ⟨env',st1⟩):
  sp g nd k w ds xs st=.ok .none st1:=by
 obtain⟨env',h⟩:=h
 unfold sp
 rw[if_pos hg,C7 hn,h];rfl
theorem aw {spec:FS}(h:av spec xs []=.ok y []) (st:List MO):av spec xs st=.ok y st:=by
 unfold av jL at h ⊢
 by_cases hl:xs.all (low 0 30)=true
 ·rw[if_pos hl]at h ⊢
  cases hf:cL spec xs []with
  | ok x st'=>
   rw[hf]at h
   cases st' with
   | nil=>dsimp only at h ⊢;cases h;rfl
   | cons a l=>cases h
  | exc C=>rw[hf]at h;cases h
  | no=>rw[hf]at h;cases h
 ·rw[if_neg hl]at h;cases h
theorem Pw {a b:String}(h:Str.ofString a=Str.ofString b):a=b:=by
 rw[Str.ofString_eq_toList,Str.ofString_eq_toList]at h
 have h2:a.toList.map Char.toNat=b.toList.map Char.toNat:=by simpa using h
 have h3:=(List.map_inj_right (f:=Char.toNat) (fun x y e=>Char.toNat_inj.mp e)).mp h2
 exact String.toList_inj.mp h3
theorem FE (a b:String):(Str.ofString a==Str.ofString b)=decide (a=b):=by
 by_cases h:a=b
 ·subst h;simp
 ·rw[decide_eq_false h,beq_eq_false_iff_ne];exact fun e=>h (Pw e)
theorem Px (a b:String):(Str.ofString a != Str.ofString b)=!decide (a=b):=by
 rw[bne,FE]
end
end
section
structure eB (o:List UInt8) (a:Nat) (w:List UInt8):Prop where
 eq:∃ post,o.drop a=w++post
 len:a+w.length≤o.length
 small:o.length≤10000
theorem xx {x y:V}{k:Int}{σ:S}{xs:List V}{j:Nat}(h:cY x σ=some xs) (h2:-(2 ^ 63)≤k∧k<2 ^ 63) (h3:seqIndex? k xs.length=some j) (h4:xs[j]?=some y):lG x (.int k) σ=.ok y σ:=by
 unfold lG
 rw[show(V.int k).un=.int k from rfl,show ∀ f:Int→Rs V,jx (.int k) f=f k from fun _=>rfl,if_pos h2,h]
 show AG xs k σ=_
 unfold AG
 rw[h3]
 show dU xs[j]? _=_
 rw[h4]
 rfl
theorem SM {b:List UInt8}{k:Int}{σ:S}(h2:-(2 ^ 63)≤k∧k<2 ^ 63) (h:0≤k∧k<b.length∧b.length≤1099511627776):lG (.bytes b) (.int k) σ=.ok (.int (b.getD k.toNat 0).toNat) σ:=by
 unfold lG
 rw[show(V.int k).un=.int k from rfl,show ∀ f:Int→Rs V,jx (.int k) f=f k from fun _=>rfl,if_pos h2]
 exact if_pos h
namespace eB
variable {o w:List UInt8}{a:Nat}{σ:S}
theorem get (W:eB o a w) {i:Nat}(hi:i<w.length):o.getD (a+i) 0=w.getD i 0:=by
 obtain⟨post,e⟩:=W.eq
 have:(o.drop a).getD i 0=w.getD i 0:=by
  rw[e,List.getD_eq_getElem?_getD,List.getElem?_append_left hi,← List.getD_eq_getElem?_getD]
 rw[← this,List.getD_eq_getElem?_getD,List.getD_eq_getElem?_getD,List.getElem?_drop]
theorem sub (W:eB o a w) (i:Nat) {k v:Int}(hk:k=a+i) (hi:i<w.length) (hv:((w.getD i 0).toNat:Int)=v) (σ:S):az (.bytes o) (.int k) σ=.ok (.int v) σ:=by
 have h:=W.get hi
 have hl:=W.len
 have hs:=W.small
 subst hk
 have h0:tC (.bytes o) σ=false:=rfl
 unfold az
 rw[if_neg (by rw[h0];decide)]
 rw[SM (by omega) (by omega),show((a:Int)+i).toNat=a+i from by omega,h,hv]
theorem clip {n:Nat}{k:Int}(h0:0≤k) (h1:k≤n):clipAt n k=k.toNat:=by
 have:=clipAt_cast n k
 rw[if_neg (by omega),Int.min_eq_left h1,Int.max_eq_right h0]at this
 omega
theorem cut (W:eB o a w) (i k:Nat) {lo hi:Int}(h1:lo=a+i) (h2:hi=a+i+k) (h:i+k≤w.length) (σ:S):iK (.bytes o) (some lo) (some hi) σ=.ok (.bytes ((w.drop i).take k)) σ:=by
 have hl:=W.len
 have hs:=W.small
 show(if o.length≤100000 then Rs.ok (V.bytes (cR o (some lo) (some hi))) σ else .no)=_
 rw[if_pos (by omega)]
 congr 2
 unfold cR
 obtain⟨post,e⟩:=W.eq
 dsimp only[Option.elim]
 rw[clip (by omega) (by omega),clip (by omega) (by omega),show lo.toNat=a+i from by omega,show hi.toNat - (a+i)=k from by omega,← List.drop_drop,e,List.drop_append_of_le_length (by omega),List.take_append_of_le_length (by rw[List.length_drop];omega)]
theorem lenE (W:eB o a w) (σ:S):bA (.bytes o) σ=.ok (.int o.length) σ:=yS (by have:=W.small;simp;omega)
theorem lt (W:eB o a w) (i:Nat) {k:Int}(hk:k=a+i) (hi:i<w.length):decide (k<(o.length:Int))=true:=by
 have:=W.len
 exact decide_eq_true (by omega)
theorem ge (W:eB o a w) (i:Nat) {k:Int}(hk:k=a+i) (hi:i<w.length):decide ((o.length:Int)≤k)=false:=by
 have:=W.len
 exact decide_eq_false (by omega)
theorem gt (W:eB o a w) (i:Nat) {k:Int}(hk:k=a+i) (hi:i≤w.length):decide ((o.length:Int)<k)=false:=by
 have:=W.len
 exact decide_eq_false (by omega)
end eB
end
section
structure Fx (p:Prop):Prop where
 mk::(p:p)
section
variable {β:Type}{σ σ1 σ2 σ3:S}{env env2:List V}{st st2:List MO}{x y z:V}{xs ys:List V}{C:Addr}{R:Rs V}{RB:Rs Bool}{RF:Rs Fl}{RL:Rs (List V)}{b b':Bool}{w l r wo:W1}{wa:S→Rs (List V)}{t tr:S→Rs Bool}
theorem NL {f:V→V→S→Rs V}(h1:l σ=.ok x σ1) (h2:r σ1=.ok y σ2) (h3:Fx (f x y σ2=R)):ag f l r σ=R:=by rw[pg,h1,bw,xo,h2,bw];exact h3.p
theorem pv {s:FS}(h1:wa σ=.ok xs ⟨env,st⟩) (h2:Fx (s xs st=.ok y st2)):aq s wa σ=.ok y ⟨env,st2⟩:=by rw[jU,h1,bw,tM,h2.p];rfl
theorem FF {s:FS}(h1:wa σ=.ok xs ⟨env,st⟩) (h2:Fx (s xs st=.exc C)):aq s wa σ=.exc C:=by rw[jU,h1,bw,tM,h2.p];rfl
theorem FG {f:List V→S→Rs V}(h1:wa σ=.ok xs σ1) (h2:Fx (f xs σ1=R)):aF f wa σ=R:=by rw[n6,h1,bw,h2.p]
theorem NM {f:V→S→Rs V}(h:Fx (f x σ=R)):one f [x] σ=R:=h.p
theorem Mj (h1:w σ=.ok x σ1) (h2:wa σ1=.ok xs σ2):ae w wa σ=.ok (x::xs) σ2:=by rw[gs,h1,bw,n7,h2];rfl
theorem SN (h1:w σ=.ok x σ1) (h2:eS x σ1=RB):tE w σ=RB:=by rw[tN,h1,bw,h2]
theorem NN {i:Int}(h1:w σ=.ok (.int i) σ1):eC w σ=.ok (.int (-i)) σ1:=by rw[Fu,h1];rfl
theorem Km {p q:W2}(h1:p σ=.exc C):af p q σ=.exc C:=by rw[eJ,h1];rfl
theorem NO (h1:w σ=.ok x σ1):ax w σ=.ok (.ret x) σ1:=by rw[gH,h1];rfl
theorem Kn (h1:w σ=.exc C):ax w σ=.exc C:=by rw[gH,h1];rfl
theorem tV {i:Nat}(h1:w σ=.ok x ⟨env,st⟩) (h2:env.set i x=env2):aG i w σ=.ok .next ⟨env2,st⟩:=by rw[pj,h1,bw,pk,h2]
theorem Ko (h1:w σ=.ok x σ1):bR w σ=.ok .next σ1:=by rw[CX,h1];rfl
theorem NP (h1:wa σ=.ok xs σ1) (h2:decide (xs.length≤100000)=true):bk wa σ=.ok (.tup xs) σ1:=by rw[tQ,h1,bw,tR h2]
theorem Kp (h1:wa σ=.ok xs σ1) (h2:decide (xs.length≤100000)=true):aY wa σ=.ok (.lst xs) σ1:=by rw[n8,h1,bw,xq h2]
theorem Kq {fs:List (V→W2)}(h1:w σ=.ok (.tup xs) σ1) (h2:decide (xs.length=fs.length)=true) (h3:kQ fs xs σ1=RF):eo w fs σ=RF:=by rw[CY,h1,bw,Kh h2,h3]
theorem NQ {f:V→W2}{fs:List (V→W2)}{u:Fl}(h1:f x σ=.ok u σ1) (h2:kQ fs xs σ1=RF):kQ (f::fs) (x::xs) σ=RF:=by rw[zE,h1,bw,Fw,h2]
theorem SO {i:Nat}(h:env.set i x=env2):aName i x ⟨env,st⟩=.ok .next ⟨env2,st⟩:=by rw[CZ,h]
theorem FH {sl:List Nat}(h1:w σ=.ok (.tup xs) ⟨env,st⟩) (h2:decide (xs.length=sl.length)=true) (h3:c5 env sl xs.reverse=env2):er w sl σ=.ok .next ⟨env2,st⟩:=by rw[n9,h1,bw,xr h2,h3]
theorem Kr {i:Nat}(h1:w σ=.ok x σ1) (h2:Fx (kA i x σ1=R)):ao i w σ=R:=by rw[C1,h1,bw,h2.p]
theorem Ks {tbl:List (Addr×FS)}(h1:wo σ=.ok x σ1) (h2:Fx (kM tbl wa x σ1=R)):bq tbl wo wa σ=R:=by rw[C2,h1,bw,h2.p]
theorem FI {q:Nat}{tbl:List (Addr×FS)}(h1:wo σ=.ok x σ1) (h2:Fx (C6 q tbl wa x σ1=R)):oJ q tbl wo wa σ=R:=by rw[zG,h1,bw,h2.p]
theorem FJ {i:Nat}(h1:w σ=.ok x σ1) (h2:wo σ1=.ok y σ2) (h3:Fx (ip i x y σ2=RF)):aQ i w wo σ=RF:=by rw[C3,h1,bw,Ki,h2,bw,h3.p]
theorem FK {ok:V→S→Bool}{f:List V→S→Rs V}(h1:wo σ=.ok x σ1) (h2:Fx (ok x σ1=true)) (h3:wa σ1=.ok xs σ2) (h4:Fx (f (x::xs) σ2=R)):bf ok f wo wa σ=R:=by rw[zF,h1,bw,Kj h2.p,h3,bw,Fy,h4.p]
theorem NR {wi:S→Rs (List (List V))}{sl:List Nat}{p:W2}{rows:List (List V)}(h1:wi σ=.ok rows σ1) (h2:kF sl p rows σ1=RF):cZ wi sl p σ=RF:=by rw[lS,h1,bw,h2]
theorem FL (h1:w σ=.ok x σ1) (h2:SG x σ1=RL):cQ w σ=RL:=by rw[jY,h1,bw,h2]
theorem FM {i:Int}(h1:w σ=.ok (.int i) σ1):cJ w σ=.ok (some i) σ1:=by rw[qj,h1];rfl
theorem NS {wl wu:S→Rs (Option Int)}{lo hi:Option Int}(h1:w σ=.ok x σ1) (h2:wl σ1=.ok lo σ2) (h3:wu σ2=.ok hi σ3) (h4:Fx (iK x lo hi σ3=R)):eE w wl wu σ=R:=by rw[tS,h1,bw,xu,h2,bw,tT,h3,bw,tU,h4.p]
theorem Kt {slot k:Nat}(h1:wa σ=.ok xs ⟨env,st⟩) (h2:decide (xs.length≤100000)=true) (h3:bz slot t w xs [] ⟨List.replicate k .unb,st⟩=.ok ys ⟨env2,st2⟩):du wa slot k [] t w σ=.ok (.lst ys) ⟨env,st2⟩:=by rw[vH,h1,bw,C5 _ _ _ _ h2,h3];rfl
theorem Ku (h1:t σ=.ok b σ1) (h2:yR tr b σ1=RB):bj t tr σ=RB:=by rw[Ft,h1,bw,h2]
theorem NT (h1:t σ=.ok b σ1) (h2:Nz tr b σ1=RB):bC t tr σ=RB:=by rw[Ke,h1,bw,h2]
theorem NU (h:b=true) (h1:t σ=RB):yR t b σ=RB:=by rw[h,Kf,h1]
theorem NV (h:b=false):yR t b σ=.ok false σ:=by rw[h,Kg]
theorem NW (h:b=false) (h1:t σ=RB):Nz t b σ=RB:=by rw[h,NA,h1]
theorem NX (h1:t σ=.ok b σ1) (h2:kI l r b σ1=R):eT t l r σ=R:=by rw[xp,h1,bw,h2]
theorem NY (h:b=true) (h1:l σ=R):kI l r b σ=R:=by rw[h,Sv,h1]
theorem NZ (h:b=false) (h1:r σ=R):kI l r b σ=R:=by rw[h,Sw,h1]
theorem N0 {p q:W2}(h1:t σ=.ok b σ1) (h2:Fv p q b σ1=RF):aI t p q σ=RF:=by rw[sP,h1,bw,h2]
theorem Kv {p q:W2}(h:b=true) (h1:p σ=RF):Fv p q b σ=RF:=by rw[h,Iu,h1]
theorem Kw {p q:W2}(h:b=false) (h1:q σ=RF):Fv p q b σ=RF:=by rw[h,Bv,h1]
theorem pw {p q:W2}{f:Fl}(h1:p σ=.ok f σ1) (h2:kS q f σ1=RF):af p q σ=RF:=by rw[eJ,h1,bw,h2]
theorem tW {q:W2}(h1:q σ=RF):kS q .next σ=RF:=h1
theorem FN {p:W2}{n m:Nat}(hn:m=n+1) (h1:t σ=.ok b σ1) (h2:Fz t p n (.ok b σ1)=RF):dp t p m σ=RF:=by rw[hn,qh,h1,h2]
theorem N3 {p:W2}{n:Nat}{f:Fl}(h:b=true) (h1:p σ=.ok f σ1) (h2:kW t p n (.ok f σ1)=RF):Fz t p n (.ok b σ)=RF:=by rw[h,Iv,h1,h2]
theorem N4 {p:W2}{n:Nat}(h:dp t p n σ=RF):kW t p n (.ok .next σ)=RF:=h
theorem Bw {sl:List Nat}{p:W2}{row:List V}{rows:List (List V)}{f:Fl}(h:decide (row.length=sl.length)=true) (h1:p ⟨c5 env sl row,st⟩=.ok f σ1) (h2:sS sl p rows (.ok f σ1)=RF):kF sl p (row::rows) ⟨env,st⟩=RF:=by rw[iE h,h1,h2]
theorem SP {i:Nat}{RV:Rs V}(h1:env[i]?=some x) (h:Fx (kN ⟨env,st⟩ (some x)=RV)):aa i ⟨env,st⟩=RV:=by rw[gr,h1,h.p]
theorem N5 {sl:List Nat}{p:W2}{xs:List V}{f:Fl}(h:decide (1=sl.length)=true) (h1:p ⟨c5 env sl [x],st⟩=.ok f σ1) (h2:sS sl p (xs.map fun x=>[x]) (.ok f σ1)=RF):kF sl p ((x::xs).map fun x=>[x]) ⟨env,st⟩=RF:=Bw h h1 h2
theorem N6 {sl:List Nat}{p:W2}{row:List V}{rows rs:List (List V)}{f:Fl}(h0:rs=row::rows) (h:decide (row.length=sl.length)=true) (h1:p ⟨c5 env sl row,st⟩=.ok f σ1) (h2:sS sl p rows (.ok f σ1)=RF):kF sl p rs ⟨env,st⟩=RF:=by rw[h0,Bw h h1 h2]
theorem N7 {sl:List Nat}{p:W2}{rows:List (List V)}(h:kF sl p rows σ=RF):sS sl p rows (.ok .next σ)=RF:=h
theorem SQ {slot:Nat}{acc:List V}(h1:t ⟨env.set slot x,st⟩=.ok b σ1) (h3:FD slot t w xs acc (.ok b σ1)=RL):bz slot t w (x::xs) acc ⟨env,st⟩=RL:=by rw[hG,h1,h3]
theorem N8 {slot:Nat}{acc:List V}(h:b=true) (h2:w σ=.ok y σ2) (h3:bz slot t w xs (acc++[y]) σ2=RL):FD slot t w xs acc (.ok b σ)=RL:=by rw[h,xw,h2,sU,h3]
theorem N9 {tbl:List (Addr×FS)}{s:FS}(h:Fx (kM tbl wa x σ=(wa σ).bind (kM2 s x))) (h3:wa σ=.ok xs ⟨env,st⟩) (h4:Fx (s (x::xs) st=.ok y st2)):kM tbl wa x σ=.ok y ⟨env,st2⟩:=by rw[h.p,h3,bw,c7,h4.p];rfl
theorem Kx {n:Nat}{tbl:List (Addr×FS)}{s:FS}(h:Fx (C6 n tbl wa x σ=(wa σ).bind (kM2 s x))) (h3:wa σ=.ok xs ⟨env,st⟩) (h4:Fx (s (x::xs) st=.ok y st2)):C6 n tbl wa x σ=.ok y ⟨env,st2⟩:=by rw[h.p,h3,bw,c7,h4.p];rfl
end
end
noncomputable def F0:V:=.inst 255 [(2,.str "jmp"),(3,.tup [.str "rel8"]),(4,.int 235),(5,.int 0),(6,.int (-1)),(7,.int 0),(8,.int 0),(9,.bool false),(10,.int 0),(11,.tup [.str "rel"])]
noncomputable def F1:V:=.inst 255 [(2,.str "jmp"),(3,.tup [.str "rel32"]),(4,.int 233),(5,.int 0),(6,.int (-1)),(7,.int 0),(8,.int 0),(9,.bool false),(10,.int 1),(11,.tup [.str "rel"])]
noncomputable def F2:V:=.inst 255 [(2,.str "jmp"),(3,.tup [.str "rm64"]),(4,.int 255),(5,.int 0),(6,.int 4),(7,.int 64),(8,.int 0),(9,.bool true),(10,.int 2),(11,.tup [.str "rm"])]
def F3:V:=.inst 255 [(2,.str "jo"),(3,.tup [.str "rel8"]),(4,.int 112),(5,.int 0),(6,.int (-1)),(7,.int 0),(8,.int 0),(9,.bool false),(10,.int 3),(11,.tup [.str "rel"])]
def F4:V:=.inst 255 [(2,.str "jo"),(3,.tup [.str "rel32"]),(4,.int 128),(5,.int 1),(6,.int (-1)),(7,.int 0),(8,.int 0),(9,.bool false),(10,.int 4),(11,.tup [.str "rel"])]
noncomputable def F5:V:=.inst 255 [(2,.str "jno"),(3,.tup [.str "rel8"]),(4,.int 113),(5,.int 0),(6,.int (-1)),(7,.int 0),(8,.int 0),(9,.bool false),(10,.int 5),(11,.tup [.str "rel"])]
noncomputable def F6:V:=.inst 255 [(2,.str "jno"),(3,.tup [.str "rel32"]),(4,.int 129),(5,.int 1),(6,.int (-1)),(7,.int 0),(8,.int 0),(9,.bool false),(10,.int 6),(11,.tup [.str "rel"])]
noncomputable def F7:V:=.inst 255 [(2,.str "jb"),(3,.tup [.str "rel8"]),(4,.int 114),(5,.int 0),(6,.int (-1)),(7,.int 0),(8,.int 0),(9,.bool false),(10,.int 7),(11,.tup [.str "rel"])]
noncomputable def F8:V:=.inst 255 [(2,.str "jb"),(3,.tup [.str "rel32"]),(4,.int 130),(5,.int 1),(6,.int (-1)),(7,.int 0),(8,.int 0),(9,.bool false),(10,.int 8),(11,.tup [.str "rel"])]
noncomputable def F9:V:=.inst 255 [(2,.str "jae"),(3,.tup [.str "rel8"]),(4,.int 115),(5,.int 0),(6,.int (-1)),(7,.int 0),(8,.int 0),(9,.bool false),(10,.int 9),(11,.tup [.str "rel"])]
noncomputable def SR:V:=.inst 255 [(2,.str "jae"),(3,.tup [.str "rel32"]),(4,.int 131),(5,.int 1),(6,.int (-1)),(7,.int 0),(8,.int 0),(9,.bool false),(10,.int 10),(11,.tup [.str "rel"])]
noncomputable def SS:V:=.inst 255 [(2,.str "je"),(3,.tup [.str "rel8"]),(4,.int 116),(5,.int 0),(6,.int (-1)),(7,.int 0),(8,.int 0),(9,.bool false),(10,.int 11),(11,.tup [.str "rel"])]
noncomputable def SU:V:=.inst 255 [(2,.str "je"),(3,.tup [.str "rel32"]),(4,.int 132),(5,.int 1),(6,.int (-1)),(7,.int 0),(8,.int 0),(9,.bool false),(10,.int 12),(11,.tup [.str "rel"])]
noncomputable def SV:V:=.inst 255 [(2,.str "jne"),(3,.tup [.str "rel8"]),(4,.int 117),(5,.int 0),(6,.int (-1)),(7,.int 0),(8,.int 0),(9,.bool false),(10,.int 13),(11,.tup [.str "rel"])]
noncomputable def SW:V:=.inst 255 [(2,.str "jne"),(3,.tup [.str "rel32"]),(4,.int 133),(5,.int 1),(6,.int (-1)),(7,.int 0),(8,.int 0),(9,.bool false),(10,.int 14),(11,.tup [.str "rel"])]
noncomputable def SX:V:=.inst 255 [(2,.str "jbe"),(3,.tup [.str "rel8"]),(4,.int 118),(5,.int 0),(6,.int (-1)),(7,.int 0),(8,.int 0),(9,.bool false),(10,.int 15),(11,.tup [.str "rel"])]
noncomputable def SY:V:=.inst 255 [(2,.str "jbe"),(3,.tup [.str "rel32"]),(4,.int 134),(5,.int 1),(6,.int (-1)),(7,.int 0),(8,.int 0),(9,.bool false),(10,.int 16),(11,.tup [.str "rel"])]
noncomputable def S0:V:=.inst 255 [(2,.str "ja"),(3,.tup [.str "rel8"]),(4,.int 119),(5,.int 0),(6,.int (-1)),(7,.int 0),(8,.int 0),(9,.bool false),(10,.int 17),(11,.tup [.str "rel"])]
noncomputable def S1:V:=.inst 255 [(2,.str "ja"),(3,.tup [.str "rel32"]),(4,.int 135),(5,.int 1),(6,.int (-1)),(7,.int 0),(8,.int 0),(9,.bool false),(10,.int 18),(11,.tup [.str "rel"])]
noncomputable def S2:V:=.inst 255 [(2,.str "js"),(3,.tup [.str "rel8"]),(4,.int 120),(5,.int 0),(6,.int (-1)),(7,.int 0),(8,.int 0),(9,.bool false),(10,.int 19),(11,.tup [.str "rel"])]
noncomputable def S3:V:=.inst 255 [(2,.str "js"),(3,.tup [.str "rel32"]),(4,.int 136),(5,.int 1),(6,.int (-1)),(7,.int 0),(8,.int 0),(9,.bool false),(10,.int 20),(11,.tup [.str "rel"])]
noncomputable def S4:V:=.inst 255 [(2,.str "jns"),(3,.tup [.str "rel8"]),(4,.int 121),(5,.int 0),(6,.int (-1)),(7,.int 0),(8,.int 0),(9,.bool false),(10,.int 21),(11,.tup [.str "rel"])]
noncomputable def S5:V:=.inst 255 [(2,.str "jns"),(3,.tup [.str "rel32"]),(4,.int 137),(5,.int 1),(6,.int (-1)),(7,.int 0),(8,.int 0),(9,.bool false),(10,.int 22),(11,.tup [.str "rel"])]
noncomputable def S6:V:=.inst 255 [(2,.str "jp"),(3,.tup [.str "rel8"]),(4,.int 122),(5,.int 0),(6,.int (-1)),(7,.int 0),(8,.int 0),(9,.bool false),(10,.int 23),(11,.tup [.str "rel"])]
noncomputable def S7:V:=.inst 255 [(2,.str "jp"),(3,.tup [.str "rel32"]),(4,.int 138),(5,.int 1),(6,.int (-1)),(7,.int 0),(8,.int 0),(9,.bool false),(10,.int 24),(11,.tup [.str "rel"])]
noncomputable def S8:V:=.inst 255 [(2,.str "jnp"),(3,.tup [.str "rel8"]),(4,.int 123),(5,.int 0),(6,.int (-1)),(7,.int 0),(8,.int 0),(9,.bool false),(10,.int 25),(11,.tup [.str "rel"])]
noncomputable def S9:V:=.inst 255 [(2,.str "jnp"),(3,.tup [.str "rel32"]),(4,.int 139),(5,.int 1),(6,.int (-1)),(7,.int 0),(8,.int 0),(9,.bool false),(10,.int 26),(11,.tup [.str "rel"])]
noncomputable def Ta:V:=.inst 255 [(2,.str "jl"),(3,.tup [.str "rel8"]),(4,.int 124),(5,.int 0),(6,.int (-1)),(7,.int 0),(8,.int 0),(9,.bool false),(10,.int 27),(11,.tup [.str "rel"])]
noncomputable def Tb:V:=.inst 255 [(2,.str "jl"),(3,.tup [.str "rel32"]),(4,.int 140),(5,.int 1),(6,.int (-1)),(7,.int 0),(8,.int 0),(9,.bool false),(10,.int 28),(11,.tup [.str "rel"])]
noncomputable def Tc:V:=.inst 255 [(2,.str "jge"),(3,.tup [.str "rel8"]),(4,.int 125),(5,.int 0),(6,.int (-1)),(7,.int 0),(8,.int 0),(9,.bool false),(10,.int 29),(11,.tup [.str "rel"])]
noncomputable def Td:V:=.inst 255 [(2,.str "jge"),(3,.tup [.str "rel32"]),(4,.int 141),(5,.int 1),(6,.int (-1)),(7,.int 0),(8,.int 0),(9,.bool false),(10,.int 30),(11,.tup [.str "rel"])]
noncomputable def Te:V:=.inst 255 [(2,.str "jle"),(3,.tup [.str "rel8"]),(4,.int 126),(5,.int 0),(6,.int (-1)),(7,.int 0),(8,.int 0),(9,.bool false),(10,.int 31),(11,.tup [.str "rel"])]
noncomputable def Tf:V:=.inst 255 [(2,.str "jle"),(3,.tup [.str "rel32"]),(4,.int 142),(5,.int 1),(6,.int (-1)),(7,.int 0),(8,.int 0),(9,.bool false),(10,.int 32),(11,.tup [.str "rel"])]
noncomputable def Tg:V:=.inst 255 [(2,.str "jg"),(3,.tup [.str "rel8"]),(4,.int 127),(5,.int 0),(6,.int (-1)),(7,.int 0),(8,.int 0),(9,.bool false),(10,.int 33),(11,.tup [.str "rel"])]
noncomputable def Th:V:=.inst 255 [(2,.str "jg"),(3,.tup [.str "rel32"]),(4,.int 143),(5,.int 1),(6,.int (-1)),(7,.int 0),(8,.int 0),(9,.bool false),(10,.int 34),(11,.tup [.str "rel"])]
noncomputable def Ti:V:=.inst 255 [(2,.str "call"),(3,.tup [.str "rel32"]),(4,.int 232),(5,.int 0),(6,.int (-1)),(7,.int 0),(8,.int 0),(9,.bool false),(10,.int 35),(11,.tup [.str "rel"])]
noncomputable def Tj:V:=.inst 255 [(2,.str "call"),(3,.tup [.str "rm64"]),(4,.int 255),(5,.int 0),(6,.int 2),(7,.int 64),(8,.int 0),(9,.bool true),(10,.int 36),(11,.tup [.str "rm"])]
noncomputable def Tn:V:=.inst 255 [(2,.str "ret"),(3,.tup []),(4,.int 195),(5,.int 0),(6,.int (-1)),(7,.int 0),(8,.int 0),(9,.bool false),(10,.int 37),(11,.tup [])]
noncomputable def To:V:=.inst 255 [(2,.str "ret"),(3,.tup [.str "uimm16"]),(4,.int 194),(5,.int 0),(6,.int (-1)),(7,.int 0),(8,.int 0),(9,.bool false),(10,.int 38),(11,.tup [.str "imm"])]
noncomputable def Tp:V:=.inst 255 [(2,.str "leave"),(3,.tup []),(4,.int 201),(5,.int 0),(6,.int (-1)),(7,.int 64),(8,.int 0),(9,.bool true),(10,.int 39),(11,.tup [])]
noncomputable def Tq:V:=.inst 255 [(2,.str "loopne"),(3,.tup [.str "rel8"]),(4,.int 224),(5,.int 0),(6,.int (-1)),(7,.int 0),(8,.int 0),(9,.bool false),(10,.int 40),(11,.tup [.str "rel"])]
noncomputable def Tr:V:=.inst 255 [(2,.str "loope"),(3,.tup [.str "rel8"]),(4,.int 225),(5,.int 0),(6,.int (-1)),(7,.int 0),(8,.int 0),(9,.bool false),(10,.int 41),(11,.tup [.str "rel"])]
noncomputable def Ts:V:=.inst 255 [(2,.str "loop"),(3,.tup [.str "rel8"]),(4,.int 226),(5,.int 0),(6,.int (-1)),(7,.int 0),(8,.int 0),(9,.bool false),(10,.int 42),(11,.tup [.str "rel"])]
noncomputable def Tt:V:=.inst 255 [(2,.str "jrcxz"),(3,.tup [.str "rel8"]),(4,.int 227),(5,.int 0),(6,.int (-1)),(7,.int 0),(8,.int 0),(9,.bool false),(10,.int 43),(11,.tup [.str "rel"])]
def Tu:V:=.inst 255 [(2,.str "sub"),(3,.tup [.str "r8",.str "rm8"]),(4,.int 42),(5,.int 0),(6,.int (-1)),(7,.int 8),(8,.int 0),(9,.bool false),(10,.int 44),(11,.tup [.str "reg",.str "rm"])]
noncomputable def uT:V:=.inst 255 [(2,.str "sub"),(3,.tup [.str "r16",.str "rm16"]),(4,.int 43),(5,.int 0),(6,.int (-1)),(7,.int 16),(8,.int 0),(9,.bool false),(10,.int 45),(11,.tup [.str "reg",.str "rm"])]
noncomputable def jH:V:=.inst 255 [(2,.str "sub"),(3,.tup [.str "r32",.str "rm32"]),(4,.int 43),(5,.int 0),(6,.int (-1)),(7,.int 32),(8,.int 0),(9,.bool false),(10,.int 46),(11,.tup [.str "reg",.str "rm"])]
noncomputable def qV:V:=.inst 255 [(2,.str "sub"),(3,.tup [.str "r64",.str "rm64"]),(4,.int 43),(5,.int 0),(6,.int (-1)),(7,.int 64),(8,.int 0),(9,.bool false),(10,.int 47),(11,.tup [.str "reg",.str "rm"])]
def VC:List V:=[F0,F1,F2,F3,F4,F5,F6,F7,F8,F9,SR,SS,SU,SV,SW,SX,SY,S0,S1,S2,S3,S4,S5,S6,S7,S8,S9,Ta,Tb,Tc,Td,Te,Tf,Tg,Th,Ti,Tj,Tn,To,Tp,Tq,Tr,Ts,Tt,Tu,uT,jH,qV]
def Z5:List (V×V):=[(.str "jmp",.lst [F0,F1,F2]),(.str "jo",.lst [F3,F4]),(.str "jno",.lst [F5,F6]),(.str "jb",.lst [F7,F8]),(.str "jae",.lst [F9,SR]),(.str "je",.lst [SS,SU]),(.str "jne",.lst [SV,SW]),(.str "jbe",.lst [SX,SY]),(.str "ja",.lst [S0,S1]),(.str "js",.lst [S2,S3]),(.str "jns",.lst [S4,S5]),(.str "jp",.lst [S6,S7]),(.str "jnp",.lst [S8,S9]),(.str "jl",.lst [Ta,Tb]),(.str "jge",.lst [Tc,Td]),(.str "jle",.lst [Te,Tf]),(.str "jg",.lst [Tg,Th]),(.str "call",.lst [Ti,Tj]),(.str "ret",.lst [Tn,To]),(.str "leave",.lst [Tp]),(.str "loopne",.lst [Tq]),(.str "loope",.lst [Tr]),(.str "loop",.lst [Ts]),(.str "jrcxz",.lst [Tt]),(.str "sub",.lst [Tu,uT,jH,qV])]
def Z6:List (V×V):=[((.tup [.int 0,.int 0,.int 235]),.lst [F0]),((.tup [.int 0,.int 0,.int 233]),.lst [F1]),((.tup [.int 0,.int 0,.int 255]),.lst [F2,Tj]),((.tup [.int 0,.int 0,.int 112]),.lst [F3]),((.tup [.int 0,.int 1,.int 128]),.lst [F4]),((.tup [.int 0,.int 0,.int 113]),.lst [F5]),((.tup [.int 0,.int 1,.int 129]),.lst [F6]),((.tup [.int 0,.int 0,.int 114]),.lst [F7]),((.tup [.int 0,.int 1,.int 130]),.lst [F8]),((.tup [.int 0,.int 0,.int 115]),.lst [F9]),((.tup [.int 0,.int 1,.int 131]),.lst [SR]),((.tup [.int 0,.int 0,.int 116]),.lst [SS]),((.tup [.int 0,.int 1,.int 132]),.lst [SU]),((.tup [.int 0,.int 0,.int 117]),.lst [SV]),((.tup [.int 0,.int 1,.int 133]),.lst [SW]),((.tup [.int 0,.int 0,.int 118]),.lst [SX]),((.tup [.int 0,.int 1,.int 134]),.lst [SY]),((.tup [.int 0,.int 0,.int 119]),.lst [S0]),((.tup [.int 0,.int 1,.int 135]),.lst [S1]),((.tup [.int 0,.int 0,.int 120]),.lst [S2]),((.tup [.int 0,.int 1,.int 136]),.lst [S3]),((.tup [.int 0,.int 0,.int 121]),.lst [S4]),((.tup [.int 0,.int 1,.int 137]),.lst [S5]),((.tup [.int 0,.int 0,.int 122]),.lst [S6]),((.tup [.int 0,.int 1,.int 138]),.lst [S7]),((.tup [.int 0,.int 0,.int 123]),.lst [S8]),((.tup [.int 0,.int 1,.int 139]),.lst [S9]),((.tup [.int 0,.int 0,.int 124]),.lst [Ta]),((.tup [.int 0,.int 1,.int 140]),.lst [Tb]),((.tup [.int 0,.int 0,.int 125]),.lst [Tc]),((.tup [.int 0,.int 1,.int 141]),.lst [Td]),((.tup [.int 0,.int 0,.int 126]),.lst [Te]),((.tup [.int 0,.int 1,.int 142]),.lst [Tf]),((.tup [.int 0,.int 0,.int 127]),.lst [Tg]),((.tup [.int 0,.int 1,.int 143]),.lst [Th]),((.tup [.int 0,.int 0,.int 232]),.lst [Ti]),((.tup [.int 0,.int 0,.int 195]),.lst [Tn]),((.tup [.int 0,.int 0,.int 194]),.lst [To]),((.tup [.int 0,.int 0,.int 201]),.lst [Tp]),((.tup [.int 0,.int 0,.int 224]),.lst [Tq]),((.tup [.int 0,.int 0,.int 225]),.lst [Tr]),((.tup [.int 0,.int 0,.int 226]),.lst [Ts]),((.tup [.int 0,.int 0,.int 227]),.lst [Tt]),((.tup [.int 0,.int 0,.int 42]),.lst [Tu]),((.tup [.int 0,.int 0,.int 43]),.lst [uT,jH,qV])]
def ISET:V:=.inst 1330 [(45,.lst VC),(46,.dct Z5),(47,.dct Z6)]
noncomputable def Tv:W1:=aq gk (ae (ag aH (ag aH (ag aH (aq iW ah) (aq iX ah)) (aq iY ah)) (aq iZ (ae (au "sub") (ae (aj 42) ah)))) ah)
def Mk (n:Nat):Rs V→Option (V×List MO×List V)
 | .ok x σ'=>match frz n σ'.st 30 x with
  | some y=>some (y,σ'.st.take n,σ'.env)
  | Option.none=>Option.none
 | _=>Option.none
theorem Py {w:W1}{σ:S}{y:V}{env':List V}(h:Mk σ.st.length (w σ)=some (y,σ.st,env')) (h1:σ.st.all (hV σ.st.length 30)=true) (h2:env'.all (low σ.st.length 30)=true):u9 w σ=.ok y ⟨env',σ.st⟩:=by
 unfold u9
 cases hw:w σ with
 | ok x σ'=>
  rw[hw]at h
  unfold Mk at h
  dsimp only at h ⊢
  cases hf:frz σ.st.length σ'.st 30 x with
  | none=>rw[hf]at h;cases h
  | some z=>
   rw[hf]at h
   simp only[Option.some.injEq,Prod.mk.injEq]at h
   obtain⟨rfl,h3,rfl⟩:=h
   dsimp only
   rw[h3,if_pos h1,if_pos h2]
 | exc C=>rw[hw]at h;cases h
 | no=>rw[hw]at h;cases h
theorem Pz (cs:List V) (sc:V):Mk 1 (Tv ⟨[sc,.loc 0,.unb,.unb,.unb,.unb,.unb,.unb,.unb,.unb],[.lst [.lst cs,.int 0,.int 0]]⟩)=some (ISET,[.lst [.lst cs,.int 0,.int 0]],[sc,.loc 0,.unb,.unb,.unb,.unb,.unb,.unb,.unb,.unb]):=by kernel_rfl
local macro_rules | `(tactic| walk_at "ev")=>do
  let x←("bw Kc Bu So gr List.getElem?_cons_zero List.getElem?_cons_succ Kd Sp CU pf Sr lR Fs CV pg xo ph jU tM n6 CW jV gs n7 m7 tN qg Ft Ke Kf Kg NA Fu Pv xp Sv Sw eJ jW m8 tO pj pk List.set_cons_zero List.set_cons_succ gH jX sP Iu Bv CX Sz tQ tR n8 xq m9 sQ List.length_cons List.length_nil CY Kh zE Fw CZ n9 xr dO fE List.reverse_cons List.reverse_nil List.nil_append List.cons_append C1 C2 C3 Ki zF Fy qh Iv NF FA lS SE iq C4 qi xt List.map_cons List.map_nil jY pq qj Iw vG tS xu tT tU vH C5 Kk hG xw NJ sU XQ XR Bool.or_true Bool.true_or Bool.false_or List.replicate_succ List.replicate_zero zG zH iE Iy NG SH SI SJ Mg SK XN sT XO Z4 FE Px decide_true decide_false Nat.zero_add Nat.reduceAdd Nat.reduceLeDiff Nat.reduceLT Nat.reducePow Nat.reduceEqDiff Int.reduceAdd Int.reduceSub Int.reduceMul Int.reduceLT Int.reduceLE Int.reduceEq Int.reduceBEq Int.reduceBNe Int.reduceNeg String.reduceEq Bool.not_true Bool.not_false Kj yS".splitOn " ").toArray.mapM fun s=>`(Lean.Parser.Tactic.simpLemma| $(Lean.mkIdent s.toName):ident)
  `(tactic| simp only[$x,*, *])
local macro_rules | `(tactic| walk_at "h")=>do
  let x←("Iy SH NG SI le_i SJ Mg ne_i eq_s SK g0 g1 g2 g3 g4 g5 g6 g7 g8 g9 g10 g11 g12 g13 g14 g15 g16 g17 g0' g0'' g1' g2' g3' g4' g5' g6' g7' g9' g6a g6b g6c hI' hx hM k6 k7 k8 hl ht h h1 h2 h3 h4 h5 h6 h7 h8 hD hX hp hs e0 e1 e2 e3 e4 e5 e6 e7 k1 k2 k3 k4 k5 f0 f1 f2 f3 f4 f5 f6 f7 r1 r2 r3 r4 r5".splitOn " ").toArray.mapM fun s=>`(Lean.Parser.Tactic.tacticSeq| apply $(Lean.mkIdent s.toName):ident)
  `(tactic| with_reducible (first | assumption $[| $x]*))
local macro_rules | `(tactic| walk_at "l")=>`(tactic| first
  | assumption
  | (walk_at "ev" <;> first | done | exact rfl))
local macro_rules | `(tactic| walk_at $s)=>do
  let k:=s.getString
  if k != "g" && k != "k" then return ← `(tactic| fail)
  let gr (x:String):=do
    let a←(x.splitOn " ").toArray.mapM fun s=>`(Lean.Parser.Tactic.tacticSeq| apply $(Lean.mkIdent s.toName):ident)
    `(Lean.Parser.Tactic.tacticSeq| (with_reducible first $[| $a]*) <;> walk_at $s)
  let si (x:String):=(x.splitOn " ").toArray.mapM gr
  let r←`(Lean.Parser.Tactic.tacticSeq| exact rfl)
  let f←`(Lean.Parser.Tactic.tacticSeq| (with_reducible apply Fx.mk) <;> first | walk_at "h" | $(← gr "NM N9 Kx") | (walk_at "ev" <;> first | done | exact rfl) | exact rfl | $(← gr "e_kM e_kML e_kMA"))
  let m←gr "tV NL Mj FG SN NO Ku NT e_tNot NX e_wAnd e_wOr e_wNot NN Ko NP Kp e_lst NQ SO FH e_rowsN FL FM NS N5 Bw N7 e_kFk SQ e_zip N4"
  let x:=#[← gr "pw",f,← gr "tW N0 Kq pv NR FN Kt FK Ks FI Kr FJ"]++(← si "Kv Kw NY NZ NU NV e_kOT NW e_kWAT e_kWAF e_kWOT e_kWOF N8 e_cgF e_kWF N3")++(if k=="g" then #[r,m]else #[m,r])++(← si "N6 SP Km e_setX Kn FF")
  `(tactic| first $[| $x]* | walk_at "l")
noncomputable def pfx (s:Str) (r:Int):V:=.inst 764 [(18,.str s),(21,.bool false),(22,.int 0),(23,.bool false),(24,.int r)]
theorem IA (st:List MO):mJ [] st=.ok (pfx "" (-1)) st:=by
 exact aw (by kernel_rfl) st
def hH (x:Int):Prop:=(∀ st,eH [.int x] st=.ok (.bool false) st)∧(∀ st,dZ [.int x] st=.ok (.str "") st)
theorem XS {o:List UInt8}{a:Nat}{v:Int}(h1:∀ st,eH [.int v] st=.ok (.bool false) st) (h2:∀ st,dZ [.int v] st=.ok (.str "") st)
   (g0:∀ (σ:S),az (V.bytes o) (V.int ↑a) σ=Rs.ok (V.int v) σ) (g1:decide ((a:Int) < ↑o.length)=true) (g2:∀ (σ:S),bA (V.bytes o) σ=Rs.ok (V.int ↑o.length) σ)
:∃ env',cv ⟨[.bytes o,.int a,.unb,.unb],[]⟩=.ok (.ret (.tup [pfx "" (-1),.int a])) ⟨env',[]⟩:=by
 have g3:=IA
 have g4:∀ σ s r,kN σ (some (pfx s r))=.ok (pfx s r) σ:=fun _ _ _=>rfl
 refine⟨?e,?h⟩
 case h=>
  unfold cv
  walk_at "k"
theorem C9 {o:List UInt8}{a:Nat}{x:UInt8}{v:Int}{w:List UInt8}(W:eB o a (x::w)) (hv:(x.toNat:Int)=v) (hp:hH v) (st:List MO):
  bp [.bytes o,.int a] st=.ok (.tup [pfx "" (-1),.int a]) st:=by
 obtain⟨h1,h2⟩:=hp
 have g0:=W.sub 0 (k:=a) (v:=v) (by omega) (by simp) hv
 have g1:=W.lt 0 (k:=a) (by omega) (by simp)
 have g2:=W.lenE
 unfold bp
 refine bc (x:=.tup [pfx "" (-1),.int a]) (st1:=[]) ?_ ?_ ?_ (XS h1 h2 g0 g1 g2) ?_ st
 all_goals rfl
section
noncomputable def WY (a:Int) (p:V) (c w r x b esc op ma mod reg rm sib disp width rest:Int):List (Nat×V):=[(29,.int a),(28,p),(30,.int c),(31,.int w),(32,.int r),(33,.int x),(34,.int b),(5,.int esc),(4,.int op),(8,.int 0),(35,.int ma),(36,.int mod),(37,.int reg),(38,.int rm),(39,.int sib),(40,.int disp),(41,.int width),(42,.int rest)]
def FR (a:Int) (p:V) (c w r x b esc op ma mod reg rm sib disp width rest:Int):MO:=.inst 869 (WY a p c w r x b esc op ma mod reg rm sib disp width rest)
theorem pz (a c:Int):iz [.int a,pfx "" (-1),.int c] []=.ok (.loc 0) [FR a (pfx "" (-1)) c 0 0 0 0 0 0 c (-1) 0 0 (-1) 0 0 c]:=by kernel_rfl
theorem PA (a c:Int):iz [.int a,pfx "" 72,.int c] []=.ok (.loc 0) [FR a (pfx "" 72) c 1 0 0 0 0 0 c (-1) 0 0 (-1) 0 0 c]:=by kernel_rfl
theorem PC (a c:Int):iz [.int a,pfx "fs" (-1),.int c] []=.ok (.loc 0) [FR a (pfx "fs" (-1)) c 0 0 0 0 0 0 c (-1) 0 0 (-1) 0 0 c]:=by kernel_rfl
section
variable {a:Int}{s:Str}{q:Int}{c w r x b esc op ma mod reg rm sib disp width rest:Int}{env:List V}
theorem Tw:kA 30 (.loc 0) ⟨env,[FR a (pfx s q) c w r x b esc op ma mod reg rm sib disp width rest]⟩=.ok (.int c) ⟨env,[FR a (pfx s q) c w r x b esc op ma mod reg rm sib disp width rest]⟩:=sR 30 0 rfl rfl rfl rfl
theorem Tx:kA 5 (.loc 0) ⟨env,[FR a (pfx s q) c w r x b esc op ma mod reg rm sib disp width rest]⟩=.ok (.int esc) ⟨env,[FR a (pfx s q) c w r x b esc op ma mod reg rm sib disp width rest]⟩:=sR 5 0 rfl rfl rfl rfl
theorem Tz:kA 4 (.loc 0) ⟨env,[FR a (pfx s q) c w r x b esc op ma mod reg rm sib disp width rest]⟩=.ok (.int op) ⟨env,[FR a (pfx s q) c w r x b esc op ma mod reg rm sib disp width rest]⟩:=sR 4 0 rfl rfl rfl rfl
theorem TA:kA 8 (.loc 0) ⟨env,[FR a (pfx s q) c w r x b esc op ma mod reg rm sib disp width rest]⟩=.ok (.int 0) ⟨env,[FR a (pfx s q) c w r x b esc op ma mod reg rm sib disp width rest]⟩:=sR 8 0 rfl rfl rfl rfl
theorem XU:kA 35 (.loc 0) ⟨env,[FR a (pfx s q) c w r x b esc op ma mod reg rm sib disp width rest]⟩=.ok (.int ma) ⟨env,[FR a (pfx s q) c w r x b esc op ma mod reg rm sib disp width rest]⟩:=sR 35 0 rfl rfl rfl rfl
theorem Z7 (v:Int):ip 5 (.int v) (.loc 0) ⟨env,[FR a (pfx s q) c w r x b esc op ma mod reg rm sib disp width rest]⟩=.ok .next ⟨env,[FR a (pfx s q) c w r x b v op ma mod reg rm sib disp width rest]⟩:=(fQ 5 0 rfl rfl).trans rfl
theorem WZ (v:Int):ip 4 (.int v) (.loc 0) ⟨env,[FR a (pfx s q) c w r x b esc op ma mod reg rm sib disp width rest]⟩=.ok .next ⟨env,[FR a (pfx s q) c w r x b esc v ma mod reg rm sib disp width rest]⟩:=(fQ 4 0 rfl rfl).trans rfl
theorem TB (v:Int):ip 35 (.int v) (.loc 0) ⟨env,[FR a (pfx s q) c w r x b esc op ma mod reg rm sib disp width rest]⟩=.ok .next ⟨env,[FR a (pfx s q) c w r x b esc op v mod reg rm sib disp width rest]⟩:=(fQ 35 0 rfl rfl).trans rfl
theorem XW (v:Int):ip 36 (.int v) (.loc 0) ⟨env,[FR a (pfx s q) c w r x b esc op ma mod reg rm sib disp width rest]⟩=.ok .next ⟨env,[FR a (pfx s q) c w r x b esc op ma v reg rm sib disp width rest]⟩:=(fQ 36 0 rfl rfl).trans rfl
theorem XX (v:Int):ip 37 (.int v) (.loc 0) ⟨env,[FR a (pfx s q) c w r x b esc op ma mod reg rm sib disp width rest]⟩=.ok .next ⟨env,[FR a (pfx s q) c w r x b esc op ma mod v rm sib disp width rest]⟩:=(fQ 37 0 rfl rfl).trans rfl
theorem XZ (v:Int):ip 38 (.int v) (.loc 0) ⟨env,[FR a (pfx s q) c w r x b esc op ma mod reg rm sib disp width rest]⟩=.ok .next ⟨env,[FR a (pfx s q) c w r x b esc op ma mod reg v sib disp width rest]⟩:=(fQ 38 0 rfl rfl).trans rfl
theorem X7 (v:Int):ip 39 (.int v) (.loc 0) ⟨env,[FR a (pfx s q) c w r x b esc op ma mod reg rm sib disp width rest]⟩=.ok .next ⟨env,[FR a (pfx s q) c w r x b esc op ma mod reg rm v disp width rest]⟩:=(fQ 39 0 rfl rfl).trans rfl
theorem X8 (v:Int):ip 40 (.int v) (.loc 0) ⟨env,[FR a (pfx s q) c w r x b esc op ma mod reg rm sib disp width rest]⟩=.ok .next ⟨env,[FR a (pfx s q) c w r x b esc op ma mod reg rm sib v width rest]⟩:=(fQ 40 0 rfl rfl).trans rfl
theorem X9 (v:Int):ip 41 (.int v) (.loc 0) ⟨env,[FR a (pfx s q) c w r x b esc op ma mod reg rm sib disp width rest]⟩=.ok .next ⟨env,[FR a (pfx s q) c w r x b esc op ma mod reg rm sib disp v rest]⟩:=(fQ 41 0 rfl rfl).trans rfl
theorem Ml (v:Int):ip 42 (.int v) (.loc 0) ⟨env,[FR a (pfx s q) c w r x b esc op ma mod reg rm sib disp width rest]⟩=.ok .next ⟨env,[FR a (pfx s q) c w r x b esc op ma mod reg rm sib disp width v]⟩:=(fQ 42 0 rfl rfl).trans rfl
theorem Mm (i:Nat) (wo:W1) (x:V) (σ:S):fW i wo x σ=(wo σ).bind (ip i x):=.trans rfl rfl
theorem FO (σ:S):gd (.lst [.int 15]) σ=.ok (.bytes [15]) σ:=.trans rfl rfl
theorem zJ {o:List UInt8}{k:Nat}{y:UInt8}{v:Int}{l:List UInt8}(W:eB o k (y::l)) (hv:(y.toNat:Int)=v) (hy:(y==15)=false):
  bK [.loc 0,.bytes o] [FR a (pfx s q) k w r x b 0 0 k mod reg rm sib disp width k]=.ok .none [FR a (pfx s q) k w r x b 0 v (k+1) mod reg rm sib disp width (k+1)]:=by
 have g0:=W.sub 0 (k:=k) (v:=v) (by omega) (by simp) hv
 have g1:=W.ge 0 (k:=k) (by omega) (by simp)
 have g2:=W.lenE
 have g3:=W.cut 0 1 (lo:=k) (hi:=k+1) (by omega) (by omega) (by simp)
 simp only[List.drop_zero,List.take_succ_cons,List.take_zero]at g3
 have g4:([y]==[(15:UInt8)])=false:=by simp only[List.cons_beq_cons,hy,Bool.false_and]
 have g5:=@FO
 have g6:=@Tw
 have g7:=@WZ
 have g8:=@TB
 have g9:=@Ml
 unfold bK
 refine Iz (xs:=[.loc 0,.bytes o]) (g:=2) (nd:=0) (ds:=[]) (k:=1) rfl rfl ⟨?e,?h⟩
 case h=>
  show cU ⟨[.loc 0,.bytes o,.unb],_⟩=_
  unfold cU
  walk_at "k"
theorem Z8 {o:List UInt8}{k:Nat}{y:UInt8}{v:Int}{l:List UInt8}(W:eB o k (15::y::l)) (hv:(y.toNat:Int)=v):
  bK [.loc 0,.bytes o] [FR a (pfx s q) k w r x b 0 0 k mod reg rm sib disp width k]=.ok .none [FR a (pfx s q) k w r x b 1 v (k+1+1) mod reg rm sib disp width (k+1+1)]:=by
 have g0:=W.sub 1 (k:=k+1) (v:=v) (by omega) (by simp) hv
 have g1:=W.ge 1 (k:=k+1) (by omega) (by simp)
 have g2:=W.lenE
 have g3:=W.cut 0 1 (lo:=k) (hi:=k+1) (by omega) (by omega) (by simp)
 simp only[List.drop_zero,List.take_succ_cons,List.take_zero]at g3
 have g4:([(15:UInt8)]==[(15:UInt8)])=true:=by decide
 have g5:=@FO
 have g6:=@Tw
 have g7:=@WZ
 have g8:=@TB
 have g9:=@Ml
 have g10:=@Z7
 unfold bK
 refine Iz (xs:=[.loc 0,.bytes o]) (g:=2) (nd:=0) (ds:=[]) (k:=1) rfl rfl ⟨?e,?h⟩
 case h=>
  show cU ⟨[.loc 0,.bytes o,.unb],_⟩=_
  unfold cU
  walk_at "k"
theorem Mn:fy [.loc 0,ISET] [FR a (pfx s q) c w r x b esc op ma mod reg rm sib disp width rest]=.ok .none [FR a (pfx s q) c w r x b esc op ma mod reg rm sib disp width rest]:=by kernel_rfl
end
end
section
theorem oa {o w:List UInt8}{a:Nat}(W:eB o a w) (i:Nat) {k v:Int}(hk:k=a+i) (hi:i<w.length) (hv:((w.getD i 0).toNat:Int)=v) (st:List MO):ek [.bytes o,.int k] st=.ok (.int v) st:=by
 have g0:=W.sub i hk hi hv
 have g1:=W.ge i hk hi
 have g2:=W.lenE
 clear hk hv
 unfold ek
 refine bc (xs:=[.bytes o,.int k]) (g:=2) (nd:=0) (ds:=[]) (k:=0) (x:=.int v) (st1:=[]) ?_ rfl rfl ⟨?e,?h⟩ ?_ st
 case h=>
  show j4 ⟨[.bytes o,.int k],_⟩=_
  unfold j4
  walk_at "g"
 all_goals kernel_rfl
theorem Z9 (st:List MO):cG [.int 5] st=.ok (.tup [.int 0,.int 0,.int 5]) st:=aw (by kernel_rfl) st
theorem VD (st:List MO):cG [.int 195] st=.ok (.tup [.int 3,.int 0,.int 3]) st:=aw (by kernel_rfl) st
theorem Yb (st:List MO):cG [.int 68] st=.ok (.tup [.int 1,.int 0,.int 4]) st:=aw (by kernel_rfl) st
theorem um4 (st:List MO):cG [.int 4] st=.ok (.tup [.int 0,.int 0,.int 4]) st:=aw (by kernel_rfl) st
theorem TC (st:List MO):cV [.int 0,.int 5,.int (-1)] st=.ok (.int 4) st:=aw (by kernel_rfl) st
theorem TF (st:List MO):cV [.int 3,.int 3,.int (-1)] st=.ok (.int 0) st:=aw (by kernel_rfl) st
theorem VE (st:List MO):cV [.int 1,.int 4,.int 36] st=.ok (.int 1) st:=aw (by kernel_rfl) st
theorem VF (st:List MO):cV [.int 0,.int 4,.int 37] st=.ok (.int 4) st:=aw (by kernel_rfl) st
noncomputable def jI (mod reg rm sib disp width rest:Int):V:=.tup [.int mod,.int reg,.int rm,.int sib,.int disp,.int width,.int rest]
theorem Ky {o l:List UInt8}{k:Nat}{d0 d1 d2 d3:UInt8}{D:Int}(W:eB o k (5::d0::d1::d2::d3::l)) (hD:∀ st,aR [.bytes [d0,d1,d2,d3]] st=.ok (.int D) st) (st:List MO):
  bO [.bytes o,.int k] st=.ok (jI 0 0 5 (-1) D 4 (k+1+4)) st:=by
 have g0:=oa W 0 (k:=k) (v:=5) (by omega) (by simp) rfl
 have g1:=Z9
 have g2:=W.lenE
 have g3:=TC
 have g4:=W.gt 5 (k:=k+1+4) (by omega) (by simp)
 have g5:=W.cut 1 4 (lo:=k+1) (hi:=k+1+4) (by omega) (by omega) (by simp)
 simp only[List.drop_succ_cons,List.drop_zero,List.take_succ_cons,List.take_zero]at g5
 unfold bO
 refine bc (xs:=[.bytes o,.int k]) (g:=2) (nd:=0) (ds:=[]) (k:=6) (x:=jI 0 0 5 (-1) D 4 (k+1+4)) (st1:=[]) ?_ rfl rfl ⟨?e,?h⟩ ?_ st
 case h=>
  show cx ⟨[.bytes o,.int k,.unb,.unb,.unb,.unb,.unb,.unb],_⟩=_
  unfold cx
  walk_at "g"
 all_goals kernel_rfl
theorem TG {o l:List UInt8}{k:Nat}(W:eB o k (195::l)) (st:List MO):
  bO [.bytes o,.int k] st=.ok (jI 3 0 3 (-1) 0 0 (k+1+0)) st:=by
 have g0:=oa W 0 (k:=k) (v:=195) (by omega) (by simp) rfl
 have g1:=VD
 have g2:=W.lenE
 have g3:=TF
 have g4:=W.gt 1 (k:=k+1+0) (by omega) (by simp)
 unfold bO
 refine bc (xs:=[.bytes o,.int k]) (g:=2) (nd:=0) (ds:=[]) (k:=6) (x:=jI 3 0 3 (-1) 0 0 (k+1+0)) (st1:=[]) ?_ rfl rfl ⟨?e,?h⟩ ?_ st
 case h=>
  show cx ⟨[.bytes o,.int k,.unb,.unb,.unb,.unb,.unb,.unb],_⟩=_
  unfold cx
  walk_at "g"
 all_goals kernel_rfl
theorem VG {o l:List UInt8}{k:Nat}{d0:UInt8}{D:Int}(W:eB o k (68::36::d0::l)) (hD:∀ st,aR [.bytes [d0]] st=.ok (.int D) st) (st:List MO):
  bO [.bytes o,.int k] st=.ok (jI 1 0 4 36 D 1 (k+1+1+1)) st:=by
 have g0:=oa W 0 (k:=k) (v:=68) (by omega) (by simp) rfl
 have g0':=oa W 1 (k:=k+1) (v:=36) (by omega) (by simp) rfl
 have g1:=Yb
 have g2:=W.lenE
 have g3:=VE
 have g4:=W.gt 3 (k:=k+1+1+1) (by omega) (by simp)
 have g5:=W.cut 2 1 (lo:=k+1+1) (hi:=k+1+1+1) (by omega) (by omega) (by simp)
 simp only[List.drop_succ_cons,List.drop_zero,List.take_succ_cons,List.take_zero]at g5
 unfold bO
 refine bc (xs:=[.bytes o,.int k]) (g:=2) (nd:=0) (ds:=[]) (k:=6) (x:=jI 1 0 4 36 D 1 (k+1+1+1)) (st1:=[]) ?_ rfl rfl ⟨?e,?h⟩ ?_ st
 case h=>
  show cx ⟨[.bytes o,.int k,.unb,.unb,.unb,.unb,.unb,.unb],_⟩=_
  unfold cx
  walk_at "g"
 all_goals kernel_rfl
theorem VH {o l:List UInt8}{k:Nat}{d0 d1 d2 d3:UInt8}{D:Int}(W:eB o k (4::37::d0::d1::d2::d3::l)) (hD:∀ st,aR [.bytes [d0,d1,d2,d3]] st=.ok (.int D) st) (st:List MO):
  bO [.bytes o,.int k] st=.ok (jI 0 0 4 37 D 4 (k+1+1+4)) st:=by
 have g0:=oa W 0 (k:=k) (v:=4) (by omega) (by simp) rfl
 have g0':=oa W 1 (k:=k+1) (v:=37) (by omega) (by simp) rfl
 have g1:=um4
 have g2:=W.lenE
 have g3:=VF
 have g4:=W.gt 6 (k:=k+1+1+4) (by omega) (by simp)
 have g5:=W.cut 2 4 (lo:=k+1+1) (hi:=k+1+1+4) (by omega) (by omega) (by simp)
 simp only[List.drop_succ_cons,List.drop_zero,List.take_succ_cons,List.take_zero]at g5
 unfold bO
 refine bc (xs:=[.bytes o,.int k]) (g:=2) (nd:=0) (ds:=[]) (k:=6) (x:=jI 0 0 4 37 D 4 (k+1+1+4)) (st1:=[]) ?_ rfl rfl ⟨?e,?h⟩ ?_ st
 case h=>
  show cx ⟨[.bytes o,.int k,.unb,.unb,.unb,.unb,.unb,.unb],_⟩=_
  unfold cx
  walk_at "g"
 all_goals kernel_rfl
section
variable {x0 x1 x2 x3 x4 x5 x6:Int}(σ:S)
theorem sb0:az (jI x0 x1 x2 x3 x4 x5 x6) (.int 0) σ=.ok (.int x0) σ:=.trans (by kernel_rfl) rfl
theorem sb1:az (jI x0 x1 x2 x3 x4 x5 x6) (.int 1) σ=.ok (.int x1) σ:=.trans (by kernel_rfl) rfl
theorem sb2:az (jI x0 x1 x2 x3 x4 x5 x6) (.int 2) σ=.ok (.int x2) σ:=.trans (by kernel_rfl) rfl
theorem sb3:az (jI x0 x1 x2 x3 x4 x5 x6) (.int 3) σ=.ok (.int x3) σ:=.trans (by kernel_rfl) rfl
theorem sb4:az (jI x0 x1 x2 x3 x4 x5 x6) (.int 4) σ=.ok (.int x4) σ:=.trans (by kernel_rfl) rfl
theorem sb5:az (jI x0 x1 x2 x3 x4 x5 x6) (.int 5) σ=.ok (.int x5) σ:=.trans (by kernel_rfl) rfl
theorem sb6:az (jI x0 x1 x2 x3 x4 x5 x6) (.int 6) σ=.ok (.int x6) σ:=.trans (by kernel_rfl) rfl
theorem TH:kN σ (some (jI x0 x1 x2 x3 x4 x5 x6))=.ok (jI x0 x1 x2 x3 x4 x5 x6) σ:=.trans rfl rfl
end
theorem xy {o:List UInt8}{a:Int}{s:Str}{q c w r x b esc op ma mod reg rm sib disp width rest mod' reg' rm' sib' disp' width' rest':Int}
  (h:∀ st,bO [.bytes o,.int ma] st=.ok (jI mod' reg' rm' sib' disp' width' rest') st):
  cW [.loc 0,.bytes o] [FR a (pfx s q) c w r x b esc op ma mod reg rm sib disp width rest]=.ok .none [FR a (pfx s q) c w r x b esc op ma mod' reg' rm' sib' disp' width' rest']:=by
 have e0:=@sb0
 have e1:=@sb1
 have e2:=@sb2
 have e3:=@sb3
 have e4:=@sb4
 have e5:=@sb5
 have e6:=@sb6
 have e7:=@TH
 have f0:=@XU
 have f1:=@XW
 have f2:=@XX
 have f3:=@XZ
 have f4:=@X7
 have f5:=@X8
 have f6:=@X9
 have f7:=@Ml
 have f8:=@Mm
 unfold cW
 refine Iz (xs:=[.loc 0,.bytes o]) (g:=2) (nd:=0) (ds:=[]) (k:=1) rfl rfl ⟨?e,?h⟩
 case h=>
  show d7 ⟨[.loc 0,.bytes o,.unb],_⟩=_
  unfold d7
  walk_at "g"
end
section
noncomputable def RFm (nm kd:Str) (op e num:Int):V:=.inst 255 [(2,.str nm),(3,.tup [.str kd]),(4,.int op),(5,.int e),(6,.int (-1)),(7,.int 0),(8,.int 0),(9,.bool false),(10,.int num),(11,.tup [.str "rel"])]
def REL (d:Int) (nm:Str):V:=.inst 421 [(12,.str "rel"),(14,.int d),(2,.str nm)]
noncomputable def INS (nm:Str) (ops:List V) (pr:Str):V:=.inst 525 [(2,.str nm),(19,.tup ops),(20,.str pr)]
noncomputable def DEC (i:V) (n:Int) (f p:V):V:=.inst 813 [(25,i),(26,.int n),(27,f),(28,p)]
def kG (a:Int) (p:V) (c w r x b esc op ma mod reg rm sib disp width rest:Int):V:=.inst 869 (WY a p c w r x b esc op ma mod reg rm sib disp width rest)
theorem dT (σ:S):kN σ (some ISET)=.ok ISET σ:=.trans rfl rfl
theorem vI (s:FS) (wa:S→Rs (List V)) (σ:S):C6 1 [(1330,s)] wa ISET σ=(wa σ).bind (kM2 s ISET):=Mh (by decide) rfl
section
variable {a:Int}{s:Str}{q:Int}{c w r x b esc op ma mod reg rm sib disp width rest:Int}{env:List V}
theorem IB (f:FS) (wa:S→Rs (List V)):kM [(869,f)] wa (.loc 0) ⟨env,[FR a (pfx s q) c w r x b esc op ma mod reg rm sib disp width rest]⟩=(wa ⟨env,[FR a (pfx s q) c w r x b esc op ma mod reg rm sib disp width rest]⟩).bind (kM2 f (.loc 0)):=SD rfl rfl rfl
end
structure br (nm kd:Str) (op e num:Int):Prop where
 at_:∀ st,s_fInstructionSet_at_4 [ISET,.int 0,.int e,.int op] st=.ok (.lst [RFm nm kd op e num]) st
 pick:∀ (a c ma rest:Int),s_fpicked_2 [.lst [RFm nm kd op e num],.loc 0] [FR a (pfx "" (-1)) c 0 0 0 0 e op ma (-1) 0 0 (-1) 0 0 rest]=.ok (RFm nm kd op e num) [FR a (pfx "" (-1)) c 0 0 0 0 e op ma (-1) 0 0 (-1) 0 0 rest]
section
variable {nm kd:Str}{op e num:Int}
theorem TJ (st:List MO):cN [RFm nm kd op e num] st=.ok (.bool false) st:=aw (by kernel_rfl) st
theorem Kz (st:List MO):jc [RFm nm kd op e num] st=.ok (.lst [.str "rel"]) st:=aw (by kernel_rfl) st
theorem yU (f:FS) (wa:S→Rs (List V)) (σ:S):kM [(255,f)] wa (RFm nm kd op e num) σ=(wa σ).bind (kM2 f (RFm nm kd op e num)):=fb (by rfl) rfl
theorem tX (σ:S):kN σ (some (RFm nm kd op e num))=.ok (RFm nm kd op e num) σ:=.trans rfl rfl
theorem Da {o:List UInt8}{a c ma:Nat}(R:br nm kd op e num) (h1:∀ st,bp [.bytes o,.int a] st=.ok (.tup [pfx "" (-1),.int c]) st)
  (h2:bK [.loc 0,.bytes o] [FR a (pfx "" (-1)) c 0 0 0 0 0 0 c (-1) 0 0 (-1) 0 0 c]=.ok .none [FR a (pfx "" (-1)) c 0 0 0 0 e op ma (-1) 0 0 (-1) 0 0 ma]) (st:List MO):
  bL [ISET,.bytes o,.int a] st=.ok (.tup [kG a (pfx "" (-1)) c 0 0 0 0 e op ma (-1) 0 0 (-1) 0 0 ma,RFm nm kd op e num]) st:=by
 have g0:=@pz
 have g1:=@Mn
 have g2:=@TA
 have g3:=@Tx
 have g4:=@Tz
 have g5:=R.at_
 have g6:=R.pick
 have g7:=@IB
 have g8:=@dT
 have g9:=@vI
 have g10:=@yU
 have g11:=@TJ
 have g12:=@tX
 have g13:∀ σ s r,kN σ (some (pfx s r))=.ok (pfx s r) σ:=fun _ _ _=>rfl
 have g14:=@c7
 clear R
 unfold bL
 refine bc (xs:=[ISET,.bytes o,.int a]) (g:=3) (nd:=0) (ds:=[]) (k:=4) (x:=.tup [.loc 0,RFm nm kd op e num]) (st1:=[FR a (pfx "" (-1)) c 0 0 0 0 e op ma (-1) 0 0 (-1) 0 0 ma]) ?_ rfl rfl ⟨?e,?h⟩ ?_ st
 case h=>
  show c9 ⟨[ISET,.bytes o,.int a,.unb,.unb,.unb,.unb],_⟩=_
  unfold c9
  walk_at "k"
 all_goals kernel_rfl
end
end
section
theorem fa1 {o w:List UInt8}{a:Nat}(W:eB o a w) (i:Nat) {k hi:Int}(hk:k=a+i) (h2:hi=a+i+1) (hl:i+1≤w.length) {d0:UInt8}(he:(w.drop i).take 1=[d0]) (st:List MO):dc [.bytes o,.int k,.int 1] st=.ok (.bytes [d0]) st:=by
 have g0:∀ σ,iK (.bytes o) (some k) (some (k+1)) σ=.ok (.bytes [d0]) σ:=fun σ=>by rw[W.cut i 1 hk (by omega) hl,he]
 have g1:((1:Nat):Int)=1:=rfl
 clear hk h2 he
 unfold dc
 refine bc (xs:=[.bytes o,.int k,.int 1]) (g:=3) (nd:=0) (ds:=[]) (k:=1) (x:=.bytes [d0]) (st1:=[]) ?_ rfl rfl ⟨?e,?h⟩ ?_ st
 case h=>
  show fP ⟨[.bytes o,.int k,.int 1,.unb],_⟩=_
  unfold fP
  walk_at "g"
 all_goals kernel_rfl
theorem W7 {o w:List UInt8}{a:Nat}(W:eB o a w) (i:Nat) {k hi:Int}(hk:k=a+i) (h2:hi=a+i+4) (hl:i+4≤w.length) {d0 d1 d2 d3:UInt8}(he:(w.drop i).take 4=[d0,d1,d2,d3]) (st:List MO):dc [.bytes o,.int k,.int 4] st=.ok (.bytes [d0,d1,d2,d3]) st:=by
 have g0:∀ σ,iK (.bytes o) (some k) (some (k+4)) σ=.ok (.bytes [d0,d1,d2,d3]) σ:=fun σ=>by rw[W.cut i 4 hk (by omega) hl,he]
 have g1:((4:Nat):Int)=4:=rfl
 clear hk h2 he
 unfold dc
 refine bc (xs:=[.bytes o,.int k,.int 4]) (g:=3) (nd:=0) (ds:=[]) (k:=1) (x:=.bytes [d0,d1,d2,d3]) (st1:=[]) ?_ rfl rfl ⟨?e,?h⟩ ?_ st
 case h=>
  show fP ⟨[.bytes o,.int k,.int 4,.unb],_⟩=_
  unfold fP
  walk_at "g"
 all_goals kernel_rfl
section
variable {nm kd:Str}{op e num:Int}{D:Int}
theorem mkRel (st:List MO):yE [.int D] st=.ok (REL D "") st:=aw (by kernel_rfl) st
theorem KB (s:Str) (σ:S):kN σ (some (REL D s))=.ok (REL D s) σ:=.trans rfl rfl
theorem KC {f:List UInt8}(hD:∀ st,aR [.bytes f] st=.ok (.int D) st) (st:List MO):dK [.str kd,.str "rel",.bytes f] st=.ok (REL D "") st:=by
 have g0:=@mkRel
 unfold dK
 refine bc (xs:=[.str kd,.str "rel",.bytes f]) (g:=3) (nd:=0) (ds:=[]) (k:=0) (x:=REL D "") (st1:=[]) ?_ rfl rfl ⟨?e,?h⟩ ?_ st
 case h=>
  show ez ⟨[.str kd,.str "rel",.bytes f],_⟩=_
  unfold ez
  walk_at "g"
 all_goals kernel_rfl
theorem Oa (σ:S):kA 3 (RFm nm kd op e num) σ=.ok (.tup [.str kd]) σ:=bU 3 _ rfl rfl rfl
theorem VI (σ:S):kA 2 (RFm nm kd op e num) σ=.ok (.str nm) σ:=bU 2 _ rfl rfl rfl
section
variable {a:Int}{s:Str}{q:Int}{c w r x b esc op ma mod reg rm sib disp width rest:Int}
theorem KD (σ:S):kA 42 (kG a (pfx s q) c w r x b esc op ma mod reg rm sib disp width rest) σ=.ok (.int rest) σ:=bU 42 _ rfl rfl rfl
theorem TK (σ:S):kA 28 (kG a (pfx s q) c w r x b esc op ma mod reg rm sib disp width rest) σ=.ok (pfx s q) σ:=bU 28 _ rfl rfl rfl
theorem Dc (σ:S):kN σ (some (kG a (pfx s q) c w r x b esc op ma mod reg rm sib disp width rest))=.ok (kG a (pfx s q) c w r x b esc op ma mod reg rm sib disp width rest) σ:=.trans rfl rfl
theorem TL (st:List MO):fZ [RFm nm kd op e num,kG a (pfx "" (-1)) c w r x b esc op ma mod reg rm sib disp width rest,.lst [REL D ""]] st=.ok .none st:=aw (by kernel_rfl) st
theorem TM (st:List MO):fC [RFm nm kd op e num,kG a (pfx "" (-1)) c w r x b esc op ma mod reg rm sib disp width rest] st=.ok (.str "") st:=aw (by kernel_rfl) st
end
theorem qW (env:List V) (xs:List V):cI (.loc 0) ⟨env,[.lst xs]⟩=true:=zI rfl
theorem uU (env:List V) (x:V):bx [.loc 0,x] ⟨env,[.lst []]⟩=.ok .none ⟨env,[.lst [x]]⟩:=(sV rfl (by simp)).trans rfl
theorem KG (env:List V) (y x:V):bx [.loc 0,x] ⟨env,[.lst [y]]⟩=.ok .none ⟨env,[.lst [y,x]]⟩:=(sV rfl (by simp)).trans rfl
theorem VJ (pr:Str):bV [.str nm,.lst [REL D ""],.str pr] []=.ok (INS nm [REL D ""] pr) []:=by kernel_rfl
theorem VK (n:Int) (s:Str) (q:Int) (st:List MO):j5 [INS nm [REL D ""] "",.int n,RFm nm kd op e num,pfx s q] st=.ok (DEC (INS nm [REL D ""] "") n (RFm nm kd op e num) (pfx s q)) st:=aw (by kernel_rfl) st
theorem fc (ops:List V) (pr:Str) (σ:S):kN σ (some (INS nm ops pr))=.ok (INS nm ops pr) σ:=.trans rfl rfl
theorem kw8 (st:List MO):fY [.str "rel8"] st=.ok (.int 1) st:=aw (by kernel_rfl) st
theorem Yc (st:List MO):fY [.str "rel32"] st=.ok (.int 4) st:=aw (by kernel_rfl) st
theorem PD {o:List UInt8}{a c ma:Int}{f:List UInt8}(hf:∀ st,dc [.bytes o,.int ma,.int 1] st=.ok (.bytes f) st) (hD:∀ st,aR [.bytes f] st=.ok (.int D) st) (st:List MO):
  b7 [RFm nm "rel8" op e num,kG a (pfx "" (-1)) c 0 0 0 0 e op ma (-1) 0 0 (-1) 0 0 ma,.bytes o] st=.ok (.tup [.lst [REL D ""],.int (ma+1)]) st:=by
 have g0:=@Oa
 have g1:=@KD
 have g2:=@Kz
 have g3:=@yU
 have g4:=@tX
 have g5:=@Dc
 have g6:=@kw8
 have g7:=fun kd=>KC (kd:=kd) hD
 have g8:=qW
 have g9:=uU
 have g10:=@c7
 unfold b7
 refine bc (xs:=[RFm nm "rel8" op e num,kG a (pfx "" (-1)) c 0 0 0 0 e op ma (-1) 0 0 (-1) 0 0 ma,.bytes o]) (g:=3) (nd:=0) (ds:=[]) (k:=5) (x:=.tup [.loc 0,.int (ma+1)]) (st1:=[.lst [REL D ""]]) ?_ rfl rfl ⟨?e,?h⟩ ?_ st
 case h=>
  show dQ ⟨[RFm nm "rel8" op e num,kG a (pfx "" (-1)) c 0 0 0 0 e op ma (-1) 0 0 (-1) 0 0 ma,.bytes o,.unb,.unb,.unb,.unb,.unb],_⟩=_
  unfold dQ
  walk_at "g"
 all_goals kernel_rfl
theorem De {o:List UInt8}{a c ma:Int}{f:List UInt8}(hf:∀ st,dc [.bytes o,.int ma,.int 4] st=.ok (.bytes f) st) (hD:∀ st,aR [.bytes f] st=.ok (.int D) st) (st:List MO):
  b7 [RFm nm "rel32" op e num,kG a (pfx "" (-1)) c 0 0 0 0 e op ma (-1) 0 0 (-1) 0 0 ma,.bytes o] st=.ok (.tup [.lst [REL D ""],.int (ma+4)]) st:=by
 have g0:=@Oa
 have g1:=@KD
 have g2:=@Kz
 have g3:=@yU
 have g4:=@tX
 have g5:=@Dc
 have g6:=@Yc
 have g7:=fun kd=>KC (kd:=kd) hD
 have g8:=qW
 have g9:=uU
 have g10:=@c7
 unfold b7
 refine bc (xs:=[RFm nm "rel32" op e num,kG a (pfx "" (-1)) c 0 0 0 0 e op ma (-1) 0 0 (-1) 0 0 ma,.bytes o]) (g:=3) (nd:=0) (ds:=[]) (k:=5) (x:=.tup [.loc 0,.int (ma+4)]) (st1:=[.lst [REL D ""]]) ?_ rfl rfl ⟨?e,?h⟩ ?_ st
 case h=>
  show dQ ⟨[RFm nm "rel32" op e num,kG a (pfx "" (-1)) c 0 0 0 0 e op ma (-1) 0 0 (-1) 0 0 ma,.bytes o,.unb,.unb,.unb,.unb,.unb],_⟩=_
  unfold dQ
  walk_at "g"
 all_goals kernel_rfl
theorem Df {o:List UInt8}{a c ma n:Int}{en:Int}(h1:∀ st,bL [ISET,.bytes o,.int a] st=.ok (.tup [kG a (pfx "" (-1)) c 0 0 0 0 e op ma (-1) 0 0 (-1) 0 0 ma,RFm nm kd op e num]) st)
  (h2:∀ st,b7 [RFm nm kd op e num,kG a (pfx "" (-1)) c 0 0 0 0 e op ma (-1) 0 0 (-1) 0 0 ma,.bytes o] st=.ok (.tup [.lst [REL D ""],.int en]) st) (hn:en - a=n) (hs:decide (15<n)=false) (st:List MO):
  bF [ISET,.bytes o,.int a] st=.ok (DEC (INS nm [REL D ""] "") n (RFm nm kd op e num) (pfx "" (-1))) st:=by
 have g0:=@TL
 have g1:=@TM
 have g2:=@VJ
 have g3:=@VK
 have g4:=@dT
 have g5:=@tX
 have g6:=@Dc
 have g7:=@fc
 have g8:=@VI
 have g9:=@TK
 unfold bF
 refine bc (xs:=[ISET,.bytes o,.int a]) (g:=3) (nd:=0) (ds:=[]) (k:=5) (x:=DEC (INS nm [REL D ""] "") n (RFm nm kd op e num) (pfx "" (-1))) (st1:=[]) ?_ rfl rfl ⟨?e,?h⟩ ?_ st
 case h=>
  show fj ⟨[ISET,.bytes o,.int a,.unb,.unb,.unb,.unb,.unb],_⟩=_
  unfold fj
  walk_at "g"
 all_goals kernel_rfl
end
end
noncomputable def aZ (nm:Str) (num size:Int) (k:Str):V:=.inst 588 [(2,.str nm),(12,.str k),(10,.int num),(7,.int size)]
noncomputable def bo (r:V):V:=.inst 346 [(12,.str "reg"),(13,r)]
noncomputable def aT (base:V) (worth size:Int) (seg nm:Str):V:=.inst 474 [(12,.str "mem"),(15,base),(16,.none),(17,.int 1),(14,.int worth),(7,.int size),(18,.str seg),(2,.str nm)]
def bH:V:=aZ "rip" 0 64 "rip"
theorem sW {o:List UInt8}{a n en:Int}{fr F p I X:V}{ops:List V}{nm:Str}
  (h1:∀ st,bL [ISET,.bytes o,.int a] st=.ok (.tup [fr,F]) st) (h2:∀ st,b7 [F,fr,.bytes o] st=.ok (.tup [.lst ops,.int en]) st)
  (hn:en - a=n) (hs:decide (15<n)=false) (h3:∀ st,fZ [F,fr,.lst ops] st=.ok .none st) (h4:∀ st,fC [F,fr] st=.ok (.str "") st)
  (h5:∀ σ,kA 2 F σ=.ok (.str nm) σ) (h6:bV [.str nm,.lst ops,.str ""] []=.ok I []) (h7:∀ σ,kA 28 fr σ=.ok p σ) (h8:∀ st,j5 [I,.int n,F,p] st=.ok X st)
  (k1:∀ σ,kN σ (some F)=.ok F σ) (k2:∀ σ,kN σ (some fr)=.ok fr σ) (k3:∀ σ,kN σ (some I)=.ok I σ) (hf:frz 0 [] 30 X=some X) (st:List MO):
  bF [ISET,.bytes o,.int a] st=.ok X st:=by
 have g4:=@dT
 unfold bF
 refine bc (xs:=[ISET,.bytes o,.int a]) (g:=3) (nd:=0) (ds:=[]) (k:=5) (x:=X) (st1:=[]) ?_ rfl rfl ⟨?e,?h⟩ hf st
 case h=>
  show fj ⟨[ISET,.bytes o,.int a,.unb,.unb,.unb,.unb,.unb],_⟩=_
  unfold fj
  walk_at "g"
 all_goals kernel_rfl
theorem Yd (st:List MO):s_fInstructionSet_at_4 [ISET,.int 0,.int 0,.int 43] st=.ok (.lst [uT,jH,qV]) st:=aw (by kernel_rfl) st
theorem FP (st:List MO):s_fInstructionSet_at_4 [ISET,.int 0,.int 0,.int 6] st=.ok (.lst []) st:=aw (by kernel_rfl) st
theorem Ye (st:List MO):cN [uT] st=.ok (.bool true) st:=aw (by kernel_rfl) st
theorem Yg (st:List MO):cN [jH] st=.ok (.bool true) st:=aw (by kernel_rfl) st
theorem Yh (st:List MO):cN [qV] st=.ok (.bool true) st:=aw (by kernel_rfl) st
theorem Yi (f:FS) (wa:S→Rs (List V)) (σ:S):kM [(255,f)] wa uT σ=(wa σ).bind (kM2 f uT):=fb (by rfl) rfl
theorem Yj (f:FS) (wa:S→Rs (List V)) (σ:S):kM [(255,f)] wa jH σ=(wa σ).bind (kM2 f jH):=fb (by rfl) rfl
theorem Yk (f:FS) (wa:S→Rs (List V)) (σ:S):kM [(255,f)] wa qV σ=(wa σ).bind (kM2 f qV):=fb (by rfl) rfl
theorem Yl (σ:S):kN σ (some uT)=.ok uT σ:=.trans rfl rfl
theorem Ym (σ:S):kN σ (some jH)=.ok jH σ:=.trans rfl rfl
theorem Yn (σ:S):kN σ (some qV)=.ok qV σ:=.trans rfl rfl
theorem sX {o:List UInt8}{a c ma w:Int}{s:Str}{q mod reg rm sib disp width rest:Int}{F:V}(h1:∀ st,bp [.bytes o,.int a] st=.ok (.tup [pfx s q,.int c]) st)
  (h0:iz [.int a,pfx s q,.int c] []=.ok (.loc 0) [FR a (pfx s q) c w 0 0 0 0 0 c (-1) 0 0 (-1) 0 0 c])
  (h2:bK [.loc 0,.bytes o] [FR a (pfx s q) c w 0 0 0 0 0 c (-1) 0 0 (-1) 0 0 c]=.ok .none [FR a (pfx s q) c w 0 0 0 0 43 ma (-1) 0 0 (-1) 0 0 ma])
  (h3:cW [.loc 0,.bytes o] [FR a (pfx s q) c w 0 0 0 0 43 ma (-1) 0 0 (-1) 0 0 ma]=.ok .none [FR a (pfx s q) c w 0 0 0 0 43 ma mod reg rm sib disp width rest])
  (h4:s_fpicked_2 [.lst [uT,jH,qV],.loc 0] [FR a (pfx s q) c w 0 0 0 0 43 ma mod reg rm sib disp width rest]=.ok F [FR a (pfx s q) c w 0 0 0 0 43 ma mod reg rm sib disp width rest])
  (hf:frz 0 [FR a (pfx s q) c w 0 0 0 0 43 ma mod reg rm sib disp width rest] 30 (.tup [.loc 0,F])=some (.tup [kG a (pfx s q) c w 0 0 0 0 43 ma mod reg rm sib disp width rest,F])) (st:List MO):
  bL [ISET,.bytes o,.int a] st=.ok (.tup [kG a (pfx s q) c w 0 0 0 0 43 ma mod reg rm sib disp width rest,F]) st:=by
 have g1:=@Mn
 have g2:=@TA
 have g3:=@Tx
 have g4:=@Tz
 have g5:=Yd
 have g7:=@IB
 have g8:=@dT
 have g9:=@vI
 have g10:=@Yi
 have g11:=@Yj
 have g12:=@Yk
 have g13:∀ σ s r,kN σ (some (pfx s r))=.ok (pfx s r) σ:=fun _ _ _=>rfl
 have g14:=@c7
 have g15:=Ye
 have g16:=Yg
 have g17:=Yh
 have g18:=@Yl
 have g19:=@Ym
 have g20:=@Yn
 unfold bL
 refine bc (xs:=[ISET,.bytes o,.int a]) (g:=3) (nd:=0) (ds:=[]) (k:=4) (x:=.tup [.loc 0,F]) (st1:=[FR a (pfx s q) c w 0 0 0 0 43 ma mod reg rm sib disp width rest]) ?_ rfl rfl ⟨?e,?h⟩ hf st
 case h=>
  show c9 ⟨[ISET,.bytes o,.int a,.unb,.unb,.unb,.unb],_⟩=_
  unfold c9
  walk_at "k"
 all_goals kernel_rfl
theorem Yo (σ:S):rB (.lst []) σ=.ok (.bool false) σ:=.trans rfl rfl
theorem pk6 {a c ma:Int}:s_fpicked_2 [.lst [],.loc 0] [FR a (pfx "" (-1)) c 0 0 0 0 0 6 ma (-1) 0 0 (-1) 0 0 ma]=.exc 83:=by kernel_rfl
theorem TN {o:List UInt8}{a c ma:Int}(h1:∀ st,bp [.bytes o,.int a] st=.ok (.tup [pfx "" (-1),.int c]) st)
  (h2:bK [.loc 0,.bytes o] [FR a (pfx "" (-1)) c 0 0 0 0 0 0 c (-1) 0 0 (-1) 0 0 c]=.ok .none [FR a (pfx "" (-1)) c 0 0 0 0 0 6 ma (-1) 0 0 (-1) 0 0 ma]) (st:List MO):
  bL [ISET,.bytes o,.int a] st=.exc 83:=by
 have g0:=@pz
 have g1:=@Mn
 have g2:=@TA
 have g3:=@Tx
 have g4:=@Tz
 have g5:=FP
 have g6:=@pk6
 have g7:=@IB
 have g8:=@dT
 have g9:=@vI
 have g13:∀ σ s r,kN σ (some (pfx s r))=.ok (pfx s r) σ:=fun _ _ _=>rfl
 have g14:=@c7
 have g15:=Yo
 unfold bL
 refine Kl (xs:=[ISET,.bytes o,.int a]) (g:=3) (nd:=0) (ds:=[]) (k:=4) ?_ rfl rfl ?h st
 case h=>
  show c9 ⟨[ISET,.bytes o,.int a,.unb,.unb,.unb,.unb],_⟩=_
  unfold c9
  walk_at "k"
 all_goals kernel_rfl
theorem TP {o:List UInt8}{a:Int}(h1:∀ st,bL [ISET,.bytes o,.int a] st=.exc 83) (st:List MO):bF [ISET,.bytes o,.int a] st=.exc 83:=by
 have g8:=@dT
 unfold bF
 refine Kl (xs:=[ISET,.bytes o,.int a]) (g:=3) (nd:=0) (ds:=[]) (k:=5) ?_ rfl rfl ?h st
 case h=>
  show fj ⟨[ISET,.bytes o,.int a,.unb,.unb,.unb,.unb,.unb],_⟩=_
  unfold fj
  walk_at "g"
 all_goals kernel_rfl
section
noncomputable def lb (d:Int) (w:Nat):List UInt8:=(List.range w).map fun(t:Nat)=>((d.fdiv (256 ^ t)).fmod 256).toNat.toUInt8
theorem lb1 (d:Int):∃ d0,lb d 1=[d0]:=⟨_,rfl⟩
theorem Ob (d:Int):∃ d0 d1 d2 d3,lb d 4=[d0,d1,d2,d3]:=⟨_,_,_,_,rfl⟩
def isInt (r:Rf) (d:Int):Bool:=match r with
 | .ok (.int x) []=>x==d
 | _=>false
theorem Dg {r:Rf}{d:Int}(h:isInt r d=true):r=.ok (.int d) []:=by
 unfold isInt at h
 split at h
 ·rw[beq_iff_eq]at h;subst h;rfl
 ·cases h
theorem KH:((List.range 101).all fun(i:Nat)=>isInt (aR [.bytes (lb ((i:Int) - 50) 4)] []) ((i:Int) - 50)&&isInt (aR [.bytes (lb ((i:Int) - 50) 1)] []) ((i:Int) - 50))=true:=by decide +kernel
theorem Oc {d:Int}(h0:-50≤d) (h1:d≤50) (st:List MO):aR [.bytes (lb d 4)] st=.ok (.int d) st:=by
 have:=List.all_eq_true.mp KH (d+50).toNat (List.mem_range.mpr (by omega))
 rw[Bool.and_eq_true,show(((d+50).toNat:Nat):Int) - 50=d from by omega]at this
 exact aw (Dg this.1) st
theorem fl1 {d:Int}(h0:-50≤d) (h1:d≤50) (st:List MO):aR [.bytes (lb d 1)] st=.ok (.int d) st:=by
 have:=List.all_eq_true.mp KH (d+50).toNat (List.mem_range.mpr (by omega))
 rw[Bool.and_eq_true,show(((d+50).toNat:Nat):Int) - 50=d from by omega]at this
 exact aw (Dg this.2) st
theorem fl8 (st:List MO):aR [.bytes [8]] st=.ok (.int 8) st:=aw (by kernel_rfl) st
theorem Yp (st:List MO):aR [.bytes [16,0,0,0]] st=.ok (.int 16) st:=aw (by kernel_rfl) st
def Reads (e:List UInt8) (X:Option (V×V×V)):Prop:=∀ o (a:Nat),eB o a e→∀ st,bF [ISET,.bytes o,.int a] st=match X with
 | some (I,F,p)=>.ok (DEC I e.length F p) st
 | Option.none=>.exc 83
theorem eB.shift {o w:List UInt8}{a:Nat}{x:UInt8}(W:eB o a (x::w)):eB o (a+1) w:=by
 obtain⟨post,e⟩:=W.eq
 refine⟨⟨post,?_⟩,by have:=W.len;simp at this;omega,W.small⟩
 rw[← List.drop_drop,e];rfl
section
variable {nm:Str}{v num:Int}{y:UInt8}{d:Int}
theorem TQ (R:br nm "rel8" v 0 num) (hp:hH v) (hv:(y.toNat:Int)=v) (hy:(y==15)=false) (h0:-50≤d) (h1:d≤50):
  Reads (y::lb d 1) (some (INS nm [REL d ""] "",RFm nm "rel8" v 0 num,pfx "" (-1))):=fun o a W st=>by
 obtain⟨d0,hd⟩:=lb1 d
 have hD:=fl1 h0 h1
 rw[hd]at W hD ⊢
 have r1:=C9 W hv hp
 have r2:=zJ (s:="") (q:=-1) (a:=a) (w:=0) (r:=0) (x:=0) (b:=0) (mod:=-1) (reg:=0) (rm:=0) (sib:=-1) (disp:=0) (width:=0) W hv hy
 have r3:=Da (ma:=a+1) R r1 r2
 have r4:=PD (nm:=nm) (op:=v) (e:=0) (num:=num) (a:=a) (c:=a) (ma:=((a+1:Nat):Int)) (fa1 W 1 (k:=((a+1:Nat):Int)) (hi:=((a+1:Nat):Int)+1) (by omega) (by omega) (by simp) rfl) hD
 exact Df r3 r4 (n:=2) (by omega) (by decide) st
theorem PE (R:br nm "rel32" v 0 num) (hp:hH v) (hv:(y.toNat:Int)=v) (hy:(y==15)=false) (h0:-50≤d) (h1:d≤50):
  Reads (y::lb d 4) (some (INS nm [REL d ""] "",RFm nm "rel32" v 0 num,pfx "" (-1))):=fun o a W st=>by
 obtain⟨d0,d1,d2,d3,hd⟩:=Ob d
 have hD:=Oc h0 h1
 rw[hd]at W hD ⊢
 have r1:=C9 W hv hp
 have r2:=zJ (s:="") (q:=-1) (a:=a) (w:=0) (r:=0) (x:=0) (b:=0) (mod:=-1) (reg:=0) (rm:=0) (sib:=-1) (disp:=0) (width:=0) W hv hy
 have r3:=Da (ma:=a+1) R r1 r2
 have r4:=De (nm:=nm) (op:=v) (e:=0) (num:=num) (a:=a) (c:=a) (ma:=((a+1:Nat):Int)) (W7 W 1 (k:=((a+1:Nat):Int)) (hi:=((a+1:Nat):Int)+4) (by omega) (by omega) (by simp) rfl) hD
 exact Df r3 r4 (n:=5) (by omega) (by decide) st
theorem Yq:hH 15:=⟨fun st=>aw (by kernel_rfl) st,fun st=>aw (by kernel_rfl) st⟩
theorem PF (R:br nm "rel32" v 1 num) (hv:(y.toNat:Int)=v) (h0:-50≤d) (h1:d≤50):
  Reads (15::y::lb d 4) (some (INS nm [REL d ""] "",RFm nm "rel32" v 1 num,pfx "" (-1))):=fun o a W st=>by
 obtain⟨d0,d1,d2,d3,hd⟩:=Ob d
 have hD:=Oc h0 h1
 rw[hd]at W hD ⊢
 have r1:=C9 (v:=15) W rfl Yq
 have r2:=Z8 (s:="") (q:=-1) (a:=a) (w:=0) (r:=0) (x:=0) (b:=0) (mod:=-1) (reg:=0) (rm:=0) (sib:=-1) (disp:=0) (width:=0) W hv
 have r3:=Da (ma:=a+1+1) R r1 r2
 have r4:=De (nm:=nm) (op:=v) (e:=1) (num:=num) (a:=a) (c:=a) (ma:=((a+1+1:Nat):Int)) (W7 W 2 (k:=((a+1+1:Nat):Int)) (hi:=((a+1+1:Nat):Int)+4) (by omega) (by omega) (by simp) rfl) hD
 exact Df r3 r4 (n:=6) (by omega) (by decide) st
end
theorem TR:Reads [6] Option.none:=fun o a W st=>by
 have r1:=C9 (v:=6) W rfl ⟨fun st=>aw (by kernel_rfl) st,fun st=>aw (by kernel_rfl) st⟩
 have r2:=zJ (s:="") (q:=-1) (a:=a) (w:=0) (r:=0) (x:=0) (b:=0) (mod:=-1) (reg:=0) (rm:=0) (sib:=-1) (disp:=0) (width:=0) (v:=6) W rfl (by decide)
 exact TP (TN r1 r2) st
end
theorem VL (st:List MO):eH [.int 72] st=.ok (.bool true) st:=aw (by kernel_rfl) st
theorem TS (st:List MO):eH [.int 100] st=.ok (.bool false) st:=aw (by kernel_rfl) st
theorem VM (st:List MO):dZ [.int 100] st=.ok (.str "segment") st:=aw (by kernel_rfl) st
theorem W8 (st:List MO):dw [pfx "" (-1)] st=.ok (.bool false) st:=aw (by kernel_rfl) st
theorem Yr (st:List MO):lg [pfx "" (-1),.int 72] st=.ok (pfx "" 72) st:=aw (by kernel_rfl) st
theorem VN (st:List MO):ik [pfx "" (-1),.int 100] st=.ok (pfx "fs" (-1)) st:=aw (by kernel_rfl) st
theorem TT (f:FS) (wa:S→Rs (List V)) (s:Str) (r:Int) (σ:S):kM [(764,f)] wa (pfx s r) σ=(wa σ).bind (kM2 f (pfx s r)):=fb (by rfl) rfl
theorem rpx {o:List UInt8}{a:Nat}{y:UInt8}{v:Int}{w:List UInt8}(W:eB o a (72::y::w)) (hv:(y.toNat:Int)=v) (hp:hH v) (st:List MO):
  bp [.bytes o,.int a] st=.ok (.tup [pfx "" 72,.int (a+1)]) st:=by
 obtain⟨h1,h2⟩:=hp
 have g0:=W.sub 0 (k:=a) (v:=72) (by omega) (by simp) rfl
 have g0':=W.sub 1 (k:=a+1) (v:=v) (by omega) (by simp) hv
 have g1:=W.lt 0 (k:=a) (by omega) (by simp)
 have g1':=W.lt 1 (k:=a+1) (by omega) (by simp)
 have g2:=W.lenE
 have g3:=IA
 have g4:∀ σ s r,kN σ (some (pfx s r))=.ok (pfx s r) σ:=fun _ _ _=>rfl
 have g5:=VL
 have g6:=W8
 have g7:=Yr
 have g8:=TT
 have g9:=@c7
 clear hv
 unfold bp
 refine bc (x:=.tup [pfx "" 72,.int (a+1)]) (st1:=[]) ?_ ?_ ?_ ⟨?e,?h⟩ ?_ st
 case h=>
  show cv ⟨[.bytes o,.int a,.unb,.unb],[]⟩=_
  unfold cv
  walk_at "k"
 all_goals rfl
theorem rpf {o:List UInt8}{a:Nat}{y:UInt8}{v:Int}{w:List UInt8}(W:eB o a (100::y::w)) (hv:(y.toNat:Int)=v) (hp:hH v) (st:List MO):
  bp [.bytes o,.int a] st=.ok (.tup [pfx "fs" (-1),.int (a+1)]) st:=by
 obtain⟨h1,h2⟩:=hp
 have g0:=W.sub 0 (k:=a) (v:=100) (by omega) (by simp) rfl
 have g0':=W.sub 1 (k:=a+1) (v:=v) (by omega) (by simp) hv
 have g1:=W.lt 0 (k:=a) (by omega) (by simp)
 have g1':=W.lt 1 (k:=a+1) (by omega) (by simp)
 have g2:=W.lenE
 have g3:=IA
 have g4:∀ σ s r,kN σ (some (pfx s r))=.ok (pfx s r) σ:=fun _ _ _=>rfl
 have g5:=TS
 have g6:=VM
 have g7:=VN
 clear hv
 unfold bp
 refine bc (x:=.tup [pfx "fs" (-1),.int (a+1)]) (st1:=[]) ?_ ?_ ?_ ⟨?e,?h⟩ ?_ st
 case h=>
  show cv ⟨[.bytes o,.int a,.unb,.unb],[]⟩=_
  unfold cv
  walk_at "k"
 all_goals rfl
theorem Dh:hH 43:=⟨fun st=>aw (by kernel_rfl) st,fun st=>aw (by kernel_rfl) st⟩
def KJ:V:=bo (aZ "rax" 0 64 "gpr")
def gu:V:=bo (aZ "eax" 0 32 "gpr")
def Di:V:=bo (aZ "ebx" 3 32 "gpr")
def xA:V:=aZ "rsp" 4 64 "gpr"
theorem PG {d:Int}(h0:-50≤d) (h1:d≤50):Reads (72::43::5::lb d 4) (some (INS "sub" [KJ,aT bH d 64 "" ""] "",qV,pfx "" 72)):=fun o a W st=>by
 obtain⟨d0,d1,d2,d3,hd⟩:=Ob d
 have hD:=Oc h0 h1
 rw[hd]at W hD ⊢
 have r1:=rpx W (v:=43) rfl Dh
 have r2:=zJ (s:="") (q:=72) (a:=a) (w:=1) (r:=0) (x:=0) (b:=0) (mod:=-1) (reg:=0) (rm:=0) (sib:=-1) (disp:=0) (width:=0) (v:=43) W.shift rfl (by decide)
 have r3:=xy (s:="") (q:=72) (a:=a) (c:=((a+1:Nat):Int)) (w:=1) (r:=0) (x:=0) (b:=0) (esc:=0) (op:=43) (mod:=-1) (reg:=0) (rm:=0) (sib:=-1) (disp:=0) (width:=0) (rest:=((a+1:Nat):Int)+1) (Ky W.shift.shift hD)
 have r4:=sX (F:=qV) (h1:=r1) (PA a (a+1)) r2 r3 (by kernel_rfl) (by kernel_rfl)
 refine sW (n:=7) (nm:="sub") (p:=pfx "" 72) (I:=INS "sub" [KJ,aT bH d 64 "" ""] "") (ops:=[KJ,aT bH d 64 "" ""]) (en:=((a+1+1:Nat):Int)+1+4) r4 (fun st=>aw (by kernel_rfl) st) (by omega) (by decide) (fun st=>aw (by kernel_rfl) st) (fun st=>aw (by kernel_rfl) st) (fun σ=>rfl) (by kernel_rfl) (fun σ=>rfl) (fun st=>aw (by kernel_rfl) st) (fun σ=>rfl) (fun σ=>rfl) (fun σ=>rfl) (by kernel_rfl) st
theorem PH {d:Int}(h0:-50≤d) (h1:d≤50):Reads (100::43::5::lb d 4) (some (INS "sub" [gu,aT bH d 32 "fs" ""] "",jH,pfx "fs" (-1))):=fun o a W st=>by
 obtain⟨d0,d1,d2,d3,hd⟩:=Ob d
 have hD:=Oc h0 h1
 rw[hd]at W hD ⊢
 have r1:=rpf W (v:=43) rfl Dh
 have r2:=zJ (s:="fs") (q:=-1) (a:=a) (w:=0) (r:=0) (x:=0) (b:=0) (mod:=-1) (reg:=0) (rm:=0) (sib:=-1) (disp:=0) (width:=0) (v:=43) W.shift rfl (by decide)
 have r3:=xy (s:="fs") (q:=-1) (a:=a) (c:=((a+1:Nat):Int)) (w:=0) (r:=0) (x:=0) (b:=0) (esc:=0) (op:=43) (mod:=-1) (reg:=0) (rm:=0) (sib:=-1) (disp:=0) (width:=0) (rest:=((a+1:Nat):Int)+1) (Ky W.shift.shift hD)
 have r4:=sX (F:=jH) (h1:=r1) (PC a (a+1)) r2 r3 (by kernel_rfl) (by kernel_rfl)
 refine sW (n:=7) (nm:="sub") (p:=pfx "fs" (-1)) (I:=INS "sub" [gu,aT bH d 32 "fs" ""] "") (ops:=[gu,aT bH d 32 "fs" ""]) (en:=((a+1+1:Nat):Int)+1+4) r4 (fun st=>aw (by kernel_rfl) st) (by omega) (by decide) (fun st=>aw (by kernel_rfl) st) (fun st=>aw (by kernel_rfl) st) (fun σ=>rfl) (by kernel_rfl) (fun σ=>rfl) (fun st=>aw (by kernel_rfl) st) (fun σ=>rfl) (fun σ=>rfl) (fun σ=>rfl) (by kernel_rfl) st
theorem Mo:Reads ([43,195]) (some (INS "sub" [gu,Di] "",jH,pfx "" (-1))):=fun o a W st=>by
 have r1:=C9 W (v:=43) rfl Dh
 have r2:=zJ (s:="") (q:=-1) (a:=a) (w:=0) (r:=0) (x:=0) (b:=0) (mod:=-1) (reg:=0) (rm:=0) (sib:=-1) (disp:=0) (width:=0) (v:=43) W rfl (by decide)
 have r3:=xy (s:="") (q:=-1) (a:=a) (c:=((a:Nat):Int)) (w:=0) (r:=0) (x:=0) (b:=0) (esc:=0) (op:=43) (mod:=-1) (reg:=0) (rm:=0) (sib:=-1) (disp:=0) (width:=0) (rest:=((a:Nat):Int)+1) (TG W.shift)
 have r4:=sX (F:=jH) (h1:=r1) (pz a a) r2 r3 (by kernel_rfl) (by kernel_rfl)
 refine sW (n:=2) (nm:="sub") (p:=pfx "" (-1)) (I:=INS "sub" [gu,Di] "") (ops:=[gu,Di]) (en:=((a+1:Nat):Int)+1+0) r4 (fun st=>aw (by kernel_rfl) st) (by omega) (by decide) (fun st=>aw (by kernel_rfl) st) (fun st=>aw (by kernel_rfl) st) (fun σ=>rfl) (by kernel_rfl) (fun σ=>rfl) (fun st=>aw (by kernel_rfl) st) (fun σ=>rfl) (fun σ=>rfl) (fun σ=>rfl) (by kernel_rfl) st
theorem Mp:Reads ([43,68,36,8]) (some (INS "sub" [gu,aT xA 8 32 "" ""] "",jH,pfx "" (-1))):=fun o a W st=>by
 have r1:=C9 W (v:=43) rfl Dh
 have r2:=zJ (s:="") (q:=-1) (a:=a) (w:=0) (r:=0) (x:=0) (b:=0) (mod:=-1) (reg:=0) (rm:=0) (sib:=-1) (disp:=0) (width:=0) (v:=43) W rfl (by decide)
 have r3:=xy (s:="") (q:=-1) (a:=a) (c:=((a:Nat):Int)) (w:=0) (r:=0) (x:=0) (b:=0) (esc:=0) (op:=43) (mod:=-1) (reg:=0) (rm:=0) (sib:=-1) (disp:=0) (width:=0) (rest:=((a:Nat):Int)+1) (VG W.shift fl8)
 have r4:=sX (F:=jH) (h1:=r1) (pz a a) r2 r3 (by kernel_rfl) (by kernel_rfl)
 refine sW (n:=4) (nm:="sub") (p:=pfx "" (-1)) (I:=INS "sub" [gu,aT xA 8 32 "" ""] "") (ops:=[gu,aT xA 8 32 "" ""]) (en:=((a+1:Nat):Int)+1+1+1) r4 (fun st=>aw (by kernel_rfl) st) (by omega) (by decide) (fun st=>aw (by kernel_rfl) st) (fun st=>aw (by kernel_rfl) st) (fun σ=>rfl) (by kernel_rfl) (fun σ=>rfl) (fun st=>aw (by kernel_rfl) st) (fun σ=>rfl) (fun σ=>rfl) (fun σ=>rfl) (by kernel_rfl) st
theorem Mq:Reads ([43,4,37,16,0,0,0]) (some (INS "sub" [gu,aT .none 16 32 "" ""] "",jH,pfx "" (-1))):=fun o a W st=>by
 have r1:=C9 W (v:=43) rfl Dh
 have r2:=zJ (s:="") (q:=-1) (a:=a) (w:=0) (r:=0) (x:=0) (b:=0) (mod:=-1) (reg:=0) (rm:=0) (sib:=-1) (disp:=0) (width:=0) (v:=43) W rfl (by decide)
 have r3:=xy (s:="") (q:=-1) (a:=a) (c:=((a:Nat):Int)) (w:=0) (r:=0) (x:=0) (b:=0) (esc:=0) (op:=43) (mod:=-1) (reg:=0) (rm:=0) (sib:=-1) (disp:=0) (width:=0) (rest:=((a:Nat):Int)+1) (VH W.shift Yp)
 have r4:=sX (F:=jH) (h1:=r1) (pz a a) r2 r3 (by kernel_rfl) (by kernel_rfl)
 refine sW (n:=7) (nm:="sub") (p:=pfx "" (-1)) (I:=INS "sub" [gu,aT .none 16 32 "" ""] "") (ops:=[gu,aT .none 16 32 "" ""]) (en:=((a+1:Nat):Int)+1+1+4) r4 (fun st=>aw (by kernel_rfl) st) (by omega) (by decide) (fun st=>aw (by kernel_rfl) st) (fun st=>aw (by kernel_rfl) st) (fun σ=>rfl) (by kernel_rfl) (fun σ=>rfl) (fun st=>aw (by kernel_rfl) st) (fun σ=>rfl) (fun σ=>rfl) (fun σ=>rfl) (by kernel_rfl) st
def isStr (r:Rf):Bool:=match r with
 | .ok (.str t) []=>decide (t.length≤60)
 | _=>false
theorem Dj {spec:FS}{xs:List V}(h:isStr (av spec xs [])=true):∃ t:Str,t.length≤60∧∀ st,av spec xs st=.ok (.str t) st:=by
 generalize hr:av spec xs []=r at h
 unfold isStr at h
 split at h
 ·exact⟨_,of_decide_eq_true h,fun st=>aw hr st⟩
 ·cases h
def d9 (X:V):Prop:=(∃ t:Str,t.length≤60∧∀ st,cS [X] st=.ok (.str t) st)∧∃ t:Str,t.length≤60∧∀ st,cw [X] st=.ok (.str t) st
noncomputable def sY (X:V):Bool:=isStr (cS [X] [])&&isStr (cw [X] [])
theorem gv {X:V}(h:sY X=true):d9 X:=by
 unfold sY at h
 rw[Bool.and_eq_true]at h
 exact⟨Dj h.1,Dj h.2⟩
theorem PI:((List.range 65).all fun(i:Nat)=>sY (REL ((i:Int) - 32) "")&&sY (aT bH ((i:Int) - 32) 64 "" "")&&sY (aT bH ((i:Int) - 32) 32 "fs" ""))=true:=by decide +kernel
theorem Dk {d:Int}(h0:-32≤d) (h1:d≤32):d9 (REL d "")∧d9 (aT bH d 64 "" "")∧d9 (aT bH d 32 "fs" ""):=by
 have:=List.all_eq_true.mp PI (d+32).toNat (List.mem_range.mpr (by omega))
 rw[show(((d+32).toNat:Nat):Int) - 32=d from by omega,Bool.and_eq_true,Bool.and_eq_true]at this
 exact⟨gv this.1.1,gv this.1.2,gv this.2⟩
def NMS:List Str:=["main","end_1","b.2","a"]
theorem PJ:(NMS.all fun x=>sY (REL 0 x)&&sY (aT bH 0 64 "" x)&&sY (aT bH 0 32 "fs" x))=true:=by decide +kernel
theorem Dl {x:Str}(h:x∈NMS):d9 (REL 0 x)∧d9 (aT bH 0 64 "" x)∧d9 (aT bH 0 32 "fs" x):=by
 have:=List.all_eq_true.mp PJ x h
 rw[Bool.and_eq_true,Bool.and_eq_true]at this
 exact⟨gv this.1.1,gv this.1.2,gv this.2⟩
theorem zK:d9 KJ∧d9 gu∧d9 Di∧d9 (aT xA 8 32 "" "")∧d9 (aT .none 16 32 "" ""):=
 ⟨gv (by decide +kernel),gv (by decide +kernel),gv (by decide +kernel),gv (by decide +kernel),gv (by decide +kernel)⟩
section
section
variable {nm m sep j t u:Str}{ops:List V}{T X Y:V}{st:List MO}{n:Int}{σ:S}{env:List V}
theorem sZ (pr:Str):kA 20 (INS m ops pr) σ=.ok (.str pr) σ:=bU 20 _ rfl rfl rfl
theorem hO (pr:Str):kA 19 (INS m ops pr) σ=.ok (.tup ops) σ:=bU 19 _ rfl rfl rfl
theorem tY (pr:Str):kA 2 (INS m ops pr) σ=.ok (.str m) σ:=bU 2 _ rfl rfl rfl
theorem okS:fm (.str t) σ=true:=rfl
theorem Bx (hl:∀ env,bA T ⟨env,st⟩=.ok (.int n) ⟨env,st⟩) (hn:(n==0)=false) (hj:∀ env,lI [.str sep,T] ⟨env,st⟩=.ok (.str j) ⟨env,st⟩) (h1:decide (nm.length+Str.length " "≤100000)=true)
  (h2:decide ((nm++" ").length+j.length≤100000)=true) (kT:∀ σ,kN σ (some T)=.ok T σ):bQ [INS m ops "",.str nm,T,.str sep] st=.ok (.str (nm++" "++j)) st:=by
 have g0:=@sZ
 have g1:=@fc
 have g2:=@okS
 have g3:=@NH
 unfold bQ
 refine C8 (xs:=[INS m ops "",.str nm,T,.str sep]) (g:=4) (nd:=0) (ds:=[]) (k:=1) rfl rfl ⟨?e,?h⟩
 case h=>
  show gD ⟨[INS m ops "",.str nm,T,.str sep,.unb],st⟩=_
  unfold gD
  walk_at "ev"
  rfl
theorem Od:Txt.join sep [t]=t:=rfl
theorem Oe:Txt.join sep [t,u]=t++sep++u:=rfl
theorem jl1:lI [.str sep,.lst [.str t]] ⟨env,st⟩=if t.length+sep.length≤16777216 then .ok (.str t) ⟨env,st⟩else .no:=by
 show(if([t].map (·.length)).sum+[t].length * sep.length≤16777216 then Rs.ok (V.str (Txt.join sep [t])) _ else .no)=_
 simp[Od]
theorem jl2:lI [.str sep,.lst [.str t,.str u]] ⟨env,st⟩=if t.length+u.length+2 * sep.length≤16777216 then .ok (.str (t++sep++u)) ⟨env,st⟩else .no:=by
 show(if([t,u].map (·.length)).sum+[t,u].length * sep.length≤16777216 then Rs.ok (V.str (Txt.join sep [t,u])) _ else .no)=_
 simp[Oe]
theorem jo1:lI [.str sep,.loc 0] ⟨env,[.lst [.str t]]⟩=if t.length+sep.length≤16777216 then .ok (.str t) ⟨env,[.lst [.str t]]⟩else .no:=by
 show(if([t].map (·.length)).sum+[t].length * sep.length≤16777216 then Rs.ok (V.str (Txt.join sep [t])) _ else .no)=_
 simp[Od]
theorem jo2:lI [.str sep,.loc 0] ⟨env,[.lst [.str t,.str u]]⟩=if t.length+u.length+2 * sep.length≤16777216 then .ok (.str (t++sep++u)) ⟨env,[.lst [.str t,.str u]]⟩else .no:=by
 show(if([t,u].map (·.length)).sum+[t,u].length * sep.length≤16777216 then Rs.ok (V.str (Txt.join sep [t,u])) _ else .no)=_
 simp[Oe]
theorem kH:Str.length " "=1:=by decide +kernel
theorem Of:Str.length ","=1:=by decide +kernel
theorem KM:Str.length ", "=2:=by decide +kernel
theorem wp1 (h1:nm.length≤100) (h2:t.length≤1000) (h3:sep.length≤2):bQ [INS m ops "",.str nm,.lst [.str t],.str sep] st=.ok (.str (nm++" "++t)) st:=
 Bx (n:=1) (fun env=>sT (by simp)) (by decide) (fun env=>by rw[jl1,if_pos (by omega)]) (decide_eq_true (by rw[kH];omega)) (decide_eq_true (by rw[Str.length_append,kH];omega)) fun σ=>rfl
theorem wp2 (h1:nm.length≤100) (h2:t.length≤1000) (h2':u.length≤1000) (h3:sep.length≤2):bQ [INS m ops "",.str nm,.lst [.str t,.str u],.str sep] st=.ok (.str (nm++" "++(t++sep++u))) st:=
 Bx (n:=2) (fun env=>sT (by simp)) (by decide) (fun env=>by rw[jl2,if_pos (by omega)]) (decide_eq_true (by rw[kH];omega)) (decide_eq_true (by rw[Str.length_append,Str.length_append,Str.length_append,kH];omega)) fun σ=>rfl
theorem Ys (h1:nm.length≤100) (h2:t.length≤1000) (h3:sep.length≤2):bQ [INS m ops "",.str nm,.loc 0,.str sep] [.lst [.str t]]=.ok (.str (nm++" "++t)) [.lst [.str t]]:=
 Bx (n:=1) (fun env=>rfl) (by decide) (fun env=>by rw[jo1,if_pos (by omega)]) (decide_eq_true (by rw[kH];omega)) (decide_eq_true (by rw[Str.length_append,kH];omega)) fun σ=>rfl
theorem Yt (h1:nm.length≤100) (h2:t.length≤1000) (h2':u.length≤1000) (h3:sep.length≤2):bQ [INS m ops "",.str nm,.loc 0,.str sep] [.lst [.str t,.str u]]=.ok (.str (nm++" "++(t++sep++u))) [.lst [.str t,.str u]]:=
 Bx (n:=2) (fun env=>rfl) (by decide) (fun env=>by rw[jo2,if_pos (by omega)]) (decide_eq_true (by rw[kH];omega)) (decide_eq_true (by rw[Str.length_append,Str.length_append,Str.length_append,kH];omega)) fun σ=>rfl
theorem qk (wa:S→Rs (List V)):eV wa σ=(wa σ).bind kR:=.trans rfl rfl
theorem W9 (a b c:Int):kR [.int a,.int b,.int c] σ=gc a b c σ:=.trans rfl rfl
theorem kR1 (n:Int):kR [.int n] σ=gc 0 n 1 σ:=.trans rfl rfl
theorem rg0:gc 0 (-1) (-1) σ=.ok [.int 0] σ:=.trans (by kernel_rfl) rfl
theorem rg1:gc 1 (-1) (-1) σ=.ok [.int 1,.int 0] σ:=.trans (by kernel_rfl) rfl
theorem Yu:az (.tup [X]) (.int 0) σ=.ok X σ:=.trans (by kernel_rfl) rfl
theorem Yv:az (.tup [X,Y]) (.int 0) σ=.ok X σ:=.trans (by kernel_rfl) rfl
theorem Yw:az (.tup [X,Y]) (.int 1) σ=.ok Y σ:=.trans (by kernel_rfl) rfl
theorem VO:frz 0 [.lst [.str t]] 30 (.loc 0)=some (.lst [.str t]):=by kernel_rfl
theorem VP:frz 0 [.lst [.str t,.str u]] 30 (.loc 0)=some (.lst [.str t,.str u]):=by kernel_rfl
theorem ta1 (hl:[INS m [X] ""].all (low 0 30)=true) (hX:∀ st,cS [X] st=.ok (.str t) st) (ht:∀ st,s_fis_target_1 [INS m [X] ""] st=.ok (.bool false) st) (st:List MO):dj [INS m [X] ""] st=.ok (.lst [.str t]) st:=by
 have g0:=@hO
 have g1:=@fc
 have g2:=@qk
 have g3:=@W9
 have g4:=@rg0
 have g5:=@Yu
 have g6:=qW
 have g7:=uU
 have g8:((1:Nat):Int)=1:=rfl
 unfold dj
 refine bc (xs:=[INS m [X] ""]) (g:=1) (nd:=0) (ds:=[]) (k:=3) (x:=.loc 0) (st1:=[.lst [.str t]]) hl rfl rfl ⟨?e,?h⟩ VO st
 case h=>
  show e9 ⟨[INS m [X] "",.unb,.unb,.unb],[]⟩=_
  unfold e9
  walk_at "ev"
  rfl
theorem ta2 (hl:[INS m [X,Y] ""].all (low 0 30)=true) (hX:∀ st,cS [X] st=.ok (.str t) st) (hY:∀ st,cS [Y] st=.ok (.str u) st) (ht:∀ st,s_fis_target_1 [INS m [X,Y] ""] st=.ok (.bool false) st) (st:List MO):dj [INS m [X,Y] ""] st=.ok (.lst [.str u,.str t]) st:=by
 have g0:=@hO
 have g1:=@fc
 have g2:=@qk
 have g3:=@W9
 have g4:=@rg1
 have g5:=@Yv
 have g5':=@Yw
 have g6:=qW
 have g7:=uU
 have g7':=KG
 have g8:((2:Nat):Int)=2:=rfl
 unfold dj
 refine bc (xs:=[INS m [X,Y] ""]) (g:=1) (nd:=0) (ds:=[]) (k:=3) (x:=.loc 0) (st1:=[.lst [.str u,.str t]]) hl rfl rfl ⟨?e,?h⟩ VP st
 case h=>
  show e9 ⟨[INS m [X,Y] "",.unb,.unb,.unb],[]⟩=_
  unfold e9
  walk_at "ev"
  rfl
def WrOk (I:V):Prop:=(∃ t:Str,∀ st,s_fwrite_att_1 [I] st=.ok (.str t) st)∧∃ t:Str,∀ st,s_fwrite_intel_1 [I] st=.ok (.str t) st
structure s6 (m:Str) (ops:List V):Prop where
 low:[INS m ops ""].all (low 0 30)=true
 att:∃ nm sx:Str,nm.length≤20∧sx.length≤20∧(∀ st,s_fatt_name_1 [INS m ops ""] st=.ok (.str nm) st)∧∀ st,s_fsuffix_of_1 [INS m ops ""] st=.ok (.str sx) st
 tgt:∀ st,s_fis_target_1 [INS m ops ""] st=.ok (.bool false) st
 len:m.length≤20
theorem KN (N:s6 m ops) {ts:List V}(hT:∀ st,dj [INS m ops ""] st=.ok (.lst ts) st) (hw:∀ nm:Str,nm.length≤100→∃ r,bQ [INS m ops "",.str nm,.lst ts,.str ","] []=.ok (.str r) []):
  ∃ t:Str,∀ st,s_fwrite_att_1 [INS m ops ""] st=.ok (.str t) st:=by
 obtain⟨nm,sx,l1,l2,ha,hs⟩:=N.att
 have h1:decide (nm.length+sx.length≤100000)=true:=decide_eq_true (by omega)
 obtain⟨r,hr⟩:=hw (nm++sx) (by rw[Str.length_append];omega)
 have g1:=@fc
 have g2:=@NH
 refine⟨r,fun st=>?_⟩
 unfold s_fwrite_att_1
 refine bc (xs:=[INS m ops ""]) (g:=1) (nd:=0) (ds:=[]) (k:=1) (x:=.str r) (st1:=[]) N.low rfl rfl ⟨?e,?h⟩ rfl st
 case h=>
  show jm ⟨[INS m ops "",.unb],[]⟩=_
  unfold jm
  walk_at "ev"
  rfl
theorem wi1 (N:s6 m [X]) (kX:∀ σ,kN σ (some X)=.ok X σ) (hX:∀ st,cw [X] st=.ok (.str t) st) (hl:t.length≤60):∃ t:Str,∀ st,s_fwrite_intel_1 [INS m [X] ""] st=.ok (.str t) st:=by
 have g:=Ys (nm:=m) (t:=t) (m:=m) (ops:=[X]) (sep:=", ") (by have:=N.len;omega) (by omega) (by rw[KM];omega)
 have g0:=@hO
 have g0':=@tY
 have g1:=@fc
 have g6:=qW
 have g7:=uU
 refine⟨m++" "++t,fun st=>?_⟩
 unfold s_fwrite_intel_1
 refine bc (xs:=[INS m [X] ""]) (g:=1) (nd:=0) (ds:=[]) (k:=2) (x:=.str (m++" "++t)) (st1:=[.lst [.str t]]) N.low rfl rfl ⟨?e,?h⟩ rfl st
 case h=>
  show dS ⟨[INS m [X] "",.unb,.unb],[]⟩=_
  unfold dS
  walk_at "g"
theorem wi2 (N:s6 m [X,Y]) (kX:∀ σ,kN σ (some X)=.ok X σ) (kY:∀ σ,kN σ (some Y)=.ok Y σ) (hX:∀ st,cw [X] st=.ok (.str t) st) (hl:t.length≤60) (hY:∀ st,cw [Y] st=.ok (.str u) st) (hl':u.length≤60):∃ t:Str,∀ st,s_fwrite_intel_1 [INS m [X,Y] ""] st=.ok (.str t) st:=by
 have g:=Yt (nm:=m) (t:=t) (u:=u) (m:=m) (ops:=[X,Y]) (sep:=", ") (by have:=N.len;omega) (by omega) (by omega) (by rw[KM];omega)
 have g0:=@hO
 have g0':=@tY
 have g1:=@fc
 have g6:=qW
 have g7:=uU
 have g7':=KG
 refine⟨m++" "++(t++", "++u),fun st=>?_⟩
 unfold s_fwrite_intel_1
 refine bc (xs:=[INS m [X,Y] ""]) (g:=1) (nd:=0) (ds:=[]) (k:=2) (x:=.str (m++" "++(t++", "++u))) (st1:=[.lst [.str t,.str u]]) N.low rfl rfl ⟨?e,?h⟩ rfl st
 case h=>
  show dS ⟨[INS m [X,Y] "",.unb,.unb],[]⟩=_
  unfold dS
  walk_at "g"
theorem Xa (N:s6 m [X]) (kX:∀ σ,kN σ (some X)=.ok X σ) (T:d9 X):WrOk (INS m [X] ""):=by
 obtain⟨⟨t,h1,h2⟩,u,h3,h4⟩:=T
 exact⟨KN N (ta1 N.low h2 N.tgt) fun nm hn=>⟨_,wp1 hn (by omega) (by rw[Of];omega)⟩,wi1 N kX h4 h3⟩
theorem KO (N:s6 m [X,Y]) (kX:∀ σ,kN σ (some X)=.ok X σ) (kY:∀ σ,kN σ (some Y)=.ok Y σ) (T:d9 X) (T':d9 Y):WrOk (INS m [X,Y] ""):=by
 obtain⟨⟨t,h1,h2⟩,u,h3,h4⟩:=T
 obtain⟨⟨t',h1',h2'⟩,u',h3',h4'⟩:=T'
 exact⟨KN N (ta2 N.low h2 h2' N.tgt) fun nm hn=>⟨_,wp2 hn (by omega) (by omega) (by rw[Of];omega)⟩,wi2 N kX kY h4 h3 h4' h3'⟩
end
end
section
section
variable {x0 y0:V}{m:Str}{ops:List V}{X Y Z:V}{st:List MO}{σ:S}{env:List V}{en d d' sz:Int}{sg x y:Str}{ps:List (V×V)}{lk:Int→Option Str}
noncomputable def og (wb:W2) (x y:V) (σ2:S):Rs Fl:=match x,y with
 | .inst _ _,.inst _ _=>if pM 9 x y then wb σ2 else both (wb σ2) (.ok .next σ2)
 | _,_=>.no
noncomputable def TU (wr:W1) (wb:W2) (x:V) (σ1:S):Rs Fl:=(wr σ1).bind (og wb x)
theorem FQ (wl wr:W1) (wb:W2):BS wl wr wb σ=(wl σ).bind (TU wr wb):=by
 unfold BS TU og
 rfl
theorem KQ (wr:W1) (wb:W2):TU wr wb X σ=(wr σ).bind (og wb X):=.trans rfl rfl
theorem Dm {C C':Addr}{fs fs':List (Nat×V)}(h:pM 9 (.inst C fs) (.inst C' fs')=true) (wb:W2) (σ:S):og wb (.inst C fs) (.inst C' fs') σ=wb σ:=by
 unfold og
 dsimp only
 rw[if_pos h]
theorem fF {C:Addr}{fs:List (Nat×V)}(wb:W2) (σ:S) (h:wb σ=.ok .next σ):og wb (.inst C fs) (.inst C fs) σ=.ok .next σ:=by
 unfold og both
 dsimp only
 rw[h,if_pos rfl]
 split <;> rfl
def Og (xs:List V) (σ1:S):Rs (List (List V)):=match xs with
 | [x]=>match lW x with
  | some ys=>.ok (j2 0 ys) σ1
  | Option.none=>.no
 | _=>.no
theorem s7 (wa:S→Rs (List V)):rP wa σ=(wa σ).bind Og:=.trans rfl rfl
theorem TV:Og [.tup [X]] σ=.ok [[.int 0,X]] σ:=.trans rfl rfl
theorem TX:Og [.tup [X,Y]] σ=.ok [[.int 0,X],[.int 1,Y]] σ:=.trans rfl rfl
structure gI (ps:List (V×V)) (lk:Int→Option Str):Prop where
 low:∀ k,low 0 (k+2) (.dct ps)=true
 ok:∀ k:Int,dOk ps (.int k)=true
 get:∀ k:Int,dGet ps (.int k)=(lk k).map .str
 mem:∀ k x,lk k=some x→x∈NMS
theorem xB {x:Str}(h:x∈NMS):(x != "")=true:=by
 have:(NMS.all fun x=>x != "")=true:=by decide +kernel
 exact List.all_eq_true.mp this x h
theorem Oh (B:gI ps lk) (k:Int) (σ:S):eK false (.int k) (.dct ps) σ=.ok (.bool (lk k).isSome) σ:=by
 rw[show eK false (.int k) (.dct ps) σ=u4 false (.int k) (.dct ps) σ from rfl]
 show(if dOk ps (.int k)then Rs.ok (V.bool (xor false (dGet ps (.int k)).isSome)) σ else .no)=_
 rw[if_pos (B.ok k),B.get]
 cases lk k <;> rfl
theorem Oi (B:gI ps lk) {k:Int}{x:Str}(h:lk k=some x) (σ:S):az (.dct ps) (.int k) σ=.ok (.str x) σ:=by
 rw[show az (.dct ps) (.int k) σ=rM (.dct ps) (.int k) σ from rfl]
 show(if dOk ps (.int k)then(match dGet ps (.int k)with | some y=>Rs.ok y σ | Option.none=>.no)else .no)=_
 rw[if_pos (B.ok k),B.get,h]
 rfl
theorem TY:kA 12 (REL d x) σ=.ok (.str "rel") σ:=bU 12 _ rfl rfl rfl
theorem TZ:kA 14 (REL d x) σ=.ok (.int d) σ:=bU 14 _ rfl rfl rfl
theorem VQ:kA 2 (REL d x) σ=.ok (.str x) σ:=bU 2 _ rfl rfl rfl
theorem KR:kA 12 (aT X d sz sg x) σ=.ok (.str "mem") σ:=bU 12 _ rfl rfl rfl
theorem T3:kA 14 (aT X d sz sg x) σ=.ok (.int d) σ:=bU 14 _ rfl rfl rfl
theorem VS:kA 2 (aT X d sz sg x) σ=.ok (.str x) σ:=bU 2 _ rfl rfl rfl
theorem VT:kA 7 (aT X d sz sg x) σ=.ok (.int sz) σ:=bU 7 _ rfl rfl rfl
theorem T4:kA 18 (aT X d sz sg x) σ=.ok (.str sg) σ:=bU 18 _ rfl rfl rfl
theorem T5:kA 15 (aT bH d sz sg x) σ=.ok bH σ:=bU 15 _ rfl rfl rfl
theorem T6:kA 12 (bo X) σ=.ok (.str "reg") σ:=bU 12 _ rfl rfl rfl
theorem IC:kN σ (some (aT X d sz sg x))=.ok (aT X d sz sg x) σ:=.trans rfl rfl
theorem ID:kN σ (some (bo X))=.ok (bo X) σ:=.trans rfl rfl
theorem T7 (f g h:FS) (wa:S→Rs (List V)):kM [(346,f),(421,g),(474,h)] wa (aT X d sz sg x) σ=(wa σ).bind (kM2 h (aT X d sz sg x)):=fb (by rfl) rfl
theorem Oj (f:FS) (wa:S→Rs (List V)):kM [(474,f)] wa (aT X d sz sg x) σ=(wa σ).bind (kM2 f (aT X d sz sg x)):=fb (by rfl) rfl
theorem Yx (f g h:FS) (wa:S→Rs (List V)):kM [(346,f),(421,g),(474,h)] wa (REL d x) σ=(wa σ).bind (kM2 g (REL d x)):=fb (by rfl) rfl
theorem Mr (f g h:FS) (wa:S→Rs (List V)):kM [(346,f),(421,g),(474,h)] wa (bo X) σ=(wa σ).bind (kM2 f (bo X)):=fb (by rfl) rfl
theorem vJ (f:FS) (wa:S→Rs (List V)):kM [(525,f)] wa (INS m ops "") σ=(wa σ).bind (kM2 f (INS m ops "")):=fb (by rfl) rfl
theorem T8 (st:List MO):dz [aT bH d sz sg x] st=.ok (.bool true) st:=aw (by kernel_rfl) st
theorem T9 (st:List MO):dz [aT xA d sz sg x] st=.ok (.bool false) st:=aw (by kernel_rfl) st
theorem Ua (st:List MO):dz [aT .none d sz sg x] st=.ok (.bool false) st:=aw (by kernel_rfl) st
theorem KU (st:List MO):tK [.int d,.str x] st=.ok (REL d x) st:=aw (by kernel_rfl) st
theorem KW (st:List MO):tL [bH,.none,.int 1,.int d,.int sz,.str sg,.str x] st=.ok (aT bH d sz sg x) st:=aw (by kernel_rfl) st
noncomputable def dB (lk:Int→Option Str) (en d:Int) (X:V) (f:Str→V):V:=match lk (en+d)with
 | some x=>f x
 | Option.none=>X
theorem Ub (B:gI ps lk) (st:List MO):bg [REL d "",.int en,.dct ps] st=.ok (dB lk en d (REL d "") (REL 0)) st:=by
 have g0:=@TY
 have g1:=@TZ
 have g2:=@VQ
 have g3:=@KB
 have g4:=Oh B
 have g5:=@KU
 have hl:[REL d "",.int en,.dct ps].all (low 0 30)=true:=by
  simp only[List.all_cons,List.all_nil,B.low,Bool.and_true];rfl
 unfold bg dB
 cases hk:lk (en+d)with
 | none=>
  have g6:(lk (en+d)).isSome=false:=by rw[hk];rfl
  dsimp only
  clear hk
  refine bc (xs:=[REL d "",.int en,.dct ps]) (g:=3) (nd:=0) (ds:=[]) (k:=1) (x:=REL d "") (st1:=[]) hl rfl rfl ⟨?e,?h⟩ (by kernel_rfl) st
  case h=>
   show bl ⟨[REL d "",.int en,.dct ps,.unb],[]⟩=_
   unfold bl
   walk_at "g"
 | some x=>
  have g6:(lk (en+d)).isSome=true:=by rw[hk];rfl
  have g7:=Oi B hk
  dsimp only
  clear hk
  refine bc (xs:=[REL d "",.int en,.dct ps]) (g:=3) (nd:=0) (ds:=[]) (k:=1) (x:=REL 0 x) (st1:=[]) hl rfl rfl ⟨?e2,?h2⟩ (by kernel_rfl) st
  case h2=>
   show bl ⟨[REL d "",.int en,.dct ps,.unb],[]⟩=_
   unfold bl
   walk_at "g"
theorem Uc (B:gI ps lk) (st:List MO):bg [aT bH d sz sg "",.int en,.dct ps] st=.ok (dB lk en d (aT bH d sz sg "") (aT bH 0 sz sg)) st:=by
 have g0:=@KR
 have g1:=@T3
 have g2:=@VS
 have g3:=@IC
 have g4:=Oh B
 have g5:=@KW
 have g8:=@VT
 have g9:=@T4
 have g10:=@T5
 have g11:=@Oj
 have g12:=@T8
 have g13:=@c7
 have hl:[aT bH d sz sg "",.int en,.dct ps].all (low 0 30)=true:=by
  simp only[List.all_cons,List.all_nil,B.low,Bool.and_true];rfl
 unfold bg dB
 cases hk:lk (en+d)with
 | none=>
  have g6:(lk (en+d)).isSome=false:=by rw[hk];rfl
  dsimp only
  clear hk
  refine bc (xs:=[aT bH d sz sg "",.int en,.dct ps]) (g:=3) (nd:=0) (ds:=[]) (k:=1) (x:=aT bH d sz sg "") (st1:=[]) hl rfl rfl ⟨?e,?h⟩ (by kernel_rfl) st
  case h=>
   show bl ⟨[aT bH d sz sg "",.int en,.dct ps,.unb],[]⟩=_
   unfold bl
   walk_at "g"
 | some x=>
  have g6:(lk (en+d)).isSome=true:=by rw[hk];rfl
  have g7:=Oi B hk
  dsimp only
  clear hk
  refine bc (xs:=[aT bH d sz sg "",.int en,.dct ps]) (g:=3) (nd:=0) (ds:=[]) (k:=1) (x:=aT bH 0 sz sg x) (st1:=[]) hl rfl rfl ⟨?e2,?h2⟩ (by kernel_rfl) st
  case h2=>
   show bl ⟨[aT bH d sz sg "",.int en,.dct ps,.unb],[]⟩=_
   unfold bl
   walk_at "g"
theorem s8 (B:gI ps lk) (hX:low 0 29 X=true) (hf:frz 0 [] 30 (bo X)=some (bo X)) (st:List MO):bg [bo X,.int en,.dct ps] st=.ok (bo X) st:=by
 have g0:=@T6
 have g3:=@ID
 have hl:[bo X,.int en,.dct ps].all (low 0 30)=true:=by
  simp only[List.all_cons,List.all_nil,B.low,Bool.and_true]
  show(true&&(low 0 29 X&&true))&&true=true
  rw[hX];rfl
 unfold bg
 refine bc (xs:=[bo X,.int en,.dct ps]) (g:=3) (nd:=0) (ds:=[]) (k:=1) (x:=bo X) (st1:=[]) hl rfl rfl ⟨?e,?h⟩ hf st
 case h=>
  show bl ⟨[bo X,.int en,.dct ps,.unb],[]⟩=_
  unfold bl
  walk_at "g"
theorem KY (B:gI ps lk) (hX:low 0 29 X=true) (hf:frz 0 [] 30 (aT X d sz sg "")=some (aT X d sz sg "")) (hr:∀ st,dz [aT X d sz sg ""] st=.ok (.bool false) st) (st:List MO):bg [aT X d sz sg "",.int en,.dct ps] st=.ok (aT X d sz sg "") st:=by
 have g0:=@KR
 have g3:=@IC
 have g11:=@Oj
 have g13:=@c7
 have hl:[aT X d sz sg "",.int en,.dct ps].all (low 0 30)=true:=by
  simp only[List.all_cons,List.all_nil,B.low,Bool.and_true]
  show(true&&(low 0 29 X&&true))&&true=true
  rw[hX];rfl
 unfold bg
 refine bc (xs:=[aT X d sz sg "",.int en,.dct ps]) (g:=3) (nd:=0) (ds:=[]) (k:=1) (x:=aT X d sz sg "") (st1:=[]) hl rfl rfl ⟨?e,?h⟩ hf st
 case h=>
  show bl ⟨[aT X d sz sg "",.int en,.dct ps,.unb],[]⟩=_
  unfold bl
  walk_at "g"
theorem Ud (hlo:[INS m [X] "",.int en,.dct ps].all (low 0 30)=true) (hn:∀ st,bg [X,.int en,.dct ps] st=.ok Y st) (hs:(Y=X∧∀ wb σ,wb σ=.ok .next σ→og wb X X σ=.ok .next σ)∨∀ wb σ,og wb Y X σ=wb σ)
  (kX:∀ σ,kN σ (some X)=.ok X σ) (kY:∀ σ,kN σ (some Y)=.ok Y σ) (hr:∀ st,bh [INS m [X] "",.int 0,Y] st=.ok (INS m [Y] "") st) (hf:frz 0 [] 30 (INS m [Y] "")=some (INS m [Y] "")) (st:List MO):
  s_fnamed_3 [INS m [X] "",.int en,.dct ps] st=.ok (INS m [Y] "") st:=by
 have g0:=@hO
 have g1:=@fc
 have g2:=@s7
 have g3:=@TV
 have g4:=@FQ
 have g5:=@KQ
 have g6:=@vJ
 have g7:=@c7
 unfold s_fnamed_3
 rcases hs with⟨rfl,hs⟩ | hs
 ·refine bc (xs:=[INS m [Y] "",.int en,.dct ps]) (g:=3) (nd:=0) (ds:=[]) (k:=4) (x:=INS m [Y] "") (st1:=[]) hlo rfl rfl ⟨?e,?h⟩ hf st
  case h=>
   show eI ⟨[INS m [Y] "",.int en,.dct ps,.unb,.unb,.unb,.unb],[]⟩=_
   unfold eI
   walk_at "g"
 ·refine bc (xs:=[INS m [X] "",.int en,.dct ps]) (g:=3) (nd:=0) (ds:=[]) (k:=4) (x:=INS m [Y] "") (st1:=[]) hlo rfl rfl ⟨?e2,?h2⟩ hf st
  case h2=>
   show eI ⟨[INS m [X] "",.int en,.dct ps,.unb,.unb,.unb,.unb],[]⟩=_
   unfold eI
   walk_at "g"
theorem xC {X2:V}(hlo:[INS m [X,X2] "",.int en,.dct ps].all (low 0 30)=true) (hn0:∀ st,bg [X,.int en,.dct ps] st=.ok X st) (hn:∀ st,bg [X2,.int en,.dct ps] st=.ok Y st)
  (hs0:∀ wb σ,wb σ=.ok .next σ→og wb X X σ=.ok .next σ) (hs:(Y=X2∧∀ wb σ,wb σ=.ok .next σ→og wb X2 X2 σ=.ok .next σ)∨∀ wb σ,og wb Y X2 σ=wb σ)
  (kX:∀ σ,kN σ (some X)=.ok X σ) (kX2:∀ σ,kN σ (some X2)=.ok X2 σ) (kY:∀ σ,kN σ (some Y)=.ok Y σ) (W8:∀ st,bh [INS m [X,X2] "",.int 0,X] st=.ok (INS m [X,X2] "") st)
  (hr:∀ st,bh [INS m [X,X2] "",.int 1,Y] st=.ok (INS m [X,Y] "") st) (hf:frz 0 [] 30 (INS m [X,Y] "")=some (INS m [X,Y] "")) (st:List MO):
  s_fnamed_3 [INS m [X,X2] "",.int en,.dct ps] st=.ok (INS m [X,Y] "") st:=by
 have g0:=@hO
 have g1:=@fc
 have g2:=@s7
 have g3:=@TX
 have g4:=@FQ
 have g5:=@KQ
 have g6:=@vJ
 have g7:=@c7
 unfold s_fnamed_3
 rcases hs with⟨rfl,hs⟩ | hs
 ·refine bc (xs:=[INS m [X,Y] "",.int en,.dct ps]) (g:=3) (nd:=0) (ds:=[]) (k:=4) (x:=INS m [X,Y] "") (st1:=[]) hlo rfl rfl ⟨?e,?h⟩ hf st
  case h=>
   show eI ⟨[INS m [X,Y] "",.int en,.dct ps,.unb,.unb,.unb,.unb],[]⟩=_
   unfold eI
   walk_at "g"
 ·refine bc (xs:=[INS m [X,X2] "",.int en,.dct ps]) (g:=3) (nd:=0) (ds:=[]) (k:=4) (x:=INS m [X,Y] "") (st1:=[]) hlo rfl rfl ⟨?e2,?h2⟩ hf st
  case h2=>
   show eI ⟨[INS m [X,X2] "",.int en,.dct ps,.unb,.unb,.unb,.unb],[]⟩=_
   unfold eI
   walk_at "g"
end
end
section
section
variable {m:Str}{ops:List V}{X Y Z:V}{st:List MO}{σ:S}{env:List V}{en d d' sz:Int}{sg x y:Str}{N:V}{lk:Int→Option Str}
structure nc (N:V) (lk:Int→Option Str):Prop where
 low:∀ k,low 0 (k+2) N=true
 kn:∀ σ,kN σ (some N)=.ok N σ
 at_:∀ (k:Int) st,s_f_law_name_at_2 [N,.int k] st=.ok (.str ((lk k).getD "")) st
 mem:∀ k x,lk k=some x→x∈NMS
theorem Ue (st:List MO):ia [REL d x] st=.ok (.tup [.str "rel",.int d,.str x]) st:=aw (by kernel_rfl) st
theorem Ug (st:List MO):dD [aT bH d sz sg x] st=.ok (.tup [.str "mem",.str "rip",.str "",.int 1,.int d,.int sz,.str sg,.str x]) st:=aw (by kernel_rfl) st
theorem Uh (st:List MO):dD [aT xA d sz sg x] st=.ok (.tup [.str "mem",.str "rsp",.str "",.int 1,.int d,.int sz,.str sg,.str x]) st:=aw (by kernel_rfl) st
theorem Ui (st:List MO):dD [aT .none d sz sg x] st=.ok (.tup [.str "mem",.str "",.str "",.int 1,.int d,.int sz,.str sg,.str x]) st:=aw (by kernel_rfl) st
theorem Dn {n sz':Int}{k:Str}(st:List MO):ib [bo (aZ x n sz' k)] st=.ok (.tup [.str "reg",.str x]) st:=aw (by kernel_rfl) st
theorem Yy (st:List MO):qe [] st=.ok bH st:=aw (by kernel_rfl) st
section
variable {x0 x1 x2 x3 x4 x5 x6 x7:V}
theorem Ms:az (.tup [x0,x1]) (.int 0) σ=.ok x0 σ:=.trans (by kernel_rfl) rfl
theorem Uj:az (.tup [x0,x1,x2]) (.int 0) σ=.ok x0 σ:=.trans (by kernel_rfl) rfl
theorem Uk:az (.tup [x0,x1,x2]) (.int 1) σ=.ok x1 σ:=.trans (by kernel_rfl) rfl
theorem Ul:az (.tup [x0,x1,x2,x3,x4,x5,x6,x7]) (.int 0) σ=.ok x0 σ:=.trans (by kernel_rfl) rfl
theorem Um:az (.tup [x0,x1,x2,x3,x4,x5,x6,x7]) (.int 1) σ=.ok x1 σ:=.trans (by kernel_rfl) rfl
theorem Yz:az (.tup [x0,x1,x2,x3,x4,x5,x6,x7]) (.int 4) σ=.ok x4 σ:=.trans (by kernel_rfl) rfl
theorem YA:az (.tup [x0,x1,x2,x3,x4,x5,x6,x7]) (.int 5) σ=.ok x5 σ:=.trans (by kernel_rfl) rfl
theorem YB:az (.tup [x0,x1,x2,x3,x4,x5,x6,x7]) (.int 6) σ=.ok x6 σ:=.trans (by kernel_rfl) rfl
end
theorem YC (A:nc N lk) (hI:∀ e:V,e=dB lk en d (REL d "") (REL 0)→bV [.str m,.loc 0,.str ""] [.lst [e]]=.ok (INS m [e] "") [.lst [e]])
  (hf:frz 0 [.lst [dB lk en d (REL d "") (REL 0)]] 30 (INS m [dB lk en d (REL d "") (REL 0)] "")=some (INS m [dB lk en d (REL d "") (REL 0)] "")) (st:List MO):
  s_f_law_due_3 [INS m [REL d ""] "",.int en,N] st=.ok (INS m [dB lk en d (REL d "") (REL 0)] "") st:=by
 have g0:=@hO
 have g0':=@tY
 have g0'':=@sZ
 have g1:=@fc
 have g2:=@Yx
 have g3:=@c7
 have g4:=@Ue
 have g5:=@Uj
 have g6:=@Uk
 have g7:=A.kn
 have g8:=qW
 have g9:=uU
 have g10:=@KU
 have g11:=@KB
 have h0:=A.at_ (en+d)
 have hl:[INS m [REL d ""] "",.int en,N].all (low 0 30)=true:=by
  simp only[List.all_cons,List.all_nil,A.low,Bool.and_true];rfl
 unfold s_f_law_due_3
 have hM:=A.mem (en+d)
 unfold dB at hI hf ⊢
 cases hk:lk (en+d)with
 | none=>
  rw[hk]at hI hf h0
  dsimp only[Option.getD]at hI hf h0 ⊢
  have hI':=hI _ rfl
  clear hI hk hM
  refine bc (xs:=[INS m [REL d ""] "",.int en,N]) (g:=3) (nd:=0) (ds:=[]) (k:=4) (x:=INS m [REL d ""] "") (st1:=[.lst [REL d ""]]) hl rfl rfl ⟨?e,?h⟩ hf st
  case h=>
   show bW ⟨[INS m [REL d ""] "",.int en,N,.unb,.unb,.unb,.unb],[]⟩=_
   unfold bW
   walk_at "g"
 | some x=>
  rw[hk]at hI hf h0
  dsimp only[Option.getD]at hI hf h0 ⊢
  have hI':=hI _ rfl
  have hx:=xB (hM x hk)
  clear hI hk hM
  refine bc (xs:=[INS m [REL d ""] "",.int en,N]) (g:=3) (nd:=0) (ds:=[]) (k:=4) (x:=INS m [REL 0 x] "") (st1:=[.lst [REL 0 x]]) hl rfl rfl ⟨?e2,?h2⟩ hf st
  case h2=>
   show bW ⟨[INS m [REL d ""] "",.int en,N,.unb,.unb,.unb,.unb],[]⟩=_
   unfold bW
   walk_at "g"
theorem YD {n sz':Int}{k nr:Str}(A:nc N lk) (hI:∀ e:V,e=dB lk en d (aT bH d sz sg "") (aT bH 0 sz sg)→bV [.str m,.loc 0,.str ""] [.lst [bo (aZ nr n sz' k),e]]=.ok (INS m [bo (aZ nr n sz' k),e] "") [.lst [bo (aZ nr n sz' k),e]])
  (hf:frz 0 [.lst [bo (aZ nr n sz' k),dB lk en d (aT bH d sz sg "") (aT bH 0 sz sg)]] 30 (INS m [bo (aZ nr n sz' k),dB lk en d (aT bH d sz sg "") (aT bH 0 sz sg)] "")=some (INS m [bo (aZ nr n sz' k),dB lk en d (aT bH d sz sg "") (aT bH 0 sz sg)] "")) (st:List MO):
  s_f_law_due_3 [INS m [bo (aZ nr n sz' k),aT bH d sz sg ""] "",.int en,N] st=.ok (INS m [bo (aZ nr n sz' k),dB lk en d (aT bH d sz sg "") (aT bH 0 sz sg)] "") st:=by
 have g0:=@hO
 have g0':=@tY
 have g0'':=@sZ
 have g1:=@fc
 have g2:=@T7
 have g2':=@Mr
 have g3:=@c7
 have g4:=@Ug
 have g4':=@Dn
 have g5:=@Ms
 have g6:=@Ul
 have g6':=@Um
 have g6a:=@Yz
 have g6b:=@YA
 have g6c:=@YB
 have g7:=A.kn
 have g8:=qW
 have g9:=uU
 have g9':=KG
 have g10:=@KW
 have g11:=@IC
 have g12:=@ID
 have g13:=Yy
 have h0:=A.at_ (en+d)
 have hl:[INS m [bo (aZ nr n sz' k),aT bH d sz sg ""] "",.int en,N].all (low 0 30)=true:=by
  simp only[List.all_cons,List.all_nil,A.low,Bool.and_true];rfl
 unfold s_f_law_due_3
 have hM:=A.mem (en+d)
 unfold dB at hI hf ⊢
 cases hk:lk (en+d)with
 | none=>
  rw[hk]at hI hf h0
  dsimp only[Option.getD]at hI hf h0 ⊢
  have hI':=hI _ rfl
  clear hI hk hM
  refine bc (xs:=[INS m [bo (aZ nr n sz' k),aT bH d sz sg ""] "",.int en,N]) (g:=3) (nd:=0) (ds:=[]) (k:=4) (x:=INS m [bo (aZ nr n sz' k),aT bH d sz sg ""] "") (st1:=[.lst [bo (aZ nr n sz' k),aT bH d sz sg ""]]) hl rfl rfl ⟨?e,?h⟩ hf st
  case h=>
   show bW ⟨[INS m [bo (aZ nr n sz' k),aT bH d sz sg ""] "",.int en,N,.unb,.unb,.unb,.unb],[]⟩=_
   unfold bW
   walk_at "g"
 | some x=>
  rw[hk]at hI hf h0
  dsimp only[Option.getD]at hI hf h0 ⊢
  have hI':=hI _ rfl
  have hx:=xB (hM x hk)
  clear hI hk hM
  refine bc (xs:=[INS m [bo (aZ nr n sz' k),aT bH d sz sg ""] "",.int en,N]) (g:=3) (nd:=0) (ds:=[]) (k:=4) (x:=INS m [bo (aZ nr n sz' k),aT bH 0 sz sg x] "") (st1:=[.lst [bo (aZ nr n sz' k),aT bH 0 sz sg x]]) hl rfl rfl ⟨?e2,?h2⟩ hf st
  case h2=>
   show bW ⟨[INS m [bo (aZ nr n sz' k),aT bH d sz sg ""] "",.int en,N,.unb,.unb,.unb,.unb],[]⟩=_
   unfold bW
   walk_at "g"
end
end
section
section
variable {m:Str}{ops:List V}{X Y Z:V}{st:List MO}{σ:S}{env:List V}{en d d' sz:Int}{sg x y:Str}{N:V}{lk:Int→Option Str}{ps:List (V×V)}
theorem Un {n sz':Int}{k nr b:Str}{z2 z3 z4 z5 z6 z7:V}(A:nc N lk) (hb:(b=="rip")=false) (hT:∀ st,dD [aT X d sz sg ""] st=.ok (.tup [.str "mem",.str b,z2,z3,z4,z5,z6,z7]) st)
  (hI:bV [.str m,.loc 0,.str ""] [.lst [bo (aZ nr n sz' k),aT X d sz sg ""]]=.ok (INS m [bo (aZ nr n sz' k),aT X d sz sg ""] "") [.lst [bo (aZ nr n sz' k),aT X d sz sg ""]])
  (hf:frz 0 [.lst [bo (aZ nr n sz' k),aT X d sz sg ""]] 30 (INS m [bo (aZ nr n sz' k),aT X d sz sg ""] "")=some (INS m [bo (aZ nr n sz' k),aT X d sz sg ""] "")) (hl0:low 0 30 (INS m [bo (aZ nr n sz' k),aT X d sz sg ""] "")=true) (st:List MO):
  s_f_law_due_3 [INS m [bo (aZ nr n sz' k),aT X d sz sg ""] "",.int en,N] st=.ok (INS m [bo (aZ nr n sz' k),aT X d sz sg ""] "") st:=by
 have g0:=@hO
 have g0':=@tY
 have g0'':=@sZ
 have g1:=@fc
 have g2:=@T7
 have g2':=@Mr
 have g3:=@c7
 have g4':=@Dn
 have g5:=@Ms
 have g6:=@Ul
 have g6':=@Um
 have g7:=A.kn
 have g8:=qW
 have g9:=uU
 have g9':=KG
 have g11:=@IC
 have g12:=@ID
 have hl:[INS m [bo (aZ nr n sz' k),aT X d sz sg ""] "",.int en,N].all (low 0 30)=true:=by
  simp only[List.all_cons,List.all_nil,A.low,hl0,Bool.and_true];rfl
 unfold s_f_law_due_3
 refine bc (xs:=[INS m [bo (aZ nr n sz' k),aT X d sz sg ""] "",.int en,N]) (g:=3) (nd:=0) (ds:=[]) (k:=4) (x:=INS m [bo (aZ nr n sz' k),aT X d sz sg ""] "") (st1:=[.lst [bo (aZ nr n sz' k),aT X d sz sg ""]]) hl rfl rfl ⟨?e,?h⟩ hf st
 case h=>
  show bW ⟨[INS m [bo (aZ nr n sz' k),aT X d sz sg ""] "",.int en,N,.unb,.unb,.unb,.unb],[]⟩=_
  unfold bW
  walk_at "g"
theorem YE {n sz' n2 sz2:Int}{k nr k2 nr2:Str}(A:nc N lk) (st:List MO):
  s_f_law_due_3 [INS m [bo (aZ nr n sz' k),bo (aZ nr2 n2 sz2 k2)] "",.int en,N] st=.ok (INS m [bo (aZ nr n sz' k),bo (aZ nr2 n2 sz2 k2)] "") st:=by
 have g0:=@hO
 have g0':=@tY
 have g0'':=@sZ
 have g1:=@fc
 have g2':=@Mr
 have g3:=@c7
 have g4':=@Dn
 have g5:=@Ms
 have g7:=A.kn
 have g8:=qW
 have g9:=uU
 have g9':=KG
 have g12:=@ID
 have hI:bV [.str m,.loc 0,.str ""] [.lst [bo (aZ nr n sz' k),bo (aZ nr2 n2 sz2 k2)]]=.ok (INS m [bo (aZ nr n sz' k),bo (aZ nr2 n2 sz2 k2)] "") [.lst [bo (aZ nr n sz' k),bo (aZ nr2 n2 sz2 k2)]]:=by kernel_rfl
 have hl:[INS m [bo (aZ nr n sz' k),bo (aZ nr2 n2 sz2 k2)] "",.int en,N].all (low 0 30)=true:=by
  simp only[List.all_cons,List.all_nil,A.low,Bool.and_true];rfl
 unfold s_f_law_due_3
 refine bc (xs:=[INS m [bo (aZ nr n sz' k),bo (aZ nr2 n2 sz2 k2)] "",.int en,N]) (g:=3) (nd:=0) (ds:=[]) (k:=4) (x:=INS m [bo (aZ nr n sz' k),bo (aZ nr2 n2 sz2 k2)] "") (st1:=[.lst [bo (aZ nr n sz' k),bo (aZ nr2 n2 sz2 k2)]]) hl rfl rfl ⟨?e,?h⟩ (by kernel_rfl) st
 case h=>
  show bW ⟨[INS m [bo (aZ nr n sz' k),bo (aZ nr2 n2 sz2 k2)] "",.int en,N,.unb,.unb,.unb,.unb],[]⟩=_
  unfold bW
  walk_at "g"
theorem s9 {xs:List V}(h:dI (eqT 6) xs xs=some true) (σ:S):fNe (.tup xs) (.tup xs) σ=.ok (.bool false) σ:=by
 show dU (dI (eqT 6) xs xs) (fun r=>Rs.ok (V.bool (xor true r)) σ)=_
 rw[h]
 rfl
noncomputable def ROW (a:Int) (bs:List UInt8) (t:Str) (I:V):V:=.inst 1159 [(1,.int a),(43,.bytes bs),(44,.str t),(25,I)]
structure j7 (I:V):Prop where
 kn:∀ σ,kN σ (some I)=.ok I σ
 ext:isExt I=false
 km:∀ (f:FS) (wa:S→Rs (List V)) (σ:S),kM [(525,f)] wa I σ=(wa σ).bind (kM2 f I)
 low:∀ k,low 0 (k+8) I=true
 frz:∀ st k,frz 0 st (k+8) I=some I
 row:∀ a bs t st,n_Row_5 [.int a,.bytes bs,.str t,I] st=.ok (ROW a bs t I) st
 told:∃ x,(∀ st,s_fInstruction_told_1 [I] st=.ok x st)∧∀ σ,fNe x x σ=.ok (.bool false) σ
 nd:∀ lk ps N en,gI ps lk→nc N lk→∃ J,(∀ st,s_fnamed_3 [I,.int en,.dct ps] st=.ok J st)∧(∀ st,s_f_law_due_3 [I,.int en,N] st=.ok J st)∧(∀ σ,kN σ (some J)=.ok J σ)∧(∀ s:Str,[J,.str s].all (Mine.low 0 30)=true)∧WrOk J
structure fe (m:Str):Prop where
 ok:∀ d x,s6 m [REL d x]
theorem Uo {a b:Str}(st:List MO):bh [INS m [REL d a] "",.int 0,REL d' b] st=.ok (INS m [REL d' b] "") st:=aw (by kernel_rfl) st
theorem Up (h:(x != "")=true) (wb:W2) (σ:S):og wb (REL 0 x) (REL d "") σ=wb σ:=Dm (by
 simp only[vV,zi,zj,vW,zk,vX,vY,List.zip_cons_cons,List.zip_nil_right,List.any_cons,List.any_nil,h,List.length_cons,List.length_nil,bne_self_eq_false,Bool.false_or,Bool.or_false,beq_self_eq_true,Bool.true_and,Bool.or_true]) wb σ
theorem IE (R:fe m) (h0:-32≤d) (h1:d≤32):j7 (INS m [REL d ""] "") where
 kn:=fun _=>rfl
 ext:=rfl
 km:=fun _ _ _=>vJ _ _
 low:=fun k=>rfl
 frz:=fun st k=>rfl
 row:=fun a bs t st=>aw (by kernel_rfl) st
 told:=⟨.tup [.str m,.str "",.tup [.tup [.str "rel",.int d,.str ""]]],fun st=>aw (by kernel_rfl) st,s9 (by simp only[dI,lY,xZ,xY,yb,V.un,beq_self_eq_true,Bool.and_true,Bool.and_self])⟩
 nd:=fun lk ps N en B A=>by
  refine⟨INS m [dB lk en d (REL d "") (REL 0)] "",?_,?_,fun _=>rfl,?_,?_⟩
  ·have hl:[INS m [REL d ""] "",.int en,.dct ps].all (Mine.low 0 30)=true:=by
    simp only[List.all_cons,List.all_nil,B.low,Bool.and_true];rfl
   refine Ud hl (Ub B) ?_ (fun _=>rfl) ?_ ?_ ?_
   ·unfold dB
    cases hk:lk (en+d)with
    | none=>exact .inl ⟨rfl,fF⟩
    | some x=>exact .inr (Up (xB (B.mem _ _ hk)))
   ·unfold dB;cases lk (en+d) <;> exact fun _=>rfl
   ·unfold dB;cases lk (en+d) <;> exact fun st=>Uo st
   ·unfold dB;cases lk (en+d) <;> kernel_rfl
  ·refine YC A (fun e he=>?_) ?_
   ·subst he;unfold dB;cases lk (en+d) <;> kernel_rfl
   ·unfold dB;cases lk (en+d) <;> kernel_rfl
  ·intro s;unfold dB;cases lk (en+d) <;> kernel_rfl
  ·unfold dB
   cases hk:lk (en+d)with
   | none=>exact Xa (R.ok d "") (fun _=>rfl) (Dk h0 h1).1
   | some x=>exact Xa (R.ok 0 x) (fun _=>rfl) (Dl (B.mem _ _ hk)).1
theorem VU {r:V}{a:Str}{n sz':Int}{k nr:Str}(st:List MO):bh [INS m [bo (aZ nr n sz' k),aT bH d sz sg a] "",.int 0,bo (aZ nr n sz' k)] st=.ok (INS m [bo (aZ nr n sz' k),aT bH d sz sg a] "") st:=aw (by kernel_rfl) st
theorem VV {a b:Str}{n sz':Int}{k nr:Str}(st:List MO):bh [INS m [bo (aZ nr n sz' k),aT bH d sz sg a] "",.int 1,aT bH d' sz sg b] st=.ok (INS m [bo (aZ nr n sz' k),aT bH d' sz sg b] "") st:=aw (by kernel_rfl) st
theorem Uq (h:(x != "")=true) (wb:W2) (σ:S):og wb (aT bH 0 sz sg x) (aT bH d sz sg "") σ=wb σ:=Dm (by
 simp only[vV,zi,zj,vW,zk,vX,vY,List.zip_cons_cons,List.zip_nil_right,List.any_cons,List.any_nil,h,List.length_cons,List.length_nil,bne_self_eq_false,Bool.false_or,Bool.or_false,beq_self_eq_true,Bool.true_and,Bool.or_true]) wb σ
theorem Ol {n sz':Int}{k nr:Str}(hN:∀ d x,s6 m [bo (aZ nr n sz' k),aT bH d sz sg x]) (T:d9 (bo (aZ nr n sz' k))) (T1:d9 (aT bH d sz sg "")) (T2:∀ x∈NMS,d9 (aT bH 0 sz sg x)):j7 (INS m [bo (aZ nr n sz' k),aT bH d sz sg ""] "") where
 kn:=fun _=>rfl
 ext:=rfl
 km:=fun _ _ _=>vJ _ _
 low:=fun k=>rfl
 frz:=fun st k=>rfl
 row:=fun a bs t st=>aw (by kernel_rfl) st
 told:=⟨.tup [.str m,.str "",.tup [.tup [.str "reg",.str nr],.tup [.str "mem",.str "rip",.str "",.int 1,.int d,.int sz,.str sg,.str ""]]],fun st=>aw (by kernel_rfl) st,s9 (by simp only[dI,lY,xZ,xY,yb,V.un,beq_self_eq_true,Bool.and_true,Bool.and_self])⟩
 nd:=fun lk ps N en B A=>by
  refine⟨INS m [bo (aZ nr n sz' k),dB lk en d (aT bH d sz sg "") (aT bH 0 sz sg)] "",?_,?_,fun _=>rfl,?_,?_⟩
  ·have hl:[INS m [bo (aZ nr n sz' k),aT bH d sz sg ""] "",.int en,.dct ps].all (Mine.low 0 30)=true:=by
    simp only[List.all_cons,List.all_nil,B.low,Bool.and_true];rfl
   refine xC hl (s8 B rfl rfl) (Uc B) (fun wb σ h=>fF wb σ h) ?_ (fun _=>rfl) (fun _=>rfl) ?_ ?_ ?_ ?_
   ·unfold dB
    cases hk:lk (en+d)with
    | none=>exact .inl ⟨rfl,fF⟩
    | some x=>exact .inr (Uq (xB (B.mem _ _ hk)))
   ·unfold dB;cases lk (en+d) <;> exact fun _=>rfl
   ·exact fun st=>VU (r:=.none) st
   ·unfold dB;cases lk (en+d) <;> exact fun st=>VV st
   ·unfold dB;cases lk (en+d) <;> kernel_rfl
  ·refine YD A (fun e he=>?_) ?_
   ·subst he;unfold dB;cases lk (en+d) <;> kernel_rfl
   ·unfold dB;cases lk (en+d) <;> kernel_rfl
  ·intro s;unfold dB;cases lk (en+d) <;> kernel_rfl
  ·unfold dB
   cases hk:lk (en+d)with
   | none=>exact KO (hN d "") (fun _=>rfl) (fun _=>rfl) T T1
   | some x=>exact KO (hN 0 x) (fun _=>rfl) (fun _=>rfl) T (T2 x (B.mem _ _ hk))
end
end
theorem dg {m:Str}(hl:m.length≤20) (h1:∀ d x,[INS m [REL d x] ""].all (low 0 30)=true) (h2:∀ d x,s_fatt_name_1 [INS m [REL d x] ""] []=.ok (.str m) []) (h3:∀ d x,s_fsuffix_of_1 [INS m [REL d x] ""] []=.ok (.str "") [])
  (h4:∀ d x,s_fis_target_1 [INS m [REL d x] ""] []=.ok (.bool false) []):fe m:=⟨fun d x=>⟨h1 d x,⟨m,"",hl,by decide +kernel,fun st=>aw (h2 d x) st,fun st=>aw (h3 d x) st⟩,fun st=>aw (h4 d x) st,hl⟩⟩
theorem Ur:fe "jmp":=dg (by decide +kernel) (fun _ _=>by kernel_rfl) (fun _ _=>by kernel_rfl) (fun _ _=>by kernel_rfl) (fun _ _=>by kernel_rfl)
theorem Eu:br "jmp" "rel8" 235 0 0:=⟨fun st=>aw (by kernel_rfl) st,fun a c ma rest=>by kernel_rfl⟩
theorem Om:fe "jo":=dg (by decide +kernel) (fun _ _=>by kernel_rfl) (fun _ _=>by kernel_rfl) (fun _ _=>by kernel_rfl) (fun _ _=>by kernel_rfl)
theorem IF:br "jo" "rel8" 112 0 3:=⟨fun st=>aw (by kernel_rfl) st,fun a c ma rest=>by kernel_rfl⟩
theorem Ew:br "jo" "rel32" 128 1 4:=⟨fun st=>aw (by kernel_rfl) st,fun a c ma rest=>by kernel_rfl⟩
theorem KZ:fe "jno":=dg (by decide +kernel) (fun _ _=>by kernel_rfl) (fun _ _=>by kernel_rfl) (fun _ _=>by kernel_rfl) (fun _ _=>by kernel_rfl)
theorem Ex:br "jno" "rel8" 113 0 5:=⟨fun st=>aw (by kernel_rfl) st,fun a c ma rest=>by kernel_rfl⟩
theorem Do:br "jno" "rel32" 129 1 6:=⟨fun st=>aw (by kernel_rfl) st,fun a c ma rest=>by kernel_rfl⟩
theorem On:fe "jb":=dg (by decide +kernel) (fun _ _=>by kernel_rfl) (fun _ _=>by kernel_rfl) (fun _ _=>by kernel_rfl) (fun _ _=>by kernel_rfl)
theorem IG:br "jb" "rel8" 114 0 7:=⟨fun st=>aw (by kernel_rfl) st,fun a c ma rest=>by kernel_rfl⟩
theorem Ey:br "jb" "rel32" 130 1 8:=⟨fun st=>aw (by kernel_rfl) st,fun a c ma rest=>by kernel_rfl⟩
theorem K2:fe "jae":=dg (by decide +kernel) (fun _ _=>by kernel_rfl) (fun _ _=>by kernel_rfl) (fun _ _=>by kernel_rfl) (fun _ _=>by kernel_rfl)
theorem Ez:br "jae" "rel8" 115 0 9:=⟨fun st=>aw (by kernel_rfl) st,fun a c ma rest=>by kernel_rfl⟩
theorem Dp:br "jae" "rel32" 131 1 10:=⟨fun st=>aw (by kernel_rfl) st,fun a c ma rest=>by kernel_rfl⟩
theorem Oo:fe "je":=dg (by decide +kernel) (fun _ _=>by kernel_rfl) (fun _ _=>by kernel_rfl) (fun _ _=>by kernel_rfl) (fun _ _=>by kernel_rfl)
theorem IH:br "je" "rel8" 116 0 11:=⟨fun st=>aw (by kernel_rfl) st,fun a c ma rest=>by kernel_rfl⟩
theorem EA:br "je" "rel32" 132 1 12:=⟨fun st=>aw (by kernel_rfl) st,fun a c ma rest=>by kernel_rfl⟩
theorem K3:fe "jne":=dg (by decide +kernel) (fun _ _=>by kernel_rfl) (fun _ _=>by kernel_rfl) (fun _ _=>by kernel_rfl) (fun _ _=>by kernel_rfl)
theorem EB:br "jne" "rel8" 117 0 13:=⟨fun st=>aw (by kernel_rfl) st,fun a c ma rest=>by kernel_rfl⟩
theorem Dq:br "jne" "rel32" 133 1 14:=⟨fun st=>aw (by kernel_rfl) st,fun a c ma rest=>by kernel_rfl⟩
theorem K4:fe "jbe":=dg (by decide +kernel) (fun _ _=>by kernel_rfl) (fun _ _=>by kernel_rfl) (fun _ _=>by kernel_rfl) (fun _ _=>by kernel_rfl)
theorem EC:br "jbe" "rel8" 118 0 15:=⟨fun st=>aw (by kernel_rfl) st,fun a c ma rest=>by kernel_rfl⟩
theorem Dr:br "jbe" "rel32" 134 1 16:=⟨fun st=>aw (by kernel_rfl) st,fun a c ma rest=>by kernel_rfl⟩
theorem Oq:fe "ja":=dg (by decide +kernel) (fun _ _=>by kernel_rfl) (fun _ _=>by kernel_rfl) (fun _ _=>by kernel_rfl) (fun _ _=>by kernel_rfl)
theorem II:br "ja" "rel8" 119 0 17:=⟨fun st=>aw (by kernel_rfl) st,fun a c ma rest=>by kernel_rfl⟩
theorem ED:br "ja" "rel32" 135 1 18:=⟨fun st=>aw (by kernel_rfl) st,fun a c ma rest=>by kernel_rfl⟩
theorem Os:fe "js":=dg (by decide +kernel) (fun _ _=>by kernel_rfl) (fun _ _=>by kernel_rfl) (fun _ _=>by kernel_rfl) (fun _ _=>by kernel_rfl)
theorem IJ:br "js" "rel8" 120 0 19:=⟨fun st=>aw (by kernel_rfl) st,fun a c ma rest=>by kernel_rfl⟩
theorem EE:br "js" "rel32" 136 1 20:=⟨fun st=>aw (by kernel_rfl) st,fun a c ma rest=>by kernel_rfl⟩
theorem K5:fe "jns":=dg (by decide +kernel) (fun _ _=>by kernel_rfl) (fun _ _=>by kernel_rfl) (fun _ _=>by kernel_rfl) (fun _ _=>by kernel_rfl)
theorem EF:br "jns" "rel8" 121 0 21:=⟨fun st=>aw (by kernel_rfl) st,fun a c ma rest=>by kernel_rfl⟩
theorem Ds:br "jns" "rel32" 137 1 22:=⟨fun st=>aw (by kernel_rfl) st,fun a c ma rest=>by kernel_rfl⟩
theorem Ot:fe "jp":=dg (by decide +kernel) (fun _ _=>by kernel_rfl) (fun _ _=>by kernel_rfl) (fun _ _=>by kernel_rfl) (fun _ _=>by kernel_rfl)
theorem IK:br "jp" "rel8" 122 0 23:=⟨fun st=>aw (by kernel_rfl) st,fun a c ma rest=>by kernel_rfl⟩
theorem EG:br "jp" "rel32" 138 1 24:=⟨fun st=>aw (by kernel_rfl) st,fun a c ma rest=>by kernel_rfl⟩
theorem K6:fe "jnp":=dg (by decide +kernel) (fun _ _=>by kernel_rfl) (fun _ _=>by kernel_rfl) (fun _ _=>by kernel_rfl) (fun _ _=>by kernel_rfl)
theorem EH:br "jnp" "rel8" 123 0 25:=⟨fun st=>aw (by kernel_rfl) st,fun a c ma rest=>by kernel_rfl⟩
theorem Dt:br "jnp" "rel32" 139 1 26:=⟨fun st=>aw (by kernel_rfl) st,fun a c ma rest=>by kernel_rfl⟩
theorem Ou:fe "jl":=dg (by decide +kernel) (fun _ _=>by kernel_rfl) (fun _ _=>by kernel_rfl) (fun _ _=>by kernel_rfl) (fun _ _=>by kernel_rfl)
theorem IL:br "jl" "rel8" 124 0 27:=⟨fun st=>aw (by kernel_rfl) st,fun a c ma rest=>by kernel_rfl⟩
theorem EI:br "jl" "rel32" 140 1 28:=⟨fun st=>aw (by kernel_rfl) st,fun a c ma rest=>by kernel_rfl⟩
theorem K7:fe "jge":=dg (by decide +kernel) (fun _ _=>by kernel_rfl) (fun _ _=>by kernel_rfl) (fun _ _=>by kernel_rfl) (fun _ _=>by kernel_rfl)
theorem EJ:br "jge" "rel8" 125 0 29:=⟨fun st=>aw (by kernel_rfl) st,fun a c ma rest=>by kernel_rfl⟩
theorem Du:br "jge" "rel32" 141 1 30:=⟨fun st=>aw (by kernel_rfl) st,fun a c ma rest=>by kernel_rfl⟩
theorem K8:fe "jle":=dg (by decide +kernel) (fun _ _=>by kernel_rfl) (fun _ _=>by kernel_rfl) (fun _ _=>by kernel_rfl) (fun _ _=>by kernel_rfl)
theorem EK:br "jle" "rel8" 126 0 31:=⟨fun st=>aw (by kernel_rfl) st,fun a c ma rest=>by kernel_rfl⟩
theorem Dv:br "jle" "rel32" 142 1 32:=⟨fun st=>aw (by kernel_rfl) st,fun a c ma rest=>by kernel_rfl⟩
theorem Ov:fe "jg":=dg (by decide +kernel) (fun _ _=>by kernel_rfl) (fun _ _=>by kernel_rfl) (fun _ _=>by kernel_rfl) (fun _ _=>by kernel_rfl)
theorem IM:br "jg" "rel8" 127 0 33:=⟨fun st=>aw (by kernel_rfl) st,fun a c ma rest=>by kernel_rfl⟩
theorem EL:br "jg" "rel32" 143 1 34:=⟨fun st=>aw (by kernel_rfl) st,fun a c ma rest=>by kernel_rfl⟩
theorem PM:fe "call":=dg (by decide +kernel) (fun _ _=>by kernel_rfl) (fun _ _=>by kernel_rfl) (fun _ _=>by kernel_rfl) (fun _ _=>by kernel_rfl)
theorem AB:br "call" "rel32" 232 0 35:=⟨fun st=>aw (by kernel_rfl) st,fun a c ma rest=>by kernel_rfl⟩
theorem K9:fe "loopne":=dg (by decide +kernel) (fun _ _=>by kernel_rfl) (fun _ _=>by kernel_rfl) (fun _ _=>by kernel_rfl) (fun _ _=>by kernel_rfl)
theorem yV:br "loopne" "rel8" 224 0 40:=⟨fun st=>aw (by kernel_rfl) st,fun a c ma rest=>by kernel_rfl⟩
theorem Mt:fe "loope":=dg (by decide +kernel) (fun _ _=>by kernel_rfl) (fun _ _=>by kernel_rfl) (fun _ _=>by kernel_rfl) (fun _ _=>by kernel_rfl)
theorem AC:br "loope" "rel8" 225 0 41:=⟨fun st=>aw (by kernel_rfl) st,fun a c ma rest=>by kernel_rfl⟩
theorem PN:fe "loop":=dg (by decide +kernel) (fun _ _=>by kernel_rfl) (fun _ _=>by kernel_rfl) (fun _ _=>by kernel_rfl) (fun _ _=>by kernel_rfl)
theorem Dw:br "loop" "rel8" 226 0 42:=⟨fun st=>aw (by kernel_rfl) st,fun a c ma rest=>by kernel_rfl⟩
theorem Mu:fe "jrcxz":=dg (by decide +kernel) (fun _ _=>by kernel_rfl) (fun _ _=>by kernel_rfl) (fun _ _=>by kernel_rfl) (fun _ _=>by kernel_rfl)
theorem AD:br "jrcxz" "rel8" 227 0 43:=⟨fun st=>aw (by kernel_rfl) st,fun a c ma rest=>by kernel_rfl⟩
def tZ (e:List UInt8):Prop:=(Reads e Option.none∧e.length=1)∨∃ I F p,Reads e (some (I,F,p))∧j7 I∧0<e.length∧∀ n,frz 0 [] 30 (DEC I n F p)=some (DEC I n F p)
theorem La {X Y:V}(h1:[INS "sub" [X,Y] ""].all (low 0 30)=true) (h2:s_fatt_name_1 [INS "sub" [X,Y] ""] []=.ok (.str "sub") []) {sx:Str}(hs:sx.length≤20) (h3:s_fsuffix_of_1 [INS "sub" [X,Y] ""] []=.ok (.str sx) [])
  (h4:s_fis_target_1 [INS "sub" [X,Y] ""] []=.ok (.bool false) []):s6 "sub" [X,Y]:=⟨h1,⟨"sub",sx,by decide +kernel,hs,fun st=>aw h2 st,fun st=>aw h3 st⟩,fun st=>aw h4 st,by decide +kernel⟩
theorem Us {d:Int}(h0:-32≤d) (h1:d≤32):j7 (INS "sub" [KJ,aT bH d 64 "" ""] ""):=
 Ol (fun d x=>La (sx:="") (by kernel_rfl) (by kernel_rfl) (by decide +kernel) (by kernel_rfl) (by kernel_rfl)) zK.1 (Dk h0 h1).2.1 fun x hx=>(Dl hx).2.1
theorem Ut {d:Int}(h0:-32≤d) (h1:d≤32):j7 (INS "sub" [gu,aT bH d 32 "fs" ""] ""):=
 Ol (fun d x=>La (sx:="") (by kernel_rfl) (by kernel_rfl) (by decide +kernel) (by kernel_rfl) (by kernel_rfl)) zK.2.1 (Dk h0 h1).2.2 fun x hx=>(Dl hx).2.2
theorem PO:j7 (INS "sub" [gu,Di] "") where
 kn:=fun _=>rfl
 ext:=rfl
 km:=fun _ _ _=>vJ _ _
 low:=fun k=>rfl
 frz:=fun st k=>rfl
 row:=fun a bs t st=>aw (by kernel_rfl) st
 told:=⟨.tup [.str "sub",.str "",.tup [.tup [.str "reg",.str "eax"],.tup [.str "reg",.str "ebx"]]],fun st=>aw (by kernel_rfl) st,s9 (by decide +kernel)⟩
 nd:=fun lk ps N en B A=>by
  have hl:[INS "sub" [gu,Di] "",.int en,.dct ps].all (Mine.low 0 30)=true:=by
   simp only[List.all_cons,List.all_nil,B.low,Bool.and_true];rfl
  exact⟨INS "sub" [gu,Di] "",xC hl (s8 B rfl rfl) (s8 B rfl rfl) (fun wb σ h=>fF wb σ h) (.inl ⟨rfl,fF⟩) (fun _=>rfl) (fun _=>rfl) (fun _=>rfl) (fun st=>aw (by kernel_rfl) st) (fun st=>aw (by kernel_rfl) st) (by kernel_rfl),YE A,fun _=>rfl,fun s=>(by kernel_rfl),
   KO (La (sx:="") (by kernel_rfl) (by kernel_rfl) (by decide +kernel) (by kernel_rfl) (by kernel_rfl)) (fun _=>rfl) (fun _=>rfl) zK.2.1 zK.2.2.1⟩
theorem PP:j7 (INS "sub" [gu,aT xA 8 32 "" ""] "") where
 kn:=fun _=>rfl
 ext:=rfl
 km:=fun _ _ _=>vJ _ _
 low:=fun k=>rfl
 frz:=fun st k=>rfl
 row:=fun a bs t st=>aw (by kernel_rfl) st
 told:=⟨.tup [.str "sub",.str "",.tup [.tup [.str "reg",.str "eax"],.tup [.str "mem",.str "rsp",.str "",.int 1,.int 8,.int 32,.str "",.str ""]]],fun st=>aw (by kernel_rfl) st,s9 (by decide +kernel)⟩
 nd:=fun lk ps N en B A=>by
  have hl:[INS "sub" [gu,aT xA 8 32 "" ""] "",.int en,.dct ps].all (Mine.low 0 30)=true:=by
   simp only[List.all_cons,List.all_nil,B.low,Bool.and_true];rfl
  exact⟨INS "sub" [gu,aT xA 8 32 "" ""] "",xC hl (s8 B rfl rfl) (KY B rfl rfl T9) (fun wb σ h=>fF wb σ h) (.inl ⟨rfl,fF⟩) (fun _=>rfl) (fun _=>rfl) (fun _=>rfl) (fun st=>aw (by kernel_rfl) st) (fun st=>aw (by kernel_rfl) st) (by kernel_rfl),Un (b:="rsp") A (by decide +kernel) Uh (by kernel_rfl) (by kernel_rfl) (by kernel_rfl),fun _=>rfl,fun s=>(by kernel_rfl),
   KO (La (sx:="") (by kernel_rfl) (by kernel_rfl) (by decide +kernel) (by kernel_rfl) (by kernel_rfl)) (fun _=>rfl) (fun _=>rfl) zK.2.1 zK.2.2.2.1⟩
theorem PQ:j7 (INS "sub" [gu,aT .none 16 32 "" ""] "") where
 kn:=fun _=>rfl
 ext:=rfl
 km:=fun _ _ _=>vJ _ _
 low:=fun k=>rfl
 frz:=fun st k=>rfl
 row:=fun a bs t st=>aw (by kernel_rfl) st
 told:=⟨.tup [.str "sub",.str "",.tup [.tup [.str "reg",.str "eax"],.tup [.str "mem",.str "",.str "",.int 1,.int 16,.int 32,.str "",.str ""]]],fun st=>aw (by kernel_rfl) st,s9 (by decide +kernel)⟩
 nd:=fun lk ps N en B A=>by
  have hl:[INS "sub" [gu,aT .none 16 32 "" ""] "",.int en,.dct ps].all (Mine.low 0 30)=true:=by
   simp only[List.all_cons,List.all_nil,B.low,Bool.and_true];rfl
  exact⟨INS "sub" [gu,aT .none 16 32 "" ""] "",xC hl (s8 B rfl rfl) (KY B rfl rfl Ua) (fun wb σ h=>fF wb σ h) (.inl ⟨rfl,fF⟩) (fun _=>rfl) (fun _=>rfl) (fun _=>rfl) (fun st=>aw (by kernel_rfl) st) (fun st=>aw (by kernel_rfl) st) (by kernel_rfl),Un (b:="") A (by decide +kernel) Ui (by kernel_rfl) (by kernel_rfl) (by kernel_rfl),fun _=>rfl,fun s=>(by kernel_rfl),
   KO (La (sx:="") (by kernel_rfl) (by kernel_rfl) (by decide +kernel) (by kernel_rfl) (by kernel_rfl)) (fun _=>rfl) (fun _=>rfl) zK.2.1 zK.2.2.2.2⟩
def enc (h:List Int×Nat) (d:Int):List UInt8:=h.1.map (fun n=>n.toNat.toUInt8)++lb d h.2
def aN (h:List Int×Nat):Prop:=∀ d,-32≤d→d≤32→tZ (enc h d)
theorem po (x:Int) (h1:eH [.int x] []=.ok (.bool false) []) (h2:dZ [.int x] []=.ok (.str "") []):hH x:=⟨fun st=>aw h1 st,fun st=>aw h2 st⟩
theorem hU {m:Str}{v num:Int}(R:br m "rel8" v 0 num) (N:fe m) (hp:hH v) (hv:((v.toNat.toUInt8).toNat:Int)=v) (hy:(v.toNat.toUInt8==15)=false):aN ([v],1):=fun d h0 h1=>
 .inr ⟨_,_,_,TQ R hp hv hy (by omega) (by omega),IE N h0 h1,by simp[enc],fun n=>by kernel_rfl⟩
theorem YF {m:Str}{v num:Int}(R:br m "rel32" v 0 num) (N:fe m) (hp:hH v) (hv:((v.toNat.toUInt8).toNat:Int)=v) (hy:(v.toNat.toUInt8==15)=false):aN ([v],4):=fun d h0 h1=>
 .inr ⟨_,_,_,PE R hp hv hy (by omega) (by omega),IE N h0 h1,by simp[enc],fun n=>by kernel_rfl⟩
theorem gT {m:Str}{v num:Int}(R:br m "rel32" v 1 num) (N:fe m) (hv:((v.toNat.toUInt8).toNat:Int)=v):aN ([15,v],4):=fun d h0 h1=>
 .inr ⟨_,_,_,PF R hv (by omega) (by omega),IE N h0 h1,by simp[enc],fun n=>by kernel_rfl⟩
theorem gd0:aN ([235],1):=hU Eu Ur (po _ (by kernel_rfl) (by kernel_rfl)) (by decide) (by decide)
theorem gd1:aN ([112],1):=hU IF Om (po _ (by kernel_rfl) (by kernel_rfl)) (by decide) (by decide)
theorem gd2:aN ([15,128],4):=gT Ew Om (by decide)
theorem gd3:aN ([113],1):=hU Ex KZ (po _ (by kernel_rfl) (by kernel_rfl)) (by decide) (by decide)
theorem gd4:aN ([15,129],4):=gT Do KZ (by decide)
theorem gd5:aN ([114],1):=hU IG On (po _ (by kernel_rfl) (by kernel_rfl)) (by decide) (by decide)
theorem gd6:aN ([15,130],4):=gT Ey On (by decide)
theorem gd7:aN ([115],1):=hU Ez K2 (po _ (by kernel_rfl) (by kernel_rfl)) (by decide) (by decide)
theorem gd8:aN ([15,131],4):=gT Dp K2 (by decide)
theorem gd9:aN ([116],1):=hU IH Oo (po _ (by kernel_rfl) (by kernel_rfl)) (by decide) (by decide)
theorem YG:aN ([15,132],4):=gT EA Oo (by decide)
theorem YH:aN ([117],1):=hU EB K3 (po _ (by kernel_rfl) (by kernel_rfl)) (by decide) (by decide)
theorem YI:aN ([15,133],4):=gT Dq K3 (by decide)
theorem YJ:aN ([118],1):=hU EC K4 (po _ (by kernel_rfl) (by kernel_rfl)) (by decide) (by decide)
theorem YK:aN ([15,134],4):=gT Dr K4 (by decide)
theorem YL:aN ([119],1):=hU II Oq (po _ (by kernel_rfl) (by kernel_rfl)) (by decide) (by decide)
theorem YM:aN ([15,135],4):=gT ED Oq (by decide)
theorem YN:aN ([120],1):=hU IJ Os (po _ (by kernel_rfl) (by kernel_rfl)) (by decide) (by decide)
theorem YO:aN ([15,136],4):=gT EE Os (by decide)
theorem YQ:aN ([121],1):=hU EF K5 (po _ (by kernel_rfl) (by kernel_rfl)) (by decide) (by decide)
theorem YR:aN ([15,137],4):=gT Ds K5 (by decide)
theorem YS:aN ([122],1):=hU IK Ot (po _ (by kernel_rfl) (by kernel_rfl)) (by decide) (by decide)
theorem YT:aN ([15,138],4):=gT EG Ot (by decide)
theorem YU:aN ([123],1):=hU EH K6 (po _ (by kernel_rfl) (by kernel_rfl)) (by decide) (by decide)
theorem YV:aN ([15,139],4):=gT Dt K6 (by decide)
theorem YW:aN ([124],1):=hU IL Ou (po _ (by kernel_rfl) (by kernel_rfl)) (by decide) (by decide)
theorem YX:aN ([15,140],4):=gT EI Ou (by decide)
theorem YY:aN ([125],1):=hU EJ K7 (po _ (by kernel_rfl) (by kernel_rfl)) (by decide) (by decide)
theorem YZ:aN ([15,141],4):=gT Du K7 (by decide)
theorem Y0:aN ([126],1):=hU EK K8 (po _ (by kernel_rfl) (by kernel_rfl)) (by decide) (by decide)
theorem Y1:aN ([15,142],4):=gT Dv K8 (by decide)
theorem Y2:aN ([127],1):=hU IM Ov (po _ (by kernel_rfl) (by kernel_rfl)) (by decide) (by decide)
theorem Y4:aN ([15,143],4):=gT EL Ov (by decide)
theorem Y5:aN ([232],4):=YF AB PM (po _ (by kernel_rfl) (by kernel_rfl)) (by decide) (by decide)
theorem Y6:aN ([224],1):=hU yV K9 (po _ (by kernel_rfl) (by kernel_rfl)) (by decide) (by decide)
theorem Y7:aN ([225],1):=hU AC Mt (po _ (by kernel_rfl) (by kernel_rfl)) (by decide) (by decide)
theorem Y8:aN ([226],1):=hU Dw PN (po _ (by kernel_rfl) (by kernel_rfl)) (by decide) (by decide)
theorem Y9:aN ([227],1):=hU AD Mu (po _ (by kernel_rfl) (by kernel_rfl)) (by decide) (by decide)
theorem Za:aN ([72,43,5],4):=fun d h0 h1=>.inr ⟨_,_,_,PG (by omega) (by omega),Us h0 h1,by simp[enc],fun n=>by kernel_rfl⟩
theorem Zb:aN ([100,43,5],4):=fun d h0 h1=>.inr ⟨_,_,_,PH (by omega) (by omega),Ut h0 h1,by simp[enc],fun n=>by kernel_rfl⟩
theorem Zc:aN ([43,195],0):=fun d h0 h1=>.inr ⟨_,_,_,Mo,PO,by simp[enc],fun n=>by kernel_rfl⟩
theorem Zd:aN ([43,68,36,8],0):=fun d h0 h1=>.inr ⟨_,_,_,Mp,PP,by simp[enc],fun n=>by kernel_rfl⟩
theorem Ze:aN ([6],0):=fun d h0 h1=>.inl ⟨TR,rfl⟩
theorem Zf:aN ([43,4,37,16,0,0,0],0):=fun d h0 h1=>.inr ⟨_,_,_,Mq,PQ,by simp[enc],fun n=>by kernel_rfl⟩
noncomputable def fG:List (List Int×Nat):=[([235],1),([112],1),([15,128],4),([113],1),([15,129],4),([114],1),([15,130],4),([115],1),([15,131],4),([116],1),([15,132],4),([117],1),([15,133],4),([118],1),([15,134],4),([119],1),([15,135],4),([120],1),([15,136],4),([121],1),([15,137],4),([122],1),([15,138],4),([123],1),([15,139],4),([124],1),([15,140],4),([125],1),([15,141],4),([126],1),([15,142],4),([127],1),([15,143],4),([232],4),([224],1),([225],1),([226],1),([227],1),([72,43,5],4),([100,43,5],4),([43,195],0),([43,68,36,8],0),([6],0),([43,4,37,16,0,0,0],0)]
theorem cK {h:List Int×Nat}{l:List (List Int×Nat)}(p:aN h) (q:∀ x∈l,aN x):∀ x∈h::l,aN x:=fun x hx=>(List.mem_cons.mp hx).elim (fun e=>e▸p) (q x)
theorem IP:∀ h∈fG,aN h:=(cK gd0 (cK gd1 (cK gd2 (cK gd3 (cK gd4 (cK gd5 (cK gd6 (cK gd7 (cK gd8 (cK gd9 (cK YG (cK YH (cK YI (cK YJ (cK YK (cK YL (cK YM (cK YN (cK YO (cK YQ (cK YR (cK YS (cK YT (cK YU (cK YV (cK YW (cK YX (cK YY (cK YZ (cK Y0 (cK Y1 (cK Y2 (cK Y4 (cK Y5 (cK Y6 (cK Y7 (cK Y8 (cK Y9 (cK Za (cK Zb (cK Zc (cK Zd (cK Ze (cK Zf (fun _ h=>nomatch h)))))))))))))))))))))))))))))))))))))))))))))
section
section
variable {pl:Str→Int}{ns:List Str}{σ:S}{env:List V}{st:List MO}
def ND (pl:Str→Int) (ns:List Str):V:=.dct (ns.map fun x=>(.str x,.int (pl x)))
theorem Uu {x:Str}(h:x∈ns):dGet (ns.map fun x=>(V.str x,V.int (pl x))) (.str x)=some (.int (pl x)):=by
 unfold dGet
 induction ns with
 | nil=>cases h
 | cons y r ih=>
  rw[List.map_cons,List.find?_cons]
  by_cases e:y=x
  ·subst e
   simp[keyEq]
  ·have:keyEq (.str y) (.str x)=false:=by simp[keyEq,e]
   dsimp only
   rw[this]
   rcases List.mem_cons.mp h with h | h
   ·exact absurd h.symm e
   ·exact ih h
theorem Ow {x:Str}(h:x∈ns) (σ:S):az (ND pl ns) (.str x) σ=.ok (.int (pl x)) σ:=by
 rw[show az (ND pl ns) (.str x) σ=rM (ND pl ns) (.str x) σ from rfl]
 show(if dOk (ns.map fun x=>(V.str x,V.int (pl x))) (.str x)then(match dGet (ns.map fun x=>(V.str x,V.int (pl x))) (.str x)with | some y=>Rs.ok y σ | Option.none=>.no)else .no)=_
 rw[Uu h,if_pos]
 show(ns.map fun x=>(V.str x,V.int (pl x))).all (fun f=>(eg f.1).isSome)=true
 simp[List.all_map,eg]
theorem FU:u7 (ND pl ns)=some (ns.map fun x=>(V.str x,V.int (pl x))):=by
 unfold u7 ND
 dsimp only[V.un]
 rw[if_pos]
 simp[List.all_map,eg]
theorem Lb (h:ns.length<64) (σ:S):mi (ND pl ns) σ=.ok (.lst ((cu ns).map V.str)) σ:=by
 unfold mi
 rw[FU]
 dsimp only
 rw[if_pos (by simpa using h)]
 congr 4
 simp[List.filterMap_map,Function.comp_def,eg]
def Uv (x:V) (σ:S):Rs (List V):=match u7 x with
 | some fs=>.ok (fs.map (·.1)) σ
 | Option.none=>.no
theorem Lc (w:W1):oH w σ=(w σ).bind Uv:=.trans rfl rfl
theorem Uw:Uv (ND pl ns) σ=.ok (ns.map V.str) σ:=by
 unfold Uv
 rw[FU]
 simp[Function.comp_def]
def tc (pl:Str→Int) (ns:List Str) (k:Int):Option Str:=(cu ns).find? fun x=>pl x==k
theorem Ld (k:Int):(cu (ns.filter fun x=>pl x==k)).head?=tc pl ns k:=by
 have e:cu (ns.filter fun x=>pl x==k)=(cu ns).filter fun x=>pl x==k:=
  oq ((et _).trans ((et ns).symm.filter _)) (iO _) ((iO ns).filter _)
 rw[e,List.head?_filter];rfl
def IQ:S→Rs Bool:=tE (ag aO (ag az (aa 2) (aa 1)) (aa 3))
theorem td (k:Int):∀ (l acc:List _) (u v:V),(∀ x∈l,x∈ns)→∃ u',bz 1 IQ (aa 1) (l.map V.str) acc ⟨[v,u,ND pl ns,.int k],st⟩=.ok (acc++(l.filter fun x=>pl x==k).map V.str) ⟨[v,u',ND pl ns,.int k],st⟩
 | [],acc,u,v,_=>⟨u,by simp[bz]⟩
 | x::l,acc,u,v,h=>by
  have hx:=Ow (pl:=pl) (h x (.head _))
  have kn:∀ σ,kN σ (some (ND pl ns))=.ok (ND pl ns) σ:=fun _=>rfl
  rw[List.map_cons,hG]
  have ht:IQ ⟨[v,u,ND pl ns,.int k].set 1 (.str x),st⟩=.ok (pl x==k) ⟨[v,.str x,ND pl ns,.int k],st⟩:=by
   unfold IQ
   walk_at "g"
  rw[ht]
  cases hb:pl x==k with
  | true=>
   have hw:aa 1 ⟨[v,.str x,ND pl ns,.int k],st⟩=.ok (.str x) ⟨[v,.str x,ND pl ns,.int k],st⟩:=rfl
   rw[xw,hw,sU]
   obtain⟨u',e⟩:=td k l (acc++[.str x]) (.str x) v fun y hy=>h y (.tail _ hy)
   exact⟨u',by rw[e,List.filter_cons,if_pos hb,List.map_cons,List.append_assoc];rfl⟩
  | false=>
   rw[NJ]
   obtain⟨u',e⟩:=td k l acc (.str x) v fun y hy=>h y (.tail _ hy)
   exact⟨u',by rw[e,List.filter_cons,if_neg (by rw[hb];decide)]⟩
theorem xD (k:Nat):low 0 (k+2) (ND pl ns)=true:=by
 show(ns.map fun x=>(V.str x,V.int (pl x))).all (fun e=>low 0 (k+1) e.2)=true
 simp[List.all_map,low]
theorem zL:∀ l:List Str,strsOf (l.map V.str)=some l
 | []=>rfl
 | x::r=>by
  show(match strsOf (r.map V.str)with | some q=>some (x::q) | Option.none=>Option.none)=_
  rw[zL r]
theorem FV (hn:ns.length<64) (k:Int) (st:List MO):s_f_law_name_at_2 [ND pl ns,.int k] st=.ok (.str ((tc pl ns k).getD "")) st:=by
 have hl:[ND pl ns,.int k].all (low 0 30)=true:=by
  simp only[List.all_cons,List.all_nil,xD,Bool.and_true];rfl
 unfold s_f_law_name_at_2
 have kn:∀ σ,kN σ (some (ND pl ns))=.ok (ND pl ns) σ:=fun _=>rfl
 have hc:du (oH (aa 1)) 1 2 [1,2] (tE (ag aO (ag az (aa 2) (aa 1)) (aa 3))) (aa 1) ⟨[.unb,ND pl ns,.int k],[]⟩=.ok (.lst ((ns.filter fun x=>pl x==k).map V.str)) ⟨[.unb,ND pl ns,.int k],[]⟩:=by
  have hi:oH (aa 1) ⟨[.unb,ND pl ns,.int k],[]⟩=.ok (ns.map V.str) ⟨[.unb,ND pl ns,.int k],[]⟩:=by
   rw[Lc,show aa 1 ⟨[.unb,ND pl ns,.int k],[]⟩=.ok (ND pl ns) ⟨[.unb,ND pl ns,.int k],[]⟩from rfl,bw,Uw]
  obtain⟨u',e⟩:=td (pl:=pl) (ns:=ns) (st:=[]) k ns [] .unb .unb fun x hx=>hx
  unfold du
  rw[if_pos (by rfl),hi,bw,if_pos (by
   rw[Bool.and_eq_true];exact⟨rfl,decide_eq_true (by rw[List.length_map];omega)⟩)]
  have e':bz 1 (tE (ag aO (ag az (aa 2) (aa 1)) (aa 3))) (aa 1) (ns.map V.str) [] ⟨List.replicate 2 .unb++[1,2].map (fun i=>([.unb,ND pl ns,.int k]:List V).getD i .unb),[]⟩=_:=e
  dsimp only at e' ⊢
  rw[e']
  rfl
 have hso:∀ σ,tF (.lst ((ns.filter fun x=>pl x==k).map V.str)) σ=.ok (.lst ((cu (ns.filter fun x=>pl x==k)).map V.str)) σ:=fun σ=>by
  show(match strsOf ((ns.filter fun x=>pl x==k).map V.str)with | some ss=>if ss.length<64 then Rs.ok (V.lst ((cu ss).map V.str)) σ else .no | Option.none=>.no)=_
  rw[zL]
  exact if_pos (Nat.lt_of_le_of_lt (List.length_filter_le _ _) hn)
 have hw:∃ env',eA ⟨[.unb,ND pl ns,.int k],[]⟩=.ok (.ret (.str ((tc pl ns k).getD ""))) ⟨env',[]⟩:=by
  rw[← Ld]
  generalize cu (ns.filter fun x=>pl x==k)=l at hso ⊢
  generalize (ns.filter fun x=>pl x==k)=l0 at hso hc
  have hk:∀ (q:List V) (σ:S),kN σ (some (.lst q))=.ok (.lst q) σ:=fun _ _=>rfl
  cases l with
  | nil=>
   have h1:∀ σ,fNe (.lst []) (.lst []) σ=.ok (.bool false) σ:=fun _=>rfl
   simp only[List.map_nil]at hso
   simp only[List.head?_nil,Option.getD_none]
   refine⟨?e,?h⟩
   case h=>
    unfold eA
    walk_at "g"
  | cons x r=>
   have h1:∀ σ,fNe (.lst ((x::r).map V.str)) (.lst []) σ=.ok (.bool true) σ:=fun _=>rfl
   have h2:∀ σ,az (.lst ((x::r).map V.str)) (.int 0) σ=.ok (.str x) σ:=fun σ=>by
    rw[show az (.lst ((x::r).map V.str)) (.int 0) σ=lG (.lst ((x::r).map V.str)) (.int 0) σ from rfl]
    exact xx rfl (by decide) (show seqIndex? 0 ((x::r).map V.str).length=some 0 from by simp[seqIndex?]) rfl
   simp only[List.map_cons]at hso h1 h2
   simp only[List.head?_cons,Option.getD_some]
   refine⟨?e2,?h2⟩
   case h2=>
    unfold eA
    walk_at "g"
 obtain⟨env',hw⟩:=hw
 refine NK (x:=.str ((tc pl ns k).getD "")) (st1:=[]) hl ?_ rfl st
 have he:BX [Str.ofString "names",Str.ofString "place"] (Loc dm) (Cel dm) [ND pl ns,.int k]=[.unb,ND pl ns,.int k]:=by kernel_rfl
 unfold jQ
 rw[if_pos (show[ND pl ns,V.int k].length=[Str.ofString "names",Str.ofString "place"].length from rfl),he,hw]
def nf (pl:Str→Int):List Str→List (V×V)→List (V×V)
 | [],ps=>ps
 | x::r,ps=>nf pl r (if(dGet ps (.int (pl x))).isSome then ps else ps++[(.int (pl x),.str x)])
def IntKeys (ps:List (V×V)):Prop:=∀ f∈ps,∃ i s,f=(V.int i,V.str s)
theorem IR {ps:List (V×V)}(h:IntKeys ps) (k:Int):dOk ps (.int k)=true:=by
 show ps.all (fun f=>(pL f.1).isSome)=true
 rw[List.all_eq_true]
 intro f hf
 obtain⟨i,s,rfl⟩:=h f hf
 rfl
theorem Ux {ps:List (V×V)}(h:IntKeys ps) (k:Nat):low 0 (k+2) (.dct ps)=true:=by
 show ps.all (fun e=>low 0 (k+1) e.2)=true
 rw[List.all_eq_true]
 intro f hf
 obtain⟨i,s,rfl⟩:=h f hf
 rfl
theorem Mv (ps:List (V×V)) (p k:Int) (x:Str):dGet (ps++[(.int p,.str x)]) (.int k)=(dGet ps (.int k)).or (if p==k then some (.str x)else Option.none):=by
 unfold dGet
 rw[List.find?_append]
 cases h:ps.find? fun f=>keyEq f.1 (.int k)with
 | some f=>simp
 | none=>
  simp only[Option.none_or,List.find?_cons,List.find?_nil,Option.map_none]
  show Option.map _ (match(p==k)with | true=>some (V.int p,V.str x) | false=>Option.none)=_
  cases p==k <;> rfl
theorem ql:∀ (l:List Str) (ps:List (V×V)),IntKeys ps→IntKeys (nf pl l ps)∧∀ k:Int,dGet (nf pl l ps) (.int k)=(dGet ps (.int k)).or ((l.find? fun x=>pl x==k).map V.str)
 | [],ps,h=>⟨h,fun k=>by simp[nf]⟩
 | x::r,ps,h=>by
  unfold nf
  by_cases hs:(dGet ps (.int (pl x))).isSome=true
  ·rw[if_pos hs]
   obtain⟨h1,h2⟩:=ql r ps h
   refine⟨h1,fun k=>?_⟩
   rw[h2 k,List.find?_cons]
   by_cases e:pl x=k
   ·subst e
    obtain⟨v,hv⟩:=Option.isSome_iff_exists.mp hs
    rw[hv];simp
   ·rw[show(pl x==k)=false from beq_eq_false_iff_ne.mpr e]
  ·rw[if_neg hs]
   obtain⟨h1,h2⟩:=ql r (ps++[(.int (pl x),.str x)]) (fun f hf=>by
    rcases List.mem_append.mp hf with hf | hf
    ·exact h f hf
    ·rw[List.mem_singleton.mp hf];exact⟨_,_,rfl⟩)
   refine⟨h1,fun k=>?_⟩
   rw[h2 k,Mv,List.find?_cons]
   by_cases e:pl x=k
   ·subst e
    rw[show(pl x==pl x)=true from by simp]
    have hn:dGet ps (.int (pl x))=Option.none:=by
     cases q:dGet ps (.int (pl x))with
     | none=>rfl
     | some v=>rw[q]at hs;exact absurd rfl hs
    rw[hn];simp
   ·rw[show(pl x==k)=false from beq_eq_false_iff_ne.mpr e]
    cases dGet ps (.int k) <;> simp
def FW:W2:=af (aI (tE (ag (eK true) (ag az (aa 0) (aa 2)) (aa 1))) (af (fu (aa 2) (aa 1) (ag az (aa 0) (aa 2))) ai) ai) ai
def oh (x o i:V) (σ:S):Rs Fl:=u6 o i x σ
def IS (wi:W1) (x o:V) (σ:S):Rs Fl:=(wi σ).bind (oh x o)
def Uy (wo wi:W1) (x:V) (σ:S):Rs Fl:=(wo σ).bind (IS wi x)
theorem ng (we wo wi:W1):fu we wo wi σ=(we σ).bind (Uy wo wi):=.trans rfl rfl
theorem pA (wo wi:W1) (x:V):Uy wo wi x σ=(wo σ).bind (IS wi x):=.trans rfl rfl
theorem nh (wi:W1) (x o:V):IS wi x o σ=(wi σ).bind (oh x o):=.trans rfl rfl
theorem FX:∀ (l:List Str) (ps:List (V×V)) (u:V),(∀ x∈l,x∈ns)→IntKeys ps→ps.length+l.length≤1000→
  ∃ u',kF [2] FW ((l.map V.str).map fun x=>[x]) ⟨[ND pl ns,.loc 0,u],[.dct ps]⟩=.ok .next ⟨[ND pl ns,.loc 0,u'],[.dct (nf pl l ps)]⟩
 | [],ps,u,_,_,_=>⟨u,rfl⟩
 | x::r,ps,u,h,hk,hz=>by
  have hx:=Ow (pl:=pl) (h x (.head _))
  have kn:∀ σ,kN σ (some (ND pl ns))=.ok (ND pl ns) σ:=fun _=>rfl
  have hi:eK true (.int (pl x)) (.loc 0) ⟨[ND pl ns,.loc 0,.str x],[.dct ps]⟩=.ok (.bool (!(dGet ps (.int (pl x))).isSome)) ⟨[ND pl ns,.loc 0,.str x],[.dct ps]⟩:=by
   rw[show eK true (.int (pl x)) (.loc 0) ⟨[ND pl ns,.loc 0,.str x],[.dct ps]⟩=u4 true (.int (pl x)) (.loc 0) ⟨[ND pl ns,.loc 0,.str x],[.dct ps]⟩from rfl]
   show(if dOk ps (.int (pl x))then Rs.ok (V.bool (xor true (dGet ps (.int (pl x))).isSome)) _ else .no)=_
   rw[if_pos (IR hk _),Bool.true_xor]
  have hlen:ps.length≤100000:=by simp only[List.length_cons]at hz;omega
  have hs:(dGet ps (.int (pl x))).isSome=false→oh (.str x) (.loc 0) (.int (pl x)) ⟨[ND pl ns,.loc 0,.str x],[.dct ps]⟩=.ok .next ⟨[ND pl ns,.loc 0,.str x],[.dct (ps++[(.int (pl x),.str x)])]⟩:=fun e=>by
   unfold oh
   rw[show u6 (.loc 0) (.int (pl x)) (.str x) ⟨[ND pl ns,.loc 0,.str x],[.dct ps]⟩=yg (.loc 0) (.int (pl x)) (.str x) ⟨[ND pl ns,.loc 0,.str x],[.dct ps]⟩from rfl]
   show(if dOk ps (.int (pl x))&&decide (ps.length≤100000)then Rs.ok Fl.next ⟨[ND pl ns,.loc 0,.str x],([.dct ps]:List MO).set 0 (.dct (lZ ps (.int (pl x)) (.str x)))⟩else .no)=_
   rw[if_pos (by rw[IR hk,decide_eq_true hlen];rfl)]
   unfold lZ
   rw[if_neg]
   ·rfl
   ·intro q
    unfold dGet at e
    cases hf:ps.find? fun f=>keyEq f.1 (.int (pl x))with
    | some f=>rw[hf]at e;cases e
    | none=>
     rw[List.find?_eq_none]at hf
     obtain⟨f,f1,f2⟩:=List.any_eq_true.mp q
     exact hf f f1 f2
  rw[List.map_cons,List.map_cons,iE (by rfl),dO,fE]
  show ∃ u',sS [2] FW _ (FW ⟨[ND pl ns,.loc 0,.str x],[.dct ps]⟩)=_
  have hb:FW ⟨[ND pl ns,.loc 0,.str x],[.dct ps]⟩=.ok .next ⟨[ND pl ns,.loc 0,.str x],[.dct (if(dGet ps (.int (pl x))).isSome then ps else ps++[(.int (pl x),.str x)])]⟩:=by
   have g1:=@ng
   have g2:=@pA
   have g3:=@nh
   clear hz hlen
   unfold FW
   cases hd:(dGet ps (.int (pl x))).isSome with
   | true=>
    rw[hd]at hi
    simp only[if_true]
    clear hs hd
    walk_at "g"
   | false=>
    rw[hd]at hi
    have hs':=hs hd
    simp only[if_false,Bool.false_eq_true]
    clear hs hd
    walk_at "g"
  rw[hb,iq]
  obtain⟨u',e⟩:=FX r (if(dGet ps (.int (pl x))).isSome then ps else ps++[(.int (pl x),.str x)]) (.str x) (fun y hy=>h y (.tail _ hy)) (by
   split
   ·exact hk
   ·intro f hf
    rcases List.mem_append.mp hf with hf | hf
    ·exact hk f hf
    ·rw[List.mem_singleton.mp hf];exact⟨_,_,rfl⟩) (by
   simp only[List.length_cons]at hz
   split
   ·omega
   ·simp only[List.length_append,List.length_cons,List.length_nil];omega)
  exact⟨u',by rw[e];rfl⟩
theorem zM:md ⟨env,st⟩=.ok (.loc st.length) ⟨env,st++[.dct []]⟩:=.trans rfl rfl
theorem nbp (hn:ns.length<64) (st:List MO):s_fnames_by_place_1 [ND pl ns] st=.ok (.dct (nf pl (cu ns) [])) st:=by
 have hsl:(cu ns).length=ns.length:=(et ns).length_eq
 obtain⟨u',e⟩:=FX (pl:=pl) (ns:=ns) (cu ns) [] .unb (fun x hx=>(et ns).mem_iff.mp hx) (fun f hf=>nomatch hf) (by rw[hsl];simp;omega)
 unfold FW at e
 have g0:=@zM
 have kn:∀ σ,kN σ (some (ND pl ns))=.ok (ND pl ns) σ:=fun _=>rfl
 have g1:∀ σ,gw (ND pl ns) .none σ=.ok (.bool true) σ:=fun _=>rfl
 have g2:=Lb (pl:=pl) hn
 have hl:[ND pl ns].all (low 0 30)=true:=by
  simp only[List.all_cons,List.all_nil,xD,Bool.and_true]
 have hik:=(ql (pl:=pl) (cu ns) [] (fun f hf=>nomatch hf)).1
 have hf:frz 0 [.dct (nf pl (cu ns) [])] 30 (.loc 0)=some (.dct (nf pl (cu ns) [])):=by
  show(iH (frz 0 [.dct (nf pl (cu ns) [])] 29) (nf pl (cu ns) [])).map V.dct=_
  have:∀ (l:List (V×V)) (q:List MO),IntKeys l→iH (frz 0 q 29) l=some l:=fun l q=>by
   induction l with
   | nil=>intro _;rfl
   | cons f r ih=>
    intro h
    obtain⟨i,s,rfl⟩:=h f (.head _)
    unfold iH
    rw[ih fun g hg=>h g (.tail _ hg)]
    rfl
  rw[this _ _ hik];rfl
 generalize nf pl (cu ns) []=ps at e hf hik ⊢
 unfold s_fnames_by_place_1
 clear hsl hn
 refine bc (xs:=[ND pl ns]) (g:=1) (nd:=0) (ds:=[]) (k:=2) (x:=.loc 0) (st1:=[.dct ps]) hl rfl rfl ⟨?e,?h⟩ hf st
 case h=>
  show eR ⟨[ND pl ns,.unb,.unb],[]⟩=_
  unfold eR
  simp only[List.map_map]at e
  simp only[bw,Kc,gr,List.getElem?_cons_zero,List.getElem?_cons_succ,kn,pf,CV,pg,xo,ph,n6,CW,jV,gs,n7,m7,tN,qg,eJ,jW,m8,tO,pj,pk,List.set_cons_zero,List.set_cons_succ,gH,jX,sP,Iu,lS,qi,xt,jY,pq,g0,g1,g2,List.length_nil,List.nil_append,List.map_map,e]
  rfl
theorem Mw (hn:∀ x∈ns,x∈NMS):gI (nf pl (cu ns) []) (tc pl ns):=by
 obtain⟨h1,h2⟩:=ql (pl:=pl) (cu ns) [] (fun f hf=>nomatch hf)
 refine⟨Ux h1,IR h1,fun k=>by rw[h2 k];rfl,fun k x h=>hn x ?_⟩
 exact(et ns).mem_iff.mp (List.mem_of_find?_eq_some h)
theorem PR (hl:ns.length<64) (hn:∀ x∈ns,x∈NMS):nc (ND pl ns) (tc pl ns):=
 ⟨xD,fun _=>rfl,FV hl,fun k x h=>hn x ((et ns).mem_iff.mp (List.mem_of_find?_eq_some h))⟩
theorem Dx (st:List MO):s_fnames_by_place_1 [.none] st=.ok (.dct []) st:=aw (by kernel_rfl) st
structure qm (Nm N:V) (ps:List (V×V)) (lk:Int→Option Str):Prop where
 B:gI ps lk
 A:nc N lk
 nbp:∀ st,s_fnames_by_place_1 [Nm] st=.ok (.dct ps) st
 kn:∀ σ,kN σ (some Nm)=.ok Nm σ
 low:∀ k,low 0 (k+2) Nm=true
theorem PS (hl:ns.length<64) (hn:∀ x∈ns,x∈NMS):qm (ND pl ns) (ND pl ns) (nf pl (cu ns) []) (tc pl ns):=⟨Mw hn,PR hl hn,nbp hl,fun _=>rfl,xD⟩
theorem Mx:qm .none (ND (fun _=>0) []) [] (fun _=>Option.none):=
 ⟨⟨fun _=>rfl,fun _=>rfl,fun _=>rfl,fun k x h=>nomatch h⟩,⟨fun _=>rfl,fun _=>rfl,fun k st=>FV (ns:=[]) (by decide) k st,fun k x h=>nomatch h⟩,Dx,fun _=>rfl,fun _=>rfl⟩
end
end
section
section
variable {o e:List UInt8}{a:Nat}{σ:S}{env:List V}{st:List MO}{I F p J N Nm:V}{ps:List (V×V)}{lk:Int→Option Str}{n:Int}
theorem Le:kN σ (some (DEC I n F p))=.ok (DEC I n F p) σ:=.trans rfl rfl
theorem Lf:kA 26 (DEC I n F p) σ=.ok (.int n) σ:=bU 26 _ rfl rfl rfl
theorem Lg (h:isExt I=false):kA 25 (DEC I n F p) σ=.ok I σ:=bU 25 _ rfl rfl h
theorem Ox:fk (DEC I n F p) .none σ=.ok (.bool false) σ:=.trans rfl rfl
theorem Oy:fk .none .none σ=.ok (.bool true) σ:=.trans rfl rfl
theorem lT:[ISET,.bytes o,.int n].all (low 0 30)=true:=by kernel_rfl
theorem Oz {X:V}(h:∀ st,bF [ISET,.bytes o,.int n] st=.ok X st) (hf:frz 0 [] 30 X=some X) (st:List MO):cO [ISET,.bytes o,.int n] st=.ok X st:=by
 have g4:=@dT
 have hi:∃ env',(af (ax (aq bF (ae (aa 0) (ae (aa 1) (ae (aa 2) ah))))) ai) ⟨[ISET,.bytes o,.int n],[]⟩=.ok (.ret X) ⟨env',[]⟩:=by
  refine⟨?e,?h⟩
  case h=>walk_at "g"
 obtain⟨env',hi⟩:=hi
 unfold cO
 refine bc (xs:=[ISET,.bytes o,.int n]) (g:=3) (nd:=0) (ds:=[]) (k:=0) (x:=X) (st1:=[]) lT rfl rfl ⟨env',?_⟩ hf st
 show c8 ⟨[ISET,.bytes o,.int n],[]⟩=_
 unfold c8 yj
 rw[hi]
theorem Lh (h:∀ st,bF [ISET,.bytes o,.int n] st=.exc 83) (st:List MO):cO [ISET,.bytes o,.int n] st=.ok .none st:=by
 have g4:=@dT
 have hi:(af (ax (aq bF (ae (aa 0) (ae (aa 1) (ae (aa 2) ah))))) ai) ⟨[ISET,.bytes o,.int n],[]⟩=.exc 83:=by
  walk_at "g"
 unfold cO
 refine bc (xs:=[ISET,.bytes o,.int n]) (g:=3) (nd:=0) (ds:=[]) (k:=0) (x:=.none) (st1:=[]) lT rfl rfl ⟨[ISET,.bytes o,.int n].map fun _=>.unb,?_⟩ rfl st
 ·show c8 ⟨[ISET,.bytes o,.int n],[]⟩=_
  unfold c8 yj
  rw[hi]
  rfl
theorem VW {X:V}(h:∀ st,bF [ISET,.bytes o,.int n] st=.ok X st) (hf:frz 0 [] 30 X=some X) (st:List MO):s_f_law_told_3 [ISET,.bytes o,.int n] st=.ok X st:=Oz h hf st
theorem Uz (h:∀ st,bF [ISET,.bytes o,.int n] st=.exc 83) (st:List MO):s_f_law_told_3 [ISET,.bytes o,.int n] st=.ok .none st:=Lh h st
theorem Li {x:UInt8}{s:Str}(W:eB o a [x]) (h:∀ st,bF [ISET,.bytes o,.int a] st=.exc 83) (hp:low 0 30 (.dct ps)=true) (st:List MO):
  s_frow_at_5 [ISET,.bytes o,.int a,.dct ps,.str s] st=.ok (ROW a [x] "(bad)" .none) st:=by
 have g0:=Lh h
 have g1:=@Oy
 have g2:∀ σ,iK (.bytes o) (some (a:Int)) (some ((a:Int)+1)) σ=.ok (.bytes [x]) σ:=fun σ=>by rw[W.cut 0 1 (by omega) (by omega) (by simp)];rfl
 have g3:=@dT
 have g4:∀ st,n_Row_5 [.int a,.bytes [x],.str "(bad)",.none] st=.ok (ROW a [x] "(bad)" .none) st:=fun st=>aw (by kernel_rfl) st
 have hl:[ISET,.bytes o,.int a,.dct ps,.str s].all (low 0 30)=true:=by
  have h0:=lT (o:=o) (n:=a)
  simp only[List.all_cons,List.all_nil,Bool.and_true,Bool.and_eq_true]at h0 ⊢
  exact⟨h0.1,h0.2.1,h0.2.2,hp,rfl⟩
 unfold s_frow_at_5
 refine bc (xs:=[ISET,.bytes o,.int a,.dct ps,.str s]) (g:=5) (nd:=0) (ds:=[]) (k:=3) (x:=ROW a [x] "(bad)" .none) (st1:=[]) hl rfl rfl ⟨?e,?h⟩ (by kernel_rfl) st
 case h=>
  show iD ⟨[ISET,.bytes o,.int a,.dct ps,.str s,.unb,.unb,.unb],[]⟩=_
  unfold iD
  walk_at "g"
theorem UA {t:Str}(hl:∀ s:Str,[J,.str s].all (low 0 30)=true) (kJ:∀ σ,kN σ (some J)=.ok J σ) (h:∀ st,s_fwrite_att_1 [J] st=.ok (.str t) st) (st:List MO):d5 [J,.str "att"] st=.ok (.str t) st:=by
 unfold d5
 refine bc (xs:=[J,.str "att"]) (g:=2) (nd:=0) (ds:=[]) (k:=0) (x:=.str t) (st1:=[]) (hl _) rfl rfl ⟨?e,?h⟩ rfl st
 case h=>
  show gF ⟨[J,.str "att"],[]⟩=_
  unfold gF
  walk_at "g"
theorem My {t:Str}(hl:∀ s:Str,[J,.str s].all (low 0 30)=true) (kJ:∀ σ,kN σ (some J)=.ok J σ) (h:∀ st,s_fwrite_intel_1 [J] st=.ok (.str t) st) (st:List MO):d5 [J,.str "intel"] st=.ok (.str t) st:=by
 unfold d5
 refine bc (xs:=[J,.str "intel"]) (g:=2) (nd:=0) (ds:=[]) (k:=0) (x:=.str t) (st1:=[]) (hl _) rfl rfl ⟨?e,?h⟩ rfl st
 case h=>
  show gF ⟨[J,.str "intel"],[]⟩=_
  unfold gF
  walk_at "g"
theorem OA {s t:Str}(W:eB o a e) (G:j7 I) (h:∀ st,bF [ISET,.bytes o,.int a] st=.ok (DEC I e.length F p) st) (hX:frz 0 [] 30 (DEC I e.length F p)=some (DEC I e.length F p)) (hp:low 0 30 (.dct ps)=true)
  (hN:∀ st,s_fnamed_3 [I,.int (a+e.length),.dct ps] st=.ok J st) (kJ:∀ σ,kN σ (some J)=.ok J σ) (hw:∀ st,d5 [J,.str s] st=.ok (.str t) st) (st:List MO):
  s_frow_at_5 [ISET,.bytes o,.int a,.dct ps,.str s] st=.ok (ROW a e t I) st:=by
 have g0:=Oz h hX
 have g1:=@Ox
 have g2:∀ σ,iK (.bytes o) (some (a:Int)) (some ((a:Int)+e.length)) σ=.ok (.bytes e) σ:=fun σ=>by rw[W.cut 0 e.length (by omega) (by omega) (by simp)];simp
 have g3:=@dT
 have g4:=G.row a e t
 have g5:=@Le
 have g6:=@Lf
 have g7:∀ n F p σ,kA 25 (DEC I n F p) σ=.ok I σ:=fun n F p σ=>Lg G.ext
 have g8:=G.kn
 have hl:[ISET,.bytes o,.int a,.dct ps,.str s].all (low 0 30)=true:=by
  have h0:=lT (o:=o) (n:=a)
  simp only[List.all_cons,List.all_nil,Bool.and_true,Bool.and_eq_true]at h0 ⊢
  exact⟨h0.1,h0.2.1,h0.2.2,hp,rfl⟩
 have hf:frz 0 [] 30 (ROW a e t I)=some (ROW a e t I):=by
  have:=G.frz [] 21
  show(kO (frz 0 [] 29) [(1,.int a),(43,.bytes e),(44,.str t),(25,I)]).map (V.inst 1159)=_
  simp only[kO,show frz 0 [] 29 (.int a)=some (.int a)from rfl,show frz 0 [] 29 (.bytes e)=some (.bytes e)from rfl,show frz 0 [] 29 (.str t)=some (.str t)from rfl,this]
  rfl
 unfold s_frow_at_5
 clear W G hX h
 refine bc (xs:=[ISET,.bytes o,.int a,.dct ps,.str s]) (g:=5) (nd:=0) (ds:=[]) (k:=3) (x:=ROW a e t I) (st1:=[]) hl rfl rfl ⟨?e,?h⟩ hf st
 case h=>
  show iD ⟨[ISET,.bytes o,.int a,.dct ps,.str s,.unb,.unb,.unb],[]⟩=_
  unfold iD
  walk_at "g"
structure IU (o:List UInt8) (ps:List (V×V)) (N:V) (a:Nat) (e:List UInt8) (ta ti:Str) (i:V):Prop where
 ra:∀ st,s_frow_at_5 [ISET,.bytes o,.int a,.dct ps,.str "att"] st=.ok (ROW a e ta i) st
 ri:∀ st,s_frow_at_5 [ISET,.bytes o,.int a,.dct ps,.str "intel"] st=.ok (ROW a e ti i) st
 low:∀ k,low 0 (k+8) i=true
 frz:∀ st k,frz 0 st (k+8) i=some i
 kind:(i=.none∧ta="(bad)"∧ti="(bad)"∧∀ st,s_f_law_told_3 [ISET,.bytes o,.int a] st=.ok .none st)∨
  (j7 i∧∃ F p J,(∀ st,s_f_law_told_3 [ISET,.bytes o,.int a] st=.ok (DEC i e.length F p) st)∧(∀ st,s_f_law_due_3 [i,.int (a+e.length),N] st=.ok J st)∧
   (∀ st,s_fwrite_att_1 [J] st=.ok (.str ta) st)∧(∀ st,s_fwrite_intel_1 [J] st=.ok (.str ti) st)∧∀ σ,kN σ (some J)=.ok J σ)
theorem UB (g:tZ e) (W:eB o a e) (M:qm Nm N ps lk):∃ ta ti i,IU o ps N a e ta ti i:=by
 rcases g with⟨hr,hl⟩ | ⟨I,F,p,hr,G,_,hX⟩
 ·obtain⟨x,rfl⟩:=List.length_eq_one_iff.mp hl
  have h:=hr o a W
  exact⟨_,_,.none,Li W h (M.B.low 28),Li W h (M.B.low 28),fun k=>rfl,fun st k=>rfl,.inl ⟨rfl,rfl,rfl,Uz h⟩⟩
 ·have h:=hr o a W
  dsimp only at h
  obtain⟨J,h1,h2,h3,h4,⟨ta,h5⟩,ti,h6⟩:=G.nd lk ps N (a+e.length) M.B M.A
  exact⟨ta,ti,I,OA W G h (hX _) (M.B.low 28) h1 h3 (UA h4 h3 h5),OA W G h (hX _) (M.B.low 28) h1 h3 (My h4 h3 h6),G.low,G.frz,.inr ⟨G,F,p,J,VW h (hX _),h2,h5,h6,h3⟩⟩
end
end
section
section
variable {o e:List UInt8}{σ:S}{env:List V}{st:List MO}{i I F p J N Nm:V}{ps:List (V×V)}{lk:Int→Option Str}{s t:Str}{a:Int}
theorem IV:kA 1 (ROW a e t i) σ=.ok (.int a) σ:=bU 1 _ rfl rfl rfl
theorem Dy:kA 43 (ROW a e t i) σ=.ok (.bytes e) σ:=bU 43 _ rfl rfl rfl
theorem Lj:kA 44 (ROW a e t i) σ=.ok (.str t) σ:=bU 44 _ rfl rfl rfl
theorem xE:kN σ (some (ROW a e t i))=.ok (ROW a e t i) σ:=.trans rfl rfl
theorem Lk (f:FS) (wa:S→Rs (List V)):kM [(1159,f)] wa (ROW a e t i) σ=(wa σ).bind (kM2 f (ROW a e t i)):=fb (by rfl) rfl
theorem FY (hi:∀ k,low 0 (k+8) i=true) (k:Nat):low 0 (k+9) (ROW a e t i)=true:=by
 show([(1,.int a),(43,.bytes e),(44,.str t),(25,i)]:List (Nat×V)).all (fun f=>low 0 (k+8) f.2)=true
 simp only[List.all_cons,List.all_nil,hi k,Bool.and_true];rfl
theorem PT (hi:∀ st k,frz 0 st (k+8) i=some i) (st:List MO) (k:Nat):frz 0 st (k+9) (ROW a e t i)=some (ROW a e t i):=by
 show(kO (frz 0 st (k+8)) [(1,.int a),(43,.bytes e),(44,.str t),(25,i)]).map (V.inst 1159)=_
 simp only[kO,show frz 0 st (k+8) (.int a)=some (.int a)from rfl,show frz 0 st (k+8) (.bytes e)=some (.bytes e)from rfl,show frz 0 st (k+8) (.str t)=some (.str t)from rfl,hi st k]
 rfl
theorem PU (hi:∀ k,low 0 (k+8) i=true) (he:e.length≤10000) (st:List MO):gq [ROW a e t i] st=.ok (.int (a+e.length)) st:=by
 have g0:=@IV
 have g1:=@Dy
 have g2:=@xE
 have g3:∀ σ,bA (.bytes e) σ=.ok (.int e.length) σ:=fun σ=>yS (decide_eq_true (by omega))
 have hl:[ROW a e t i].all (low 0 30)=true:=by
  simp only[List.all_cons,List.all_nil,FY hi 21,Bool.and_true]
 unfold gq
 clear he
 refine bc (xs:=[ROW a e t i]) (g:=1) (nd:=0) (ds:=[]) (k:=0) (x:=.int (a+e.length)) (st1:=[]) hl rfl rfl ⟨?e,?h⟩ rfl st
 case h=>
  show lL ⟨[ROW a e t i],[]⟩=_
  unfold lL
  walk_at "g"
theorem Mz (hi:∀ k,low 0 (k+8) i=true) (st:List MO):cz [ROW a e t i] st=.ok (.tup [.int a,.bytes e,.str t]) st:=by
 have g0:=@IV
 have g1:=@Dy
 have g1':=@Lj
 have g2:=@xE
 have hl:[ROW a e t i].all (low 0 30)=true:=by
  simp only[List.all_cons,List.all_nil,FY hi 21,Bool.and_true]
 unfold cz
 refine bc (xs:=[ROW a e t i]) (g:=1) (nd:=0) (ds:=[]) (k:=0) (x:=.tup [.int a,.bytes e,.str t]) (st1:=[]) hl rfl rfl ⟨?e,?h⟩ rfl st
 case h=>
  show j6 ⟨[ROW a e t i],[]⟩=_
  unfold j6
  walk_at "g"
abbrev RT:=Nat×List UInt8×Str×V
def rowOf (r:RT):V:=ROW r.1 r.2.1 r.2.2.1 r.2.2.2
inductive qX (o:List UInt8) (ps:List (V×V)) (s:Str):Nat→List RT→Prop
 | nil (b:Nat):b=o.length→qX o ps s b []
 | cons (b:Nat) (e:List UInt8) (t:Str) (i:V) (r:List RT):(∀ st,s_frow_at_5 [ISET,.bytes o,.int b,.dct ps,.str s] st=.ok (ROW b e t i) st)→(∀ k,low 0 (k+8) i=true)→(∀ st k,frz 0 st (k+8) i=some i)→0<e.length→b+e.length≤o.length→
   qX o ps s (b+e.length) r→qX o ps s b ((b,e,t,i)::r)
noncomputable def OB:W2:=af (bR (bf cI bx (aa 5) (ae (aq s_frow_at_5 (ae (aa 0) (ae (aa 1) (ae (aa 6) (ae (aa 4) (ae (aa 3) ah)))))) ah))) (af (aG 6 (bq [(1159,gq)] (ag az (aa 5) (eC (aj 1))) ah)) ai)
def Ga:S→Rs Bool:=tE (ag iG (aa 6) (aF (one bA) (ae (aa 1) ah)))
theorem yW (xs:List V) (x:V) (hz:xs.length≤1000) (env:List V):az (.loc 0) (.int (-1)) ⟨env,[.lst (xs++[x])]⟩=.ok x ⟨env,[.lst (xs++[x])]⟩:=by
 rw[show az (.loc 0) (.int (-1)) ⟨env,[.lst (xs++[x])]⟩=lG (.loc 0) (.int (-1)) ⟨env,[.lst (xs++[x])]⟩from rfl]
 have hq:seqIndex? (-1) (xs++[x]).length=some xs.length:=by
  unfold seqIndex?
  rw[if_pos (by decide:(-1:Int)<0),show(-1:Int)+((xs++[x]).length:Nat)=(xs.length:Nat)from by rw[List.length_append];simp only[List.length_cons,List.length_nil];omega]
  dsimp only
  rw[if_pos,Int.toNat_natCast]
  rw[Bool.and_eq_true,decide_eq_true_eq,decide_eq_true_eq,List.length_append]
  simp only[List.length_cons,List.length_nil]
  omega
 exact xx rfl (by decide) hq (by simp)
theorem xF (hz:o.length≤10000) (fi:∀ σ,kN σ (some Nm)=.ok Nm σ):∀ (r:List RT) (a:Nat) (acc:List V) (n:Nat),qX o ps s a r→r.length<n→acc.length+r.length≤1000→
  dp Ga OB n ⟨[ISET,.bytes o,Nm,.str s,.dct ps,.loc 0,.int a],[.lst acc]⟩=.ok .next ⟨[ISET,.bytes o,Nm,.str s,.dct ps,.loc 0,.int o.length],[.lst (acc++r.map rowOf)]⟩
 | [],a,acc,n+1,h,hn,_=>by
  cases h with
  | nil _ ha=>
   subst ha
   have g0:∀ σ,bA (.bytes o) σ=.ok (.int o.length) σ:=fun σ=>yS (decide_eq_true (by omega))
   have ht:Ga ⟨[ISET,.bytes o,Nm,.str s,.dct ps,.loc 0,.int o.length],[.lst acc]⟩=.ok false ⟨[ISET,.bytes o,Nm,.str s,.dct ps,.loc 0,.int o.length],[.lst acc]⟩:=by
    have g1:decide ((o.length:Int)<o.length)=false:=decide_eq_false (by omega)
    clear hn hz
    unfold Ga
    walk_at "g"
   rw[qh,ht,NF,List.map_nil,List.append_nil]
 | (a',e,t,i)::r,a,acc,n+1,h,hn,hl=>by
  cases h with
  | cons _ _ _ _ _ h1 h2 h3 h4 h5 h6=>
   have g0:∀ σ,bA (.bytes o) σ=.ok (.int o.length) σ:=fun σ=>yS (decide_eq_true (by omega))
   have ht:Ga ⟨[ISET,.bytes o,Nm,.str s,.dct ps,.loc 0,.int a'],[.lst acc]⟩=.ok true ⟨[ISET,.bytes o,Nm,.str s,.dct ps,.loc 0,.int a'],[.lst acc]⟩:=by
    have g1:decide ((a':Int)<o.length)=true:=decide_eq_true (by omega)
    clear hn hz hl h1 h2 h3 h4 h5 h6
    unfold Ga
    walk_at "g"
   have hb:OB ⟨[ISET,.bytes o,Nm,.str s,.dct ps,.loc 0,.int a'],[.lst acc]⟩=.ok .next ⟨[ISET,.bytes o,Nm,.str s,.dct ps,.loc 0,.int (a'+e.length)],[.lst (acc++[ROW a' e t i])]⟩:=by
    have g1:=PU (a:=a') (t:=t) h2 (show e.length≤10000 by omega)
    have g2:=@Lk
    have g3:=@dT
    have g4:=qW
    have g5:∀ env,bx [.loc 0,ROW a' e t i] ⟨env,[.lst acc]⟩=.ok .none ⟨env,[.lst (acc++[ROW a' e t i])]⟩:=fun env=>(sV rfl (by omega)).trans rfl
    have g6:=yW acc (ROW a' e t i) (by omega)
    have g7:=@c7
    have g8:∀ σ,kN σ (some (.dct ps))=.ok (.dct ps) σ:=fun _=>rfl
    clear hn hz hl ht h2 h3 h4 h5 h6
    unfold OB
    walk_at "g"
   rw[qh,ht,Iv,hb,FA,show((a':Int)+(e.length:Int))=((a'+e.length:Nat):Int)from by omega]
   simp only[List.length_cons]at hn hl
   rw[xF hz fi r (a'+e.length) (acc++[ROW a' e t i]) n h6 (by omega) (by simp only[List.length_append,List.length_cons,List.length_nil];omega),List.append_assoc]
   rfl
theorem yX:∀ {r:List RT}{a:Nat},qX o ps s a r→∀ st k,eD (frz 0 st (k+9)) (r.map rowOf)=some (r.map rowOf)
 | [],_,_,_,_=>rfl
 | (a',e,t,i)::r,a,h,st,k=>by
  cases h with
  | cons _ _ _ _ _ h1 h2 h3 h4 h5 h6=>
   rw[List.map_cons]
   show(match frz 0 st (k+9) (ROW a' e t i)with | some y=>(match eD (frz 0 st (k+9)) (r.map rowOf)with | some ys=>some (y::ys) | Option.none=>Option.none) | Option.none=>Option.none)=_
   rw[PT h3,yX h6]
   rfl
theorem UC {r:List RT}(hz:o.length≤10000) (fi:∀ σ,kN σ (some Nm)=.ok Nm σ) (hb:∀ st,s_fnames_by_place_1 [Nm] st=.ok (.dct ps) st) (h:qX o ps s 0 r) (hr:r.length<40):∃ env',mZ ⟨[ISET,.bytes o,Nm,.str s,.unb,.unb,.unb],[]⟩=.ok (.ret (.loc 0)) ⟨env',[.lst (r.map rowOf)]⟩:=by
 have e:=xF hz fi r 0 [] 40 h hr (by simp;omega)
 unfold Ga OB at e
 simp only[List.nil_append]at e
 have e':((0:Nat):Int)=0:=rfl
 rw[e']at e
 have g8:∀ σ,kN σ (some (.dct ps))=.ok (.dct ps) σ:=fun _=>rfl
 refine⟨?e,?h⟩
 case h=>
  unfold mZ
  simp only[bw,gr,List.getElem?_cons_zero,List.getElem?_cons_succ,fi,pf,Kd,lR,jU,tM,jV,gs,n7,m7,hb,Bu,eJ,jW,tQ,tR,m9,sQ,List.length_cons,List.length_nil,Nat.zero_add,Nat.reduceAdd,Nat.reduceLeDiff,decide_true,Nat.zero_le,n9,xr,dO,fE,List.reverse_cons,List.reverse_nil,List.nil_append,List.cons_append,List.set_cons_zero,List.set_cons_succ,e,gH,jX,m8]
  rfl
theorem OC {r:List RT}(hz:o.length≤10000) (M:qm Nm N ps lk) (h:qX o ps s 0 r) (hr:r.length<40) (st:List MO):fD [ISET,.bytes o,Nm,.str s] st=.ok (.lst (r.map rowOf)) st:=by
 have hl:[ISET,.bytes o,Nm,.str s].all (low 0 30)=true:=by
  have h0:=lT (o:=o) (n:=0)
  simp only[List.all_cons,List.all_nil,Bool.and_true,Bool.and_eq_true]at h0 ⊢
  exact⟨h0.1,h0.2.1,M.low 28,rfl⟩
 unfold fD
 refine bc (xs:=[ISET,.bytes o,Nm,.str s]) (g:=4) (nd:=0) (ds:=[]) (k:=3) (x:=.loc 0) (st1:=[.lst (r.map rowOf)]) hl rfl rfl (UC hz M.kn M.nbp h hr) ?_ st
 show(eD (frz 0 _ 29) (r.map rowOf)).map V.lst=_
 rw[yX h _ 20];rfl
theorem UD {r:List RT}(hz:o.length≤10000) (h:qX o [] "att" 0 r) (hr:r.length<40) (st:List MO):jo [ISET,.bytes o] st=.ok (.lst (r.map rowOf)) st:=by
 have hl:[ISET,.bytes o].all (low 0 30)=true:=by
  have h0:=lT (o:=o) (n:=0)
  simp only[List.all_cons,List.all_nil,Bool.and_true,Bool.and_eq_true]at h0 ⊢
  exact⟨h0.1,h0.2.1⟩
 unfold jo
 refine bc (xs:=[ISET,.bytes o]) (g:=2) (nd:=2) (ds:=[.none,.str (Str.ofString "att")]) (k:=3) (x:=.loc 0) (st1:=[.lst (r.map rowOf)]) hl rfl rfl (UC hz (fun _=>rfl) Dx h hr) ?_ st
 show(eD (frz 0 _ 29) (r.map rowOf)).map V.lst=_
 rw[yX h _ 20];rfl
end
end
section
section
variable {o e:List UInt8}{σ:S}{env:List V}{st:List MO}{i I F p J N Nm:V}{ps:List (V×V)}{lk:Int→Option Str}{s t ta ti:Str}{a:Nat}
noncomputable def te:W2:=(af (aG 8 (aq s_f_law_told_3 (ae (aa 2) (ae (aa 3) (ae (ao 1 (aa 6)) ah))))) (af (aI (bC (tE (ag fNe (ao 1 (aa 6)) (ao 1 (aa 7)))) (bC (tE (ag fNe (ao 43 (aa 6)) (ao 43 (aa 7)))) (fun σ=>.ok false σ))) (af (ax (cb false)) ai) ai) (af (aI (tE (ag fk (aa 8) bS)) (af (aI (bC (tE (ag fNe (ao 44 (aa 6)) (au (Str.ofString "(bad)")))) (bC (tE (ag fNe (ao 44 (aa 7)) (au (Str.ofString "(bad)")))) (bC (tE (ag gw (ao 25 (aa 6)) bS)) (fun σ=>.ok false σ)))) (af (ax (cb false)) ai) ai) (af gg ai)) ai) (af (aG 9 (aq s_f_law_due_3 (ae (ao 25 (aa 8)) (ae (ag aH (ao 1 (aa 6)) (ao 26 (aa 8))) (ae (eT (tE (ag fk (aa 4) bS)) lP (aa 4)) ah))))) (af (aI (bC (tE (ag fNe (ao 44 (aa 6)) (aq s_fwrite_att_1 (ae (aa 9) ah)))) (bC (tE (ag fNe (ao 44 (aa 7)) (aq s_fwrite_intel_1 (ae (aa 9) ah)))) (fun σ=>.ok false σ))) (af (ax (cb false)) ai) ai) (af (aI (bC (tE (ag fNe (bq [(525,s_fInstruction_told_1)] (ao 25 (aa 6)) ah) (bq [(525,s_fInstruction_told_1)] (ao 25 (aa 8)) ah))) (bC (tE (ag fNe (bq [(525,s_fInstruction_told_1)] (ao 25 (aa 7)) ah) (bq [(525,s_fInstruction_told_1)] (ao 25 (aa 8)) ah))) (fun σ=>.ok false σ))) (af (ax (cb false)) ai) ai) ai))))))
noncomputable def MA:W2:=(af (aG 5 (aY (ae (aq fD (ae (aa 2) (ae (aa 3) (ae (aa 4) (ae (au (Str.ofString "att")) ah))))) (ae (aq fD (ae (aa 2) (ae (aa 3) (ae (aa 4) (ae (au (Str.ofString "intel")) ah))))) ah)))) (af (aI (bj (tE (ag fk (aa 4) bS)) (bj (tE (ag fNe (du (cQ (ag az (aa 5) (aj 0))) 1 2 [] (fun σ=>.ok true σ) (bq [(1159,cz)] (aa 1) ah)) (du (cQ (aq jo (ae (aa 2) (ae (aa 3) ah)))) 1 2 [] (fun σ=>.ok true σ) (bq [(1159,cz)] (aa 1) ah)))) (fun σ=>.ok true σ))) (af (ax (cb false)) ai) ai) (af (cZ (v5 (ae (ag az (aa 5) (aj 0)) (ae (ag az (aa 5) (aj 1)) ah))) [6,7] (af (aG 8 (aq s_f_law_told_3 (ae (aa 2) (ae (aa 3) (ae (ao 1 (aa 6)) ah))))) (af (aI (bC (tE (ag fNe (ao 1 (aa 6)) (ao 1 (aa 7)))) (bC (tE (ag fNe (ao 43 (aa 6)) (ao 43 (aa 7)))) (fun σ=>.ok false σ))) (af (ax (cb false)) ai) ai) (af (aI (tE (ag fk (aa 8) bS)) (af (aI (bC (tE (ag fNe (ao 44 (aa 6)) (au (Str.ofString "(bad)")))) (bC (tE (ag fNe (ao 44 (aa 7)) (au (Str.ofString "(bad)")))) (bC (tE (ag gw (ao 25 (aa 6)) bS)) (fun σ=>.ok false σ)))) (af (ax (cb false)) ai) ai) (af gg ai)) ai) (af (aG 9 (aq s_f_law_due_3 (ae (ao 25 (aa 8)) (ae (ag aH (ao 1 (aa 6)) (ao 26 (aa 8))) (ae (eT (tE (ag fk (aa 4) bS)) lP (aa 4)) ah))))) (af (aI (bC (tE (ag fNe (ao 44 (aa 6)) (aq s_fwrite_att_1 (ae (aa 9) ah)))) (bC (tE (ag fNe (ao 44 (aa 7)) (aq s_fwrite_intel_1 (ae (aa 9) ah)))) (fun σ=>.ok false σ))) (af (ax (cb false)) ai) ai) (af (aI (bC (tE (ag fNe (bq [(525,s_fInstruction_told_1)] (ao 25 (aa 6)) ah) (bq [(525,s_fInstruction_told_1)] (ao 25 (aa 8)) ah))) (bC (tE (ag fNe (bq [(525,s_fInstruction_told_1)] (ao 25 (aa 7)) ah) (bq [(525,s_fInstruction_told_1)] (ao 25 (aa 8)) ah))) (fun σ=>.ok false σ))) (af (ax (cb false)) ai) ai) ai))))))) (af (ax (ag aO (aF (one bA) (ae (ag az (aa 5) (aj 0)) ah)) (aF (one bA) (ae (ag az (aa 5) (aj 1)) ah)))) ai))))
theorem MB:gg σ=.ok .cont σ:=.trans rfl rfl
theorem Zg (x y:List UInt8):fNe (.bytes x) (.bytes y) σ=.ok (.bool (x != y)) σ:=by
 show Rs.ok (V.bool (xor true (x==y))) σ=_
 rw[Bool.true_xor];rfl
theorem UE:gw .none .none σ=.ok (.bool false) σ:=.trans rfl rfl
theorem UF:lP σ=.ok (ND (fun _=>0) []) σ:=.trans rfl rfl
theorem Ll (h:isExt i=false) {a:Int}:kA 25 (ROW a e t i) σ=.ok i σ:=bU 25 _ rfl rfl h
theorem PV (R:IU o ps N a e ta ti i) {sc pen both x8 x9:V}{b:Bool}(fi:∀ σ,kN σ (some Nm)=.ok Nm σ) (hb:∀ σ,fk Nm .none σ=.ok (.bool b) σ) (h1:b=true→N=ND (fun _=>0) []) (h2:b=false→N=Nm):
  ∃ fl y8 y9,(fl=.next∨fl=.cont)∧te ⟨[sc,pen,ISET,.bytes o,Nm,both,ROW a e ta i,ROW a e ti i,x8,x9],st⟩=.ok fl ⟨[sc,pen,ISET,.bytes o,Nm,both,ROW a e ta i,ROW a e ti i,y8,y9],st⟩:=by
 have g0:=@IV
 have g1:=@Dy
 have g2:=@Lj
 have g3:=@xE
 have g4:=@dT
 have g5:=@Zg
 have g6:∀ x:Int,(x != x)=false:=fun x=>by simp
 have g7:∀ x:List UInt8,(x != x)=false:=fun x=>by simp
 have g7':∀ x:List UInt8,(true ^^ (x==x))=false:=fun x=>by simp
 have g8:∀ x:Str,(x != x)=false:=fun x=>by simp
 rcases R.kind with⟨rfl,rfl,rfl,ht⟩ | ⟨G,F,p,J,ht,hd,hwa,hwi,kJ⟩
 ·have g9:=@Oy
  have g10:=@UE
  have g11:=@MB
  have g12:∀ (a:Int) e t σ,kA 25 (ROW a e t .none) σ=.ok .none σ:=fun _ _ _ _=>Ll rfl
  clear hb h1 h2 R
  refine⟨.cont,.none,x9,.inr rfl,?_⟩
  unfold te
  walk_at "g"
 ·have g9:=@Ox
  have g10:=@Le
  have g11:=@Lf
  have g12:∀ n F p σ,kA 25 (DEC i n F p) σ=.ok i σ:=fun n F p σ=>Lg G.ext
  have g13:∀ (a:Int) e t σ,kA 25 (ROW a e t i) σ=.ok i σ:=fun _ _ _ _=>Ll G.ext
  obtain⟨T,hT,hne⟩:=G.told
  have g14:=G.km
  have g15:=G.kn
  have g16:=@c7
  have g17:=@UF
  refine⟨.next,DEC i e.length F p,J,.inl rfl,?_⟩
  cases b with
  | true=>
   obtain rfl:=h1 rfl
   clear h1 h2 R G
   unfold te
   walk_at "g"
  | false=>
   obtain rfl:=h2 rfl
   clear h1 h2 R G
   unfold te
   walk_at "g"
abbrev Gc:=Nat×List UInt8×Str×Str×V
def tf (r:Gc):RT:=(r.1,r.2.1,r.2.2.1,r.2.2.2.2)
def yY (r:Gc):RT:=(r.1,r.2.1,r.2.2.2.1,r.2.2.2.2)
def Dz (o:List UInt8) (ps:List (V×V)) (N:V) (r:Gc):Prop:=IU o ps N r.1 r.2.1 r.2.2.1 r.2.2.2.1 r.2.2.2.2
theorem vK {sc pen both:V}{b:Bool}(fi:∀ σ,kN σ (some Nm)=.ok Nm σ) (hb:∀ σ,fk Nm .none σ=.ok (.bool b) σ) (h1:b=true→N=ND (fun _=>0) []) (h2:b=false→N=Nm):
  ∀ (L:List Gc) (x6 x7 x8 x9:V),(∀ r∈L,Dz o ps N r)→∃ y6 y7 y8 y9,kF [6,7] te (kU ((L.map tf).map rowOf) ((L.map yY).map rowOf)) ⟨[sc,pen,ISET,.bytes o,Nm,both,x6,x7,x8,x9],st⟩=.ok .next ⟨[sc,pen,ISET,.bytes o,Nm,both,y6,y7,y8,y9],st⟩
 | [],x6,x7,x8,x9,_=>⟨x6,x7,x8,x9,rfl⟩
 | r::L,x6,x7,x8,x9,h=>by
  obtain⟨fl,y8,y9,hf,e⟩:=PV (st:=st) (sc:=sc) (pen:=pen) (both:=both) (x8:=x8) (x9:=x9) (h r (.head _)) fi hb h1 h2
  rw[List.map_cons,List.map_cons,List.map_cons,List.map_cons,zH,iE (by rfl),dO,dO,fE]
  show ∃ y6 y7 y8 y9,sS [6,7] te _ (te ⟨[sc,pen,ISET,.bytes o,Nm,both,ROW r.1 r.2.1 r.2.2.1 r.2.2.2.2,ROW r.1 r.2.1 r.2.2.2.1 r.2.2.2.2,x8,x9],st⟩)=_
  rw[e]
  rcases hf with rfl | rfl
  ·rw[iq];exact vK fi hb h1 h2 L _ _ _ _ fun q hq=>h q (.tail _ hq)
  ·rw[C4];exact vK fi hb h1 h2 L _ _ _ _ fun q hq=>h q (.tail _ hq)
def toldOf (r:RT):V:=.tup [.int r.1,.bytes r.2.1,.str r.2.2.1]
theorem zN:∀ (l:List RT) (acc:List V) (u v:V),(∀ r∈l,∀ k,low 0 (k+8) r.2.2.2=true)→∃ u',bz 1 (fun σ=>.ok true σ) (bq [(1159,cz)] (aa 1) ah) (l.map rowOf) acc ⟨[v,u],st⟩=.ok (acc++l.map toldOf) ⟨[v,u'],st⟩
 | [],acc,u,v,_=>⟨u,by simp[bz]⟩
 | (a,e,t,i)::l,acc,u,v,h=>by
  have g0:=@Lk
  have g1:=Mz (a:=a) (e:=e) (t:=t) (i:=i) (h _ (.head _))
  have g2:=@xE
  have g3:=@c7
  have hm:bq [(1159,cz)] (aa 1) ah ⟨[v,ROW a e t i],st⟩=.ok (toldOf (a,e,t,i)) ⟨[v,ROW a e t i],st⟩:=by
   unfold toldOf
   clear h
   walk_at "g"
  rw[List.map_cons,hG,xw]
  obtain⟨u',q⟩:=zN l (acc++[toldOf (a,e,t,i)]) (ROW a e t i) v fun r hr=>h r (.tail _ hr)
  refine⟨u',?_⟩
  show FC 1 _ _ _ _ (bq [(1159,cz)] (aa 1) ah ⟨[v,ROW a e t i],st⟩)=_
  rw[hm,sU,q,List.append_assoc];rfl
theorem Gd:∀ l:List RT,dI (eqT 6) (l.map toldOf) (l.map toldOf)=some true
 | []=>rfl
 | (a,e,t,i)::l=>by
  have h:eqT 6 (toldOf (a,e,t,i)) (toldOf (a,e,t,i))=some true:=by
   simp only[toldOf,lY,xZ,xY,yb,LD,Jk,LF,dI,V.un,beq_self_eq_true,Bool.and_true,Bool.and_self]
  show(match eqT 6 (toldOf (a,e,t,i)) (toldOf (a,e,t,i))with | some a=>(match dI (eqT 6) (l.map toldOf) (l.map toldOf)with | some b=>some (a&&b) | Option.none=>Option.none) | Option.none=>Option.none)=_
  rw[h,Gd l];rfl
theorem PX (l:List RT):fNe (.lst (l.map toldOf)) (.lst (l.map toldOf)) σ=.ok (.bool false) σ:=by
 show(if(l.map toldOf).length=(l.map toldOf).length then dU (dI (eqT 6) (l.map toldOf) (l.map toldOf)) (fun r=>Rs.ok (V.bool (xor true r)) σ)else Rs.ok (V.bool (xor true false)) σ)=_
 rw[if_pos rfl,Gd]
 rfl
end
end
section
section
variable {o e:List UInt8}{σ:S}{env:List V}{st:List MO}{i I F p J N Nm sc pen X Y:V}{ps:List (V×V)}{lk:Int→Option Str}{s t ta ti:Str}{a:Nat}
theorem Zh:az (.lst [X,Y]) (.int 0) σ=.ok X σ:=.trans (by kernel_rfl) rfl
theorem Zi:az (.lst [X,Y]) (.int 1) σ=.ok Y σ:=.trans (by kernel_rfl) rfl
theorem MC {L:List Gc}(hz:o.length≤10000) (M:qm Nm N ps lk) (hA:qX o ps "att" 0 (L.map tf)) (hI:qX o ps "intel" 0 (L.map yY)) (hR:∀ r∈L,Dz o ps N r) (hl:L.length<40) {b:Bool}(hb:∀ σ,fk Nm .none σ=.ok (.bool b) σ)
  (h1:b=true→N=ND (fun _=>0) []∧ps=[]) (h2:b=false→N=Nm):∃ env',MA ⟨[sc,pen,ISET,.bytes o,Nm,.unb,.unb,.unb,.unb,.unb],st⟩=.ok (.ret (.bool true)) ⟨env',st⟩:=by
 have g0:=OC hz M hA (by simpa using hl)
 have g1:=OC hz M hI (by simpa using hl)
 have g2:=@dT
 have g3:=M.kn
 have g4:∀ x:Int,(x==x)=true:=fun x=>by simp
 have g5:∀ σ,bA (.lst ((L.map tf).map rowOf)) σ=.ok (.int L.length) σ:=fun σ=>by
  rw[sT (decide_eq_true (by simp only[List.length_map];omega))];simp only[List.length_map]
 have g6:∀ σ,bA (.lst ((L.map yY).map rowOf)) σ=.ok (.int L.length) σ:=fun σ=>by
  rw[sT (decide_eq_true (by simp only[List.length_map];omega))];simp only[List.length_map]
 have g7:decide (((L.map tf).map rowOf).length≤100000)=true:=decide_eq_true (by simp only[List.length_map];omega)
 have g8:=@Zh
 have g9:=@Zi
 have g10:=@PX
 obtain⟨y6,y7,y8,y9,e⟩:=vK (st:=st) (sc:=sc) (pen:=pen) (both:=.lst [.lst ((L.map tf).map rowOf),.lst ((L.map yY).map rowOf)]) M.kn hb (fun q=>(h1 q).1) h2 L .unb .unb .unb .unb hR
 obtain⟨u',c⟩:=zN (st:=st) (L.map tf) [] .unb .unb (fun r hr k=>by
  obtain⟨q,hq,rfl⟩:=List.mem_map.mp hr
  exact(hR q hq).low k)
 simp only[List.nil_append]at c
 unfold te at e
 refine⟨[sc,pen,ISET,.bytes o,Nm,.lst [.lst ((L.map tf).map rowOf),.lst ((L.map yY).map rowOf)],y6,y7,y8,y9],?_⟩
 unfold MA
 cases b with
 | false=>
  clear h1 h2 hA hI hR M c hl hz
  walk_at "g"
 | true=>
  obtain⟨_,rfl⟩:=h1 rfl
  have g11:=UD hz hA (by simpa using hl)
  clear h1 h2 hA hI hR M hl hz
  walk_at "g"
theorem DA (M:qm Nm N ps lk) (hz:o.length≤10000):∀ (es:List (List UInt8)) (a:Nat),(∀ e∈es,tZ e)→o.drop a=es.flatten→a+es.flatten.length=o.length→
  ∃ L:List Gc,L.length=es.length∧qX o ps "att" a (L.map tf)∧qX o ps "intel" a (L.map yY)∧∀ r∈L,Dz o ps N r
 | [],a,_,_,h2=>⟨[],rfl,.nil _ (by simpa using h2),.nil _ (by simpa using h2),fun _ h=>nomatch h⟩
 | e::es,a,hg,h1,h2=>by
  have hlen:(e::es).flatten.length=e.length+es.flatten.length:=by simp
  rw[hlen]at h2
  have W:eB o a e:=⟨⟨es.flatten,by rw[h1];simp⟩,by omega,hz⟩
  have hp:0<e.length:=by
   rcases hg e (.head _)with⟨_,h⟩ | ⟨_,_,_,_,_,h,_⟩
   ·omega
   ·exact h
  obtain⟨ta,ti,i,R⟩:=UB (hg e (.head _)) W M
  obtain⟨L,l1,l2,l3,l4⟩:=DA M hz es (a+e.length) (fun x hx=>hg x (.tail _ hx)) (by rw[← List.drop_drop,h1];simp) (by omega)
  have hle:a+e.length≤o.length:=by omega
  refine⟨(a,e,ta,ti,i)::L,by simp[l1],.cons _ _ _ _ _ R.ra R.low R.frz hp hle l2,.cons _ _ _ _ _ R.ri R.low R.frz hp hle l3,fun r hr=>?_⟩
  rcases List.mem_cons.mp hr with rfl | hr
  ·exact R
  ·exact l4 r hr
end
end
section
section
variable {c:List Int}{s r m:Int}{tl:List MO}{σ:S}{env:List V}
noncomputable def bI (c:List Int) (s r:Int):MO:=.lst [.lst (c.map V.int),.int s,.int r]
theorem UG:az (.loc 0) (.int 0) ⟨env,bI c s r::tl⟩=.ok (.lst (c.map V.int)) ⟨env,bI c s r::tl⟩:=.trans (by kernel_rfl) rfl
theorem pe1:az (.loc 0) (.int 1) ⟨env,bI c s r::tl⟩=.ok (.int s) ⟨env,bI c s r::tl⟩:=.trans (by kernel_rfl) rfl
theorem Xb:az (.loc 0) (.int 2) ⟨env,bI c s r::tl⟩=.ok (.int r) ⟨env,bI c s r::tl⟩:=.trans (by kernel_rfl) rfl
theorem ps1 (x:Int):oh (.int x) (.loc 0) (.int 1) ⟨env,bI c s r::tl⟩=.ok .next ⟨env,bI c x r::tl⟩:=.trans (by kernel_rfl) rfl
theorem Xc (x:Int):oh (.int x) (.loc 0) (.int 2) ⟨env,bI c s r::tl⟩=.ok .next ⟨env,bI c s x::tl⟩:=.trans (by kernel_rfl) rfl
theorem xG {a b:Int}(h:decide (a.natAbs<2 ^ 63)=true):dC (.int a) (.int b) σ=.ok (.int (a * b)) σ:=by
 show(dU (if a.natAbs<2 ^ 63∨b.natAbs<2 ^ 63 then some (V.int (a * b))else Option.none) fun z=>Rs.ok z σ)=_
 rw[if_pos (.inl (of_decide_eq_true h))];rfl
theorem jq {a b:Int}(h:decide (b=0)=false):b8 (.int a) (.int b) σ=.ok (.int (a.fmod b)) σ:=by
 show(dU (if b=0 then Option.none else some (V.int (a.fmod b))) fun z=>Rs.ok z σ)=_
 rw[if_neg (of_decide_eq_false h)];rfl
theorem UH {a b:Int}(h:b.natAbs<2 ^ 64):Builtin.divisionGoesByPylong a b=false:=by
 unfold Builtin.divisionGoesByPylong
 have h1:(if(b==0)=true then 0 else b.natAbs.log2 / 30+1)≤300:=by
  split
  ·omega
  ·rename_i hb
   have:b.natAbs.log2<64:=by
    rw[Nat.log2_lt (by intro e;exact hb (by simpa using e))]
    exact h
   omega
 dsimp only
 rw[Bool.and_eq_false_iff]
 exact .inl (decide_eq_false (by omega))
theorem DB {a b:Int}(h:decide (b=0)=false) (h2:decide (b.natAbs<2 ^ 64)=true):fS (.int a) (.int b) σ=.ok (.int (a.fdiv b)) σ:=by
 show(dU (if b=0∨Builtin.divisionGoesByPylong a b=true then Option.none else some (V.int (a.fdiv b))) fun z=>Rs.ok z σ)=_
 rw[if_neg (fun q=>q.elim (of_decide_eq_false h) fun q=>nq ((UH (of_decide_eq_true h2)).symm.trans q))];rfl
theorem xH (a:Int):dh (.int a) σ=.ok (.int a) σ:=.trans rfl rfl
theorem Lm {a:Int}{n:Int}(h:decide (0≤n∧(Builtin.Int.intBits a:Int) * n≤2 ^ 27)=true):iF (.int a) (.int n) σ=.ok (.int (a ^ n.toNat)) σ:=by
 show(dU (if 0≤n∧(Builtin.Int.intBits a:Int) * n≤2 ^ 27 then some (V.int (a ^ n.toNat))else Option.none) fun z=>Rs.ok z σ)=_
 rw[if_pos (of_decide_eq_true h)];rfl
theorem VX:iF (.int 10) (.int 18) σ=.ok (.int (10 ^ 18)) σ:=.trans (by kernel_rfl) rfl
theorem DC (a:Int):pJ (.int a) σ=.ok (.int (if a<0 then -a else a)) σ:=.trans rfl rfl
def Draws (m:Int) (c:List Int) (s r:Int) (tl:List MO) (b:Int):Prop:=∃ d s' r',0≤d∧d<m∧0≤s'∧s'≤s+1∧aX [.loc 0,.int m] (bI c s r::tl)=.ok (.int d) (bI c s' r'::tl)
theorem jr {a b:Int}(h:0<b):0≤a.fmod b∧a.fmod b<b:=⟨Int.fmod_nonneg_of_pos a h,Int.fmod_lt_of_pos a h⟩
theorem VY (hm:0<m) (hm2:m≤1000000) (hr:0<r) (hs:0≤s):Draws m c s r tl 0:=by
 refine⟨r.fmod m,s,r.fdiv m,(jr hm).1,(jr hm).2,hs,by omega,?_⟩
 have g0:decide (0<r)=true:=decide_eq_true hr
 have g1:decide (m=0)=false:=decide_eq_false (by omega)
 have g2:decide (m.natAbs<2 ^ 64)=true:=decide_eq_true (by omega)
 have g3:=@Xb
 have g4:=@Xc
 have g5:∀ a σ,b8 (.int a) (.int m) σ=.ok (.int (a.fmod m)) σ:=fun a σ=>jq g1
 have g6:∀ a σ,fS (.int a) (.int m) σ=.ok (.int (a.fdiv m)) σ:=fun a σ=>DB g1 g2
 have g7:=@xH
 have g8:=@ng
 have g9:=@pA
 have g10:=@nh
 clear hr hs hm hm2 g1 g2
 unfold aX
 refine C8 (xs:=[.loc 0,.int m]) (g:=2) (nd:=0) (ds:=[]) (k:=5) rfl rfl ⟨?e,?h⟩
 case h=>
  show eZ ⟨[.loc 0,.int m,.unb,.unb,.unb,.unb,.unb],_⟩=_
  unfold eZ
  walk_at "g"
end
end
section
section
variable {c:List Int}{s r m:Int}{tl:List MO}{σ:S}{env:List V}
noncomputable def Ge:W2:=(af (aI (bj (tE (ag iG (aa 3) (aF (one bA) (ae (ag az (aa 0) (aj 0)) ah)))) (bj (tE (ag uk (aF (one pJ) (ae (aa 4) ah)) (ag iF (aj 10) (aj 18)))) (fun σ=>.ok true σ))) (af (aG 5 (ag jJ (aF (one pJ) (ae (aa 4) ah)) (ag iF (aj 10) (aj 18)))) (af (fu (ag fS (aF (one dh) (ae (aa 5) ah)) (aa 1)) (aa 0) (aj 2)) (af (ax (ag b8 (aF (one dh) (ae (aa 5) ah)) (aa 1))) ai))) ai) (af (aG 6 (ag b8 (aF (one dh) (ae (ag iF (ag aH (ag aH (ag b8 (aF (one dh) (ae (aa 4) ah)) (aj 2147483587)) (ag dC (aj 69491) (aa 3))) (aj 3361)) (aj 5)) ah)) (aj 2147483629))) (af (aG 6 (ag b8 (aF (one dh) (ae (ag iF (ag aH (ag aH (ag dC (aa 6) (ag aH (ag dC (aj 2) (aa 3)) (aj 5717))) (ag dC (ag dC (aj 69491) (aa 3)) (aa 3))) (aj 41)) (aj 3)) ah)) (aj 2147483579))) (af (ax (ag b8 (aF (one dh) (ae (ag fS (aa 6) (aj 32)) ah)) (aa 1))) ai))))
theorem tg:∀ l:List Int,intsOf (l.map V.int)=some l
 | []=>rfl
 | x::r=>by
  show(match intsOf (r.map V.int)with | some q=>some (x::q) | Option.none=>Option.none)=_
  rw[tg r]
theorem VZ (K:W2) (hc:c.length≤100) (hs:0≤s):∃ cell:Int,(af (aG 3 (ag az (aa 0) (aj 1))) (af (fu (ag aH (aa 3) (aj 1)) (aa 0) (aj 1)) (af (aG 4 (ag aH (ag aH (ag dC (aj 69491) (aa 3)) (aj 3361)) (ag b8 (aF (one dh) (ae (aF (one BK) (ae (eE (ag az (aa 0) (aj 0)) fq (cJ (aj 1))) ah)) ah)) (aj 1000003)))) (af (aI (tE (ag fNe (ag az (aa 0) (aj 0)) (aY ah))) (af (aG 4 (ag az (ag az (aa 0) (aj 0)) (ag b8 (aF (one dh) (ae (aa 3) ah)) (aF (one bA) (ae (ag az (aa 0) (aj 0)) ah))))) ai) ai) K)))) ⟨[.loc 0,.int m,.unb,.unb,.unb,.unb,.unb],bI c s r::tl⟩=K ⟨[.loc 0,.int m,.unb,.int s,.int cell,.unb,.unb],bI c (s+1) r::tl⟩:=by
 have g0:=@UG
 have g1:=@pe1
 have g2:=@ps1
 have g3:∀ x σ,dC (.int 69491) (.int x) σ=.ok (.int (69491 * x)) σ:=fun x σ=>xG (by decide)
 have g4:∀ a σ,b8 (.int a) (.int 1000003) σ=.ok (.int (a.fmod 1000003)) σ:=fun a σ=>jq (by decide)
 have g5:=@xH
 have g8:=@ng
 have g9:=@pA
 have g10:=@nh
 have hcut:cR (c.map V.int) Option.none (some 1)=(cR c Option.none (some 1)).map V.int:=by
  unfold cR
  simp only[List.length_map,List.map_take,List.map_drop]
 have g11:∀ σ,iK (.lst (c.map V.int)) Option.none (some 1) σ=.ok (.lst ((cR c Option.none (some 1)).map V.int)) σ:=fun σ=>by
  show(match some (c.map V.int)with | some xs=>if xs.length≤100000 then Rs.ok (V.lst (cR xs Option.none (some 1))) σ else .no | Option.none=>.no)=_
  dsimp only
  rw[if_pos (by rw[List.length_map];omega),hcut]
 have g12:∀ (l:List Int) σ,BK (.lst (l.map V.int)) σ=.ok (.int l.sum) σ:=fun l σ=>by
  show(match intsOf (l.map V.int)with | some ns=>Rs.ok (V.int ns.sum) σ | Option.none=>.no)=_
  rw[tg]
 have g13:∀ σ,bA (.lst (c.map V.int)) σ=.ok (.int c.length) σ:=fun σ=>by
  rw[sT (decide_eq_true (by rw[List.length_map];omega)),List.length_map]
 cases hcc:c with
 | nil=>
  subst hcc
  have g14:∀ σ,fNe (.lst (([]:List Int).map V.int)) (.lst []) σ=.ok (.bool false) σ:=fun _=>rfl
  refine⟨69491 * s+3361+Int.fmod (cR ([]:List Int) Option.none (some 1)).sum 1000003,?_⟩
  simp only[List.map_nil]at g11 g13 g14
  have g0':∀ (env:List V) s r,az (.loc 0) (.int 0) ⟨env,bI [] s r::tl⟩=.ok (.lst []) ⟨env,bI [] s r::tl⟩:=fun _ _ _=>UG
  clear hc hs hcut g0
  walk_at "g"
 | cons x l=>
  rw[← hcc]
  have hl:0<c.length:=by rw[hcc];simp
  have g14:∀ σ,fNe (.lst (c.map V.int)) (.lst []) σ=.ok (.bool true) σ:=fun _=>by rw[hcc];rfl
  have g15:∀ a σ,b8 (.int a) (.int c.length) σ=.ok (.int (a.fmod c.length)) σ:=fun a σ=>jq (decide_eq_false (by omega))
  have hf:=jr (a:=s) (b:=c.length) (by omega)
  have hix:(s.fmod c.length).toNat<c.length:=by omega
  have g16:∀ σ,az (.lst (c.map V.int)) (.int (s.fmod c.length)) σ=.ok (.int c[(s.fmod c.length).toNat]) σ:=fun σ=>by
   rw[show az (.lst (c.map V.int)) (.int (s.fmod c.length)) σ=lG (.lst (c.map V.int)) (.int (s.fmod c.length)) σ from rfl]
   have hq:seqIndex? (s.fmod c.length) (c.map V.int).length=some (s.fmod c.length).toNat:=by
    unfold seqIndex?
    rw[if_neg (show ¬ s.fmod (c.length:Int)<0 by omega),List.length_map]
    dsimp only
    rw[if_pos]
    rw[Bool.and_eq_true,decide_eq_true_eq,decide_eq_true_eq]
    omega
   exact xx rfl (by omega) hq (by rw[List.getElem?_map,List.getElem?_eq_getElem hix];rfl)
  refine⟨c[(s.fmod c.length).toNat],?_⟩
  clear hc hs hcut hcc hl hf
  walk_at "g"
theorem bits_le {a:Int}{k:Nat}(h:a.natAbs<2 ^ k):Builtin.Int.intBits a≤k:=by
 unfold Builtin.Int.intBits
 split
 ·omega
 ·rename_i hb
  have:a.natAbs.log2<k:=by
   rw[Nat.log2_lt (by intro e;exact hb (by simpa using e))]
   exact h
  omega
theorem V0 (cell:Int) (hm:0<m) (hm2:m≤1000000) (hs:0≤s) (hs2:s≤1000) (hc:c.length≤100):∃ d r',0≤d∧d<m∧∃ env',Ge ⟨[.loc 0,.int m,.unb,.int s,.int cell,.unb,.unb],bI c (s+1) r::tl⟩=.ok (.ret (.int d)) ⟨env',bI c (s+1) r'::tl⟩:=by
 have g0:=@UG
 have g1:=@VX
 have g2:=@Xc
 have g5:=@xH
 have g6:=@DC
 have g8:=@ng
 have g9:=@pA
 have g10:=@nh
 have m1:decide (m=0)=false:=decide_eq_false (by omega)
 have m2:decide (m.natAbs<2 ^ 64)=true:=decide_eq_true (by omega)
 have g3:∀ a σ,b8 (.int a) (.int m) σ=.ok (.int (a.fmod m)) σ:=fun a σ=>jq m1
 have g4:∀ a σ,fS (.int a) (.int m) σ=.ok (.int (a.fdiv m)) σ:=fun a σ=>DB m1 m2
 have g13:∀ σ,bA (.lst (c.map V.int)) σ=.ok (.int c.length) σ:=fun σ=>by
  rw[sT (decide_eq_true (by rw[List.length_map];omega)),List.length_map]
 by_cases h1:s<(c.length:Int)∧(10:Int) ^ 18≤(if cell<0 then -cell else cell)
 ·have b1:decide (s<(c.length:Int))=true:=decide_eq_true h1.1
  have b2:decide ((10:Int) ^ 18≤(if cell<0 then -cell else cell))=true:=decide_eq_true h1.2
  generalize hab:(if cell<0 then -cell else cell)=ab at b2
  have g6':∀ σ,pJ (.int cell) σ=.ok (.int ab) σ:=fun σ=>by rw[DC,hab]
  generalize (10:Int) ^ 18=big at b2 g1
  refine⟨(ab - big).fmod m,(ab - big).fdiv m,(jr hm).1,(jr hm).2,?_⟩
  clear h1 hm hm2 hs hs2 hc m1 m2 g6 hab
  refine⟨?e,?h⟩
  case h=>
   unfold Ge
   walk_at "g"
 ·have hx:=jr (a:=cell) (b:=2147483587) (by decide)
  have k1:∀ x σ,dC (.int 69491) (.int x) σ=.ok (.int (69491 * x)) σ:=fun x σ=>xG (by decide)
  have k1':∀ x σ,dC (.int 2) (.int x) σ=.ok (.int (2 * x)) σ:=fun x σ=>xG (by decide)
  have k2:∀ a σ,b8 (.int a) (.int 2147483587) σ=.ok (.int (a.fmod 2147483587)) σ:=fun a σ=>jq (by decide)
  have k3:∀ a σ,b8 (.int a) (.int 2147483629) σ=.ok (.int (a.fmod 2147483629)) σ:=fun a σ=>jq (by decide)
  have k4:∀ a σ,b8 (.int a) (.int 2147483579) σ=.ok (.int (a.fmod 2147483579)) σ:=fun a σ=>jq (by decide)
  have k5:∀ a σ,fS (.int a) (.int 32) σ=.ok (.int (a.fdiv 32)) σ:=fun a σ=>DB (by decide) (by decide)
  generalize hX:cell.fmod 2147483587+69491 * s+3361=X
  have hXb:X.natAbs<2 ^ 40:=by omega
  have p1:∀ σ,iF (.int X) (.int 5) σ=.ok (.int (X ^ 5)) σ:=fun σ=>Lm (decide_eq_true ⟨by decide,by have:=bits_le hXb;omega⟩)
  generalize hX5:X ^ 5=X5 at p1
  have hy:=jr (a:=X5) (b:=2147483629) (by decide)
  have k6:∀ x σ,dC (.int (X5.fmod 2147483629)) (.int x) σ=.ok (.int (X5.fmod 2147483629 * x)) σ:=fun x σ=>xG (decide_eq_true (by omega))
  have k7:∀ σ,dC (.int (69491 * s)) (.int s) σ=.ok (.int (69491 * s * s)) σ:=fun σ=>xG (decide_eq_true (by omega))
  generalize hY:X5.fmod 2147483629 * (2 * s+5717)+69491 * s * s+41=Y
  have hYb:Y.natAbs<2 ^ 60:=by
   have e1:0≤X5.fmod 2147483629 * (2 * s+5717):=Int.mul_nonneg hy.1 (by omega)
   have e2:X5.fmod 2147483629 * (2 * s+5717)≤2147483629 * 7717:=Int.mul_le_mul (by omega) (by omega) (by omega) (by decide)
   have e3:0≤69491 * s * s:=Int.mul_nonneg (by omega) hs
   have e4:69491 * s * s≤69491000 * 1000:=Int.mul_le_mul (by omega) hs2 hs (by decide)
   omega
  have p2:∀ σ,iF (.int Y) (.int 3) σ=.ok (.int (Y ^ 3)) σ:=fun σ=>Lm (decide_eq_true ⟨by decide,by have:=bits_le hYb;omega⟩)
  generalize Y ^ 3=Y3 at p2
  refine⟨((Y3.fmod 2147483579).fdiv 32).fmod m,r,(jr hm).1,(jr hm).2,?_⟩
  by_cases q1:s<(c.length:Int)
  ·have b1:decide (s<(c.length:Int))=true:=decide_eq_true q1
   have b2:decide ((10:Int) ^ 18≤(if cell<0 then -cell else cell))=false:=decide_eq_false fun q=>h1 ⟨q1,q⟩
   generalize hab:(if cell<0 then -cell else cell)=ab at b2
   have g6':∀ σ,pJ (.int cell) σ=.ok (.int ab) σ:=fun σ=>by rw[DC,hab]
   generalize (10:Int) ^ 18=big at b2 g1
   clear h1 hm hm2 hs hs2 hc m1 m2 g6 hab hx hXb hX5 hy hYb q1
   refine⟨?e2,?h2⟩
   case h2=>
    unfold Ge
    walk_at "g"
  ·have b1:decide (s<(c.length:Int))=false:=decide_eq_false q1
   clear h1 hm hm2 hs hs2 hc m1 m2 g6 hx hXb hX5 hy hYb q1
   refine⟨?e3,?h3⟩
   case h3=>
    unfold Ge
    walk_at "g"
theorem PY (hm:0<m) (hm2:m≤1000000) (hs:0≤s) (hs2:s≤1000) (hc:c.length≤100):Draws m c s r tl 0:=by
 by_cases hr:0<r
 ·exact VY hm hm2 hr hs
 ·obtain⟨cell,e1⟩:=VZ (m:=m) (r:=r) (tl:=tl) Ge hc hs
  obtain⟨d,r',h1,h2,env',e2⟩:=V0 (r:=r) (tl:=tl) cell hm hm2 hs hs2 hc
  refine⟨d,s+1,r',h1,h2,by omega,by omega,?_⟩
  have g0:decide (0<r)=false:=decide_eq_false hr
  have g3:=@Xb
  unfold Ge at e1 e2
  rw[e2]at e1
  unfold aX
  refine C8 (xs:=[.loc 0,.int m]) (g:=2) (nd:=0) (ds:=[]) (k:=5) rfl rfl ⟨env',?_⟩
  show eZ ⟨[.loc 0,.int m,.unb,.unb,.unb,.unb,.unb],_⟩=_
  unfold eZ
  rw[eJ,sP,show tE (ag uj (ag az (aa 0) (aj 2)) (aj 0)) ⟨[.loc 0,.int m,.unb,.unb,.unb,.unb,.unb],bI c s r::tl⟩=.ok false ⟨[.loc 0,.int m,.unb,.unb,.unb,.unb,.unb],bI c s r::tl⟩from by
   clear e1 e2 hr hm hm2 hs hs2 hc
   walk_at "g",bw,Bv,tO,bw,jW]
  exact e1
theorem jt (hm:0<m) (hm2:m≤1000000) (hs:0≤s) (hs2:s≤1000) (hc:c.length≤100) {G:Prop}(k:∀ d s' r',0≤d→d<m→0≤s'→s'≤s+1→aX [.loc 0,.int m] (bI c s r::tl)=.ok (.int d) (bI c s' r'::tl)→G):G:=by
 obtain⟨d,s',r',h1,h2,h3,h4,e⟩:=PY (r:=r) (tl:=tl) hm hm2 hs hs2 hc
 exact k d s' r' h1 h2 h3 h4 e
end
end
section
section
variable {c:List Int}{s r m:Int}{tl:List MO}{σ:S}{env:List V}{acc:List V}
noncomputable def DE:W2:=(af (er (bk (ae (aq aX (ae (aa 0) (ae (aj 16) ah))) (ae (aq aX (ae (aa 0) (ae (aj 40) ah))) ah))) [4,3]) (af (aG 5 (aq aX (ae (aa 0) (ae (aj 7) ah)))) (af (aG 6 (aY (ae (aY (ae (aj 235) ah)) (ae (aY (ae (ag aH (aj 112) (aa 3)) ah)) (ae (aY (ae (aj 232) ah)) (ae (aY (ae (aj 15) (ae (ag aH (aj 128) (aa 3)) ah))) (ae (aY (ae (ag aH (aj 224) (ag b8 (aa 3) (aj 4))) ah)) (ae (aY (ae (aj 72) (ae (aj 43) (ae (aj 5) ah)))) (ae (aY (ae (aj 100) (ae (aj 43) (ae (aj 5) ah)))) ah))))))))) (af (aI (bj (tE (ag iG (aa 5) (aj 7))) (bj (tE (ag uj (aq aX (ae (aa 0) (ae (aj 4) ah))) (aj 0))) (fun σ=>.ok true σ))) (af (aG 7 (ag az (aa 6) (aa 5))) (af (bR (bf cI bx (aa 1) (ae (bk (ae (aa 7) (ae (eT (tE (ag (eK false) (aa 5) (bk (ae (aj 0) (ae (aj 1) (ae (aj 4) ah)))))) (aj 1) (aj 4)) (ae (aa 4) ah)))) ah))) ai)) (af (bR (bf cI bx (aa 1) (ae (bk (ae (aq dP (ae (aa 0) (ae (aY (ae (aY (ae (aj 43) (ae (aj 195) ah))) (ae (aY (ae (aj 43) (ae (aj 68) (ae (aj 36) (ae (aj 8) ah))))) (ae (aY (ae (aj 6) ah)) (ae (aY (ae (aj 43) (ae (aj 4) (ae (aj 37) (ae (aj 16) (ae (aj 0) (ae (aj 0) (ae (aj 0) ah)))))))) ah))))) ah))) (ae (aj 0) (ae (aj 0) ah)))) ah))) ai)) ai))))
noncomputable def DF (h:List Int×Nat) (g:Int):V:=.tup [.lst (h.1.map V.int),.int h.2,.int g]
theorem UI:((List.range 16).all fun(i:Nat)=>fG.contains ([112+(i:Int)],1)&&fG.contains ([15,128+(i:Int)],4)&&fG.contains ([224+(i:Int).fmod 4],1))=true:=by decide +kernel
theorem V2 {i:Int}(h0:0≤i) (h1:i<16):([112+i],1)∈fG∧([15,128+i],4)∈fG∧([224+i.fmod 4],1)∈fG:=by
 have:=List.all_eq_true.mp UI i.toNat (List.mem_range.mpr (by omega))
 rw[show((i.toNat:Nat):Int)=i from by omega,Bool.and_eq_true,Bool.and_eq_true]at this
 exact⟨List.contains_iff_mem.mp this.1.1,List.contains_iff_mem.mp this.1.2,List.contains_iff_mem.mp this.2⟩
theorem oi {h:List Int×Nat}(e:fG.contains h=true):h∈fG:=List.contains_iff_mem.mp e
noncomputable def PK:List V:=[.lst [.int 43,.int 195],.lst [.int 43,.int 68,.int 36,.int 8],.lst [.int 6],.lst [.int 43,.int 4,.int 37,.int 16,.int 0,.int 0,.int 0]]
theorem ok1 (x:MO):cI (.loc 1) ⟨env,[x,.lst acc]⟩=true:=zI rfl
theorem apx (hz:acc.length≤1000) (x:MO) (y:V):bx [.loc 1,y] ⟨env,[x,.lst acc]⟩=.ok .none ⟨env,[x,.lst (acc++[y])]⟩:=(sV rfl (by omega)).trans rfl
theorem UJ (hs:0≤s) (hs2:s≤1000) (hc:c.length≤100) {G:Prop}(K:∀ (h:List Int×Nat) (s' r':Int),h∈fG→h.2=0→0≤s'→s'≤s+1→dP [.loc 0,.lst PK] (bI c s r::tl)=.ok (.lst (h.1.map V.int)) (bI c s' r'::tl)→G):G:=by
 refine jt (m:=4) (r:=r) (tl:=tl) (by decide) (by decide) hs hs2 hc fun d s' r' h1 h2 h3 h4 e=>?_
 have g0:∀ σ,kN σ (some (.lst PK))=.ok (.lst PK) σ:=fun _=>rfl
 have g1:∀ σ,bA (.lst PK) σ=.ok (.int 4) σ:=fun _=>rfl
 have key:∀ x:V,(∀ σ,az (.lst PK) (.int d) σ=.ok x σ)→dP [.loc 0,.lst PK] (bI c s r::tl)=.ok x (bI c s' r'::tl):=fun x hx=>by
  clear K h1 h2 h3 h4 hs hs2 hc
  unfold dP
  refine C8 (xs:=[.loc 0,.lst PK]) (g:=2) (nd:=0) (ds:=[]) (k:=0) rfl rfl ⟨?e,?h⟩
  case h=>
   show i3 ⟨[.loc 0,.lst PK],_⟩=_
   unfold i3
   walk_at "g"
 have hd:d=0∨d=1∨d=2∨d=3:=by omega
 rcases hd with rfl | rfl | rfl | rfl
 ·exact K ([43,195],0) s' r' (oi (by decide +kernel)) rfl h3 h4 (key _ fun σ=>by kernel_rfl)
 ·exact K ([43,68,36,8],0) s' r' (oi (by decide +kernel)) rfl h3 h4 (key _ fun σ=>by kernel_rfl)
 ·exact K ([6],0) s' r' (oi (by decide +kernel)) rfl h3 h4 (key _ fun σ=>by kernel_rfl)
 ·exact K ([43,4,37,16,0,0,0],0) s' r' (oi (by decide +kernel)) rfl h3 h4 (key _ fun σ=>by kernel_rfl)
theorem V3 (hs:0≤s) (hs2:s≤990) (hc:c.length≤100) (hz:acc.length≤1000) (x2 x3 x4 x5 x6 x7:V) {G:Prop}(K:∀ (h:List Int×Nat) (g s' r':Int) (y3 y4 y5 y6 y7:V),h∈fG→0≤g→g<40→0≤s'→s'≤s+6→DE ⟨[.loc 0,.loc 1,x2,x3,x4,x5,x6,x7],[bI c s r,.lst acc]⟩=.ok .next ⟨[.loc 0,.loc 1,x2,y3,y4,y5,y6,y7],[bI c s' r',.lst (acc++[DF h g])]⟩→G):G:=by
 refine jt (m:=16) (r:=r) (tl:=[.lst acc]) (by decide) (by decide) hs (by omega) hc fun lo s1 r1 a1 a2 a3 a4 e1=>?_
 refine jt (m:=40) (r:=r1) (tl:=[.lst acc]) (by decide) (by decide) a3 (by omega) hc fun g s2 r2 b1 b2 b3 b4 e2=>?_
 refine jt (m:=7) (r:=r2) (tl:=[.lst acc]) (by decide) (by decide) b3 (by omega) hc fun w s3 r3 c1 c2 c3 c4 e3=>?_
 refine jt (m:=4) (r:=r3) (tl:=[.lst acc]) (by decide) (by decide) c3 (by omega) hc fun q s4 r4 d1 d2 d3 d4 e4=>?_
 have k1:decide (w<7)=true:=decide_eq_true c2
 have k2:∀ a σ,b8 (.int a) (.int 4) σ=.ok (.int (a.fmod 4)) σ:=fun a σ=>jq (by decide)
 have k3:=@ok1
 have k4:∀ env x y,bx [.loc 1,y] ⟨env,[x,.lst acc]⟩=.ok .none ⟨env,[x,.lst (acc++[y])]⟩:=fun env x y=>apx hz x y
 by_cases hq:0<q
 ·have k5:decide (0<q)=true:=decide_eq_true hq
  have key:∀ (h:List Int×Nat),h∈fG→(∀ σ,az (.lst [.lst [.int 235],.lst [.int (112+lo)],.lst [.int 232],.lst [.int 15,.int (128+lo)],.lst [.int (224+lo.fmod 4)],.lst [.int 72,.int 43,.int 5],.lst [.int 100,.int 43,.int 5]]) (.int w) σ=.ok (.lst (h.1.map V.int)) σ)→
    (∀ σ,eT (tE (Ny (eK false) (.int w) (.tup [.int 0,.int 1,.int 4]))) (aj 1) (aj 4) σ=.ok (.int h.2) σ)→G:=fun h hh k6 k7=>by
   have k8:∃ b:Bool,(∀ σ,eK false (.int w) (.tup [.int 0,.int 1,.int 4]) σ=.ok (.bool b) σ)∧(.int h.2:V)=if b then .int 1 else .int 4:=by
    have:=k7 ⟨[],[]⟩
    refine⟨([0,1,4]:List Int).any fun z=>z==w,fun σ=>(by show Rs.ok (V.bool (xor false _)) σ=_;rw[Bool.false_xor]),?_⟩
    cases hb:([0,1,4]:List Int).any fun z=>z==w with
    | true=>
     rw[xp,tN,ph,show eK false (.int w) (.tup [.int 0,.int 1,.int 4]) ⟨[],[]⟩=.ok (.bool (xor false (([0,1,4]:List Int).any fun z=>z==w))) ⟨[],[]⟩from rfl,hb]at this
     exact(Rs.ok.inj this).1.symm
    | false=>
     rw[xp,tN,ph,show eK false (.int w) (.tup [.int 0,.int 1,.int 4]) ⟨[],[]⟩=.ok (.bool (xor false (([0,1,4]:List Int).any fun z=>z==w))) ⟨[],[]⟩from rfl,hb]at this
     exact(Rs.ok.inj this).1.symm
   obtain⟨b,k8,k9⟩:=k8
   refine K h g s4 r4 (.int lo) (.int g) (.int w) (.lst [.lst [.int 235],.lst [.int (112+lo)],.lst [.int 232],.lst [.int 15,.int (128+lo)],.lst [.int (224+lo.fmod 4)],.lst [.int 72,.int 43,.int 5],.lst [.int 100,.int 43,.int 5]]) (.lst (h.1.map V.int)) hh b1 b2 d3 (by omega) ?_
   unfold DF
   rw[k9]
   clear K k7 k9 hh a1 a2 a3 a4 b1 b2 b3 b4 c1 c2 c3 c4 d1 d2 d3 d4 hq hs hs2 hc hz
   unfold DE
   cases b with
   | true=>simp only[if_true];walk_at "g"
   | false=>simp only[if_false,Bool.false_eq_true];walk_at "g"
  have hh:=V2 a1 a2
  have hd:w=0∨w=1∨w=2∨w=3∨w=4∨w=5∨w=6:=by omega
  rcases hd with rfl | rfl | rfl | rfl | rfl | rfl | rfl
  ·exact key ([235],1) (oi (by decide +kernel)) (fun σ=>by kernel_rfl) fun σ=>by kernel_rfl
  ·exact key ([112+lo],1) hh.1 (fun σ=>by kernel_rfl) fun σ=>by kernel_rfl
  ·exact key ([232],4) (oi (by decide +kernel)) (fun σ=>by kernel_rfl) fun σ=>by kernel_rfl
  ·exact key ([15,128+lo],4) hh.2.1 (fun σ=>by kernel_rfl) fun σ=>by kernel_rfl
  ·exact key ([224+lo.fmod 4],1) hh.2.2 (fun σ=>by kernel_rfl) fun σ=>by kernel_rfl
  ·exact key ([72,43,5],4) (oi (by decide +kernel)) (fun σ=>by kernel_rfl) fun σ=>by kernel_rfl
  ·exact key ([100,43,5],4) (oi (by decide +kernel)) (fun σ=>by kernel_rfl) fun σ=>by kernel_rfl
 ·have k5:decide (0<q)=false:=decide_eq_false hq
  refine UJ (r:=r4) (tl:=[.lst acc]) d3 (by omega) hc fun h s5 r5 p1 p2 p3 p4 e5=>?_
  unfold PK at e5
  refine K h 0 s5 r5 (.int lo) (.int g) (.int w) (.lst [.lst [.int 235],.lst [.int (112+lo)],.lst [.int 232],.lst [.int 15,.int (128+lo)],.lst [.int (224+lo.fmod 4)],.lst [.int 72,.int 43,.int 5],.lst [.int 100,.int 43,.int 5]]) x7 p1 (by decide) (by decide) p3 (by omega) ?_
  unfold DF
  rw[p2]
  clear K p1 p2 p3 p4 a1 a2 a3 a4 b1 b2 b3 b4 c1 c2 c3 c4 d1 d2 d3 d4 hq hs hs2 hc hz
  unfold DE
  walk_at "g"
end
end
section
section
variable {c:List Int}{s r m:Int}{tl:List MO}{σ:S}{env:List V}{acc:List V}
abbrev RW:=(List Int×Nat)×Int
def cq (x:RW):V:=DF x.1 x.2
def ju (rows:List RW):Prop:=∀ x∈rows,x.1∈fG∧0≤x.2∧x.2<40
theorem Gf (hc:c.length≤100):∀ (ks:List Int) (acc:List V) (s r:Int) (x2 x3 x4 x5 x6 x7:V),0≤s→s+6 * ks.length≤990→acc.length+ks.length≤1000→
  ∃ (rows:List RW) (s' r':Int) (y2 y3 y4 y5 y6 y7:V),rows.length=ks.length∧ju rows∧0≤s'∧s'≤s+6 * ks.length∧
   kF [2] DE ((ks.map V.int).map fun x=>[x]) ⟨[.loc 0,.loc 1,x2,x3,x4,x5,x6,x7],[bI c s r,.lst acc]⟩=.ok .next ⟨[.loc 0,.loc 1,y2,y3,y4,y5,y6,y7],[bI c s' r',.lst (acc++rows.map cq)]⟩
 | [],acc,s,r,x2,x3,x4,x5,x6,x7,h0,h1,h2=>⟨[],s,r,x2,x3,x4,x5,x6,x7,rfl,fun _ h=>(nomatch h),h0,by simp,by rw[show acc++([]:List RW).map cq=acc from by simp];rfl⟩
 | k::ks,acc,s,r,x2,x3,x4,x5,x6,x7,h0,h1,h2=>by
  simp only[List.length_cons]at h1 h2
  refine V3 (c:=c) (s:=s) (r:=r) (acc:=acc) h0 (by omega) hc (by omega) (.int k) x3 x4 x5 x6 x7 fun h g s1 r1 y3 y4 y5 y6 y7 a1 a2 a3 a4 a5 e=>?_
  obtain⟨rows,s2,r2,z2,z3,z4,z5,z6,z7,b1,b2,b3,b4,e2⟩:=Gf hc ks (acc++[DF h g]) s1 r1 (.int k) y3 y4 y5 y6 y7 a4 (by omega) (by simp only[List.length_append,List.length_cons,List.length_nil];omega)
  refine⟨(h,g)::rows,s2,r2,z2,z3,z4,z5,z6,z7,by simp[b1],fun x hx=>?_,b3,by simp only[List.length_cons];omega,?_⟩
  ·rcases List.mem_cons.mp hx with rfl | hx
   ·exact⟨a1,a2,a3⟩
   ·exact b2 x hx
  ·rw[List.map_cons,List.map_cons,iE (by rfl),dO,fE]
   show sS [2] DE _ (DE ⟨[.loc 0,.loc 1,.int k,x3,x4,x5,x6,x7],[bI c s r,.lst acc]⟩)=_
   rw[e,iq,e2,List.append_assoc];rfl
theorem MD {w:W2}{g nd k:Nat}{xs ds:List V}{x y:V}{st st1:List MO}(hg:xs.length=g) (hn:(xs++ds).length=g+nd) (h:∃ env',w ⟨(xs++ds)++List.replicate k .unb,st⟩=.ok (.ret x) ⟨env',st1⟩) (hf:frz st.length st1 30 x=some y) (ha:(st1.take st.length).all (hV st.length 30)=true):
  cL (fun xs st=>if xs.length=g then jK (g+nd) k w (xs++ds) st else .no) xs st=.ok y (st1.take st.length):=by
 obtain⟨env',h⟩:=h
 unfold cL
 dsimp only
 rw[if_pos hg,C7 hn,h]
 unfold Mi
 dsimp only
 rw[hf]
 dsimp only
 rw[if_pos ha]
theorem low_ints (n k:Nat):∀ l:List Int,(l.map V.int).all (low n (k+1))=true
 | []=>rfl
 | _::l=>low_ints n k l
theorem t6:hV 1 30 (bI c s r)=true:=by
 show([.lst (c.map V.int),.int s,.int r]:List V).all (low 1 30)=true
 rw[List.all_cons,show low 1 30 (.lst (c.map V.int))=true from low_ints 1 28 c];rfl
theorem DG (n:Nat) (st:List MO) (k:Nat):∀ l:List Int,eD (frz n st (k+1)) (l.map V.int)=some (l.map V.int)
 | []=>rfl
 | x::l=>by
  show(match some (V.int x)with | some y=>(match eD (frz n st (k+1)) (l.map V.int)with | some ys=>some (y::ys) | Option.none=>Option.none) | Option.none=>Option.none)=_
  rw[DG n st k l];rfl
theorem PZ (n:Nat) (st:List MO) (k:Nat) (x:RW):frz n st (k+5) (cq x)=some (cq x):=by
 show(eD (frz n st (k+4)) [.lst (x.1.1.map V.int),.int x.1.2,.int x.2]).map V.tup=_
 have:frz n st (k+4) (.lst (x.1.1.map V.int))=some (.lst (x.1.1.map V.int)):=by
  show(eD (frz n st (k+3)) (x.1.1.map V.int)).map V.lst=_
  rw[DG];rfl
 simp only[eD,this,show ∀ i:Int,frz n st (k+4) (.int i)=some (.int i)from fun _=>rfl]
 rfl
theorem DH (n:Nat) (st:List MO) (k:Nat):∀ l:List RW,eD (frz n st (k+5)) (l.map cq)=some (l.map cq)
 | []=>rfl
 | x::l=>by
  show(match frz n st (k+5) (cq x)with | some y=>(match eD (frz n st (k+5)) (l.map cq)with | some ys=>some (y::ys) | Option.none=>Option.none) | Option.none=>Option.none)=_
  rw[PZ,DH n st k l];rfl
theorem P1 (hc:c.length≤100) (hs:0≤s) (hs2:s≤900):∃ (rows:List RW) (s' r':Int),1≤rows.length∧rows.length≤4∧ju rows∧0≤s'∧s'≤s+30∧
  gC [.loc 0] [bI c s r]=.ok (.lst (rows.map cq)) [bI c s' r']:=by
 refine jt (m:=4) (r:=r) (tl:=[.lst []]) (by decide) (by decide) hs (by omega) hc fun d s1 r1 a1 a2 a3 a4 e1=>?_
 have hr:∃ ks:List Int,ks.length=(1+d).toNat∧∀ σ,gc 0 (1+d) 1 σ=.ok (ks.map V.int) σ:=by
  have hd:d=0∨d=1∨d=2∨d=3:=by omega
  rcases hd with rfl | rfl | rfl | rfl
  ·exact⟨[0],rfl,fun σ=>by kernel_rfl⟩
  ·exact⟨[0,1],rfl,fun σ=>by kernel_rfl⟩
  ·exact⟨[0,1,2],rfl,fun σ=>by kernel_rfl⟩
  ·exact⟨[0,1,2,3],rfl,fun σ=>by kernel_rfl⟩
 obtain⟨ks,hk,hr⟩:=hr
 obtain⟨rows,s2,r2,y2,y3,y4,y5,y6,y7,b1,b2,b3,b4,e2⟩:=Gf hc ks [] s1 r1 .unb .unb .unb .unb .unb .unb a3 (by omega) (by simp;omega)
 refine⟨rows,s2,r2,by omega,by omega,b2,b3,by omega,?_⟩
 have g2:=@qk
 have g3:=@kR1
 unfold DE at e2
 simp only[List.nil_append,List.map_map]at e2
 have hw:∃ env',i4 ⟨[.loc 0,.unb,.unb,.unb,.unb,.unb,.unb,.unb],[bI c s r]⟩=.ok (.ret (.loc 1)) ⟨env',[bI c s2 r2,.lst (rows.map cq)]⟩:=by
  refine⟨[.loc 0,.loc 1,y2,y3,y4,y5,y6,y7],?_⟩
  unfold i4
  clear a1 a2 a3 a4 b1 b2 b3 b4 hs hs2 hc hk
  simp only[bw,gr,List.getElem?_cons_zero,List.getElem?_cons_succ,pf,lR,jU,tM,jV,gs,n7,m7,Bu,eJ,jW,m9,sQ,List.length_cons,List.length_nil,Nat.zero_add,Nat.reduceAdd,Nat.reduceLeDiff,decide_true,Nat.zero_le,List.nil_append,List.cons_append,List.set_cons_zero,List.set_cons_succ,pj,pk,pg,xo,ph,Iy,lS,qi,xt,List.map_map,g2,g3,hr,e1,e2,gH,jX,m8]
 unfold gC
 exact MD (xs:=[.loc 0]) (g:=1) (nd:=0) (ds:=[]) (k:=7) (st:=[bI c s r]) (st1:=[bI c s2 r2,.lst (rows.map cq)]) rfl rfl hw (by
  show(eD (frz 1 _ 29) (rows.map cq)).map V.lst=_
  rw[DH 1 _ 24];rfl) (by
  show([bI c s2 r2].all (hV 1 30))=true
  simp only[List.all_cons,List.all_nil,t6,Bool.and_true])
end
end
section
section
variable {σ:S}{env:List V}{R F:V}
noncomputable def IW:W2:=(af (bR (bf cI bx (aa 1) (ae (ag aH (ag aH (ag az (aa 1) (eC (aj 1))) (aF (one bA) (ae (aa 3) ah))) (aa 4)) ah))) ai)
noncomputable def DI:W2:=(af (aG 2 (ag aH (ag aH (aa 2) (ag az (aa 7) (aj 0))) (aq dY (ae (ag jJ (ag b8 (ag az (aa 7) (aj 2)) (ag aH (ag az (aa 1) (eC (aj 1))) (aj 3))) (ag az (aa 1) (ag aH (aa 6) (aj 1)))) (ae (ag az (aa 7) (aj 1)) ah))))) ai)
noncomputable def jv:Int→List RW→List Int
 | _,[]=>[]
 | p,x::r=>(p+x.1.1.length+x.1.2)::jv (p+x.1.1.length+x.1.2) r
def DJ (x:RW):List V:=[.lst (x.1.1.map V.int),.int x.1.2,.int x.2]
theorem UK:(fG.all fun h=>decide (h.1.length≤7)&&decide (1≤h.1.length)&&decide (h.1.length+h.2≤7)&&(h.2==0 || h.2==1 || h.2==4)&&h.1.all fun n=>decide (0≤n)&&decide (n<256))=true:=by decide +kernel
theorem yZ {h:List Int×Nat}(hm:h∈fG):h.1.length≤7∧1≤h.1.length∧h.1.length+h.2≤7∧(h.2=0∨h.2=1∨h.2=4)∧∀ n∈h.1,0≤n∧n<256:=by
 have:=List.all_eq_true.mp UK h hm
 simp only[Bool.and_eq_true,Bool.or_eq_true,decide_eq_true_eq,beq_iff_eq,List.all_eq_true]at this
 obtain⟨⟨⟨⟨a,b⟩,c⟩,d⟩,e⟩:=this
 exact⟨a,b,c,by omega,e⟩
theorem ME (l:List Int) (h:l.length≤1000) (σ:S):bA (.lst (l.map V.int)) σ=.ok (.int l.length) σ:=by
 rw[sT (decide_eq_true (by rw[List.length_map];omega)),List.length_map]
theorem OD:∀ (rows:List RW) (acc:List V) (p:Int) (x3 x4 x5 x6 x7:V),ju rows→acc.length+rows.length≤900→
  ∃ y3 y4 y5,kF [3,4,5] IW (rows.map DJ) ⟨[R,.loc 0,F,x3,x4,x5,x6,x7],[.lst (acc++[.int p])]⟩=.ok .next ⟨[R,.loc 0,F,y3,y4,y5,x6,x7],[.lst (acc++[.int p]++(jv p rows).map V.int)]⟩
 | [],acc,p,x3,x4,x5,x6,x7,_,_=>⟨x3,x4,x5,by rw[show acc++[V.int p]++(jv p []).map V.int=acc++[V.int p]from by simp[jv]];rfl⟩
 | x::rows,acc,p,x3,x4,x5,x6,x7,h,hz=>by
  simp only[List.length_cons]at hz
  have hx:=yZ (h x (.head _)).1
  have g0:=yW acc (.int p) (by omega)
  have g1:=ME x.1.1 (by omega)
  have g2:=qW
  have g3:∀ env y,bx [.loc 0,y] ⟨env,[.lst (acc++[.int p])]⟩=.ok .none ⟨env,[.lst (acc++[.int p]++[y])]⟩:=fun env y=>(sV rfl (by simp only[List.length_append,List.length_cons,List.length_nil];omega)).trans rfl
  have e:IW ⟨[R,.loc 0,F,.lst (x.1.1.map V.int),.int x.1.2,.int x.2,x6,x7],[.lst (acc++[.int p])]⟩=.ok .next ⟨[R,.loc 0,F,.lst (x.1.1.map V.int),.int x.1.2,.int x.2,x6,x7],[.lst (acc++[.int p]++[.int (p+x.1.1.length+x.1.2)])]⟩:=by
   clear hx hz h
   unfold IW
   walk_at "g"
  obtain⟨y3,y4,y5,e2⟩:=OD rows (acc++[.int p]) (p+x.1.1.length+x.1.2) (.lst (x.1.1.map V.int)) (.int x.1.2) (.int x.2) x6 x7 (fun y hy=>h y (.tail _ hy)) (by simp only[List.length_append,List.length_cons,List.length_nil];omega)
  refine⟨y3,y4,y5,?_⟩
  rw[List.map_cons,iE (by rfl)]
  rw[show c5 [R,.loc 0,F,x3,x4,x5,x6,x7] [3,4,5] (DJ x)=[R,.loc 0,F,.lst (x.1.1.map V.int),.int x.1.2,.int x.2,x6,x7]from rfl,e,iq,e2]
  simp only[jv,List.map_cons,List.append_assoc,List.singleton_append,List.cons_append,List.nil_append]
noncomputable def pB (d:Int) (w:Nat):List Int:=(List.range w).map fun(t:Nat)=>(d.fdiv (256 ^ t)).fmod 256
theorem V4 (d:Int) (w:Nat):lb d w=(pB d w).map fun n=>n.toNat.toUInt8:=by simp[lb,pB,Function.comp_def]
theorem Ln (d:Int) {w:Nat}(h:w=0∨w=1∨w=4) (st:List MO):dY [.int d,.int w] st=.ok (.lst ((pB d w).map V.int)) st:=by
 rcases h with rfl | rfl | rfl
 ·exact aw (by kernel_rfl) st
 ·exact aw (by kernel_rfl) st
 ·exact aw (by kernel_rfl) st
theorem UL {a b:List Int}(h:decide (a.length+b.length≤100000)=true):aH (.lst (a.map V.int)) (.lst (b.map V.int)) σ=.ok (.lst ((a++b).map V.int)) σ:=by
 show(if(a.map V.int).length+(b.map V.int).length≤100000 then fO (a.map V.int++b.map V.int) σ else .no)=_
 rw[if_pos (by simpa using of_decide_eq_true h)]
 show(if(a.map V.int++b.map V.int).length≤100000 then Rs.ok (V.lst (a.map V.int++b.map V.int)) σ else .no)=_
 rw[if_pos (by simpa using of_decide_eq_true h),List.map_append]
noncomputable def dR (T p:Int) (x:RW):Int:=x.2.fmod (T+3) - (p+x.1.1.length+x.1.2)
def gJ (T:Int):Int→List RW→List Int
 | _,[]=>[]
 | p,x::r=>x.1.1++pB (dR T p x) x.1.2++gJ T (p+x.1.1.length+x.1.2) r
def jZ (T:Int):Int→List RW→List (List UInt8)
 | _,[]=>[]
 | p,x::r=>enc x.1 (dR T p x)::jZ T (p+x.1.1.length+x.1.2) r
theorem Gg (T:Int):∀ (p:Int) (rows:List RW),(gJ T p rows).map (fun n=>n.toNat.toUInt8)=(jZ T p rows).flatten
 | _,[]=>rfl
 | p,x::r=>by
  rw[gJ,jZ,List.map_append,List.map_append,Gg T _ r,List.flatten_cons,enc,V4]
theorem UM {PL:List Int}{k:Nat}{q:Int}(h:PL[k]?=some q) (hz:PL.length≤1000) (env:List V) {n:Int}(hn:n=k):az (.loc 0) (.int n) ⟨env,[.lst (PL.map V.int)]⟩=.ok (.int q) ⟨env,[.lst (PL.map V.int)]⟩:=by
 subst hn
 obtain⟨hk,e⟩:=List.getElem?_eq_some_iff.mp h
 unfold az
 rw[if_neg (by rw[show tC (.loc 0) ⟨env,[.lst (PL.map V.int)]⟩=false from rfl];decide)]
 have hq:seqIndex? (k:Int) (PL.map V.int).length=some k:=by
  unfold seqIndex?
  rw[if_neg (show ¬ (k:Int)<0 by omega),List.length_map]
  dsimp only
  rw[if_pos,Int.toNat_natCast]
  rw[Bool.and_eq_true,decide_eq_true_eq,decide_eq_true_eq]
  omega
 exact xx rfl (by omega) hq (by rw[List.getElem?_map,h];rfl)
theorem OE {PL:List Int}{T:Int}(hz:PL.length≤900) (hT:PL=PL.dropLast++[T]) (hT0:0≤T):∀ (rows:List RW) (k:Nat) (p:Int) (A:List Int) (x3 x4 x5 x6 x7:V),ju rows→PL.drop k=p::jv p rows→A.length+20 * rows.length≤5000→
  ∃ y6 y7,kF [6,7] DI (j2 k (rows.map cq)) ⟨[R,.loc 0,.lst (A.map V.int),x3,x4,x5,x6,x7],[.lst (PL.map V.int)]⟩=.ok .next ⟨[R,.loc 0,.lst ((A++gJ T p rows).map V.int),x3,x4,x5,y6,y7],[.lst (PL.map V.int)]⟩
 | [],k,p,A,x3,x4,x5,x6,x7,_,_,_=>⟨x6,x7,by rw[show A++gJ T p []=A from by simp[gJ]];rfl⟩
 | x::rows,k,p,A,x3,x4,x5,x6,x7,h,hd,hA=>by
  simp only[List.length_cons]at hA
  have hx:=yZ (h x (.head _)).1
  have hl:(pB (dR T p x) x.1.2).length=x.1.2:=by simp[pB]
  have q1:PL[k+1]?=some (p+x.1.1.length+x.1.2):=by
   have:(PL.drop k)[1]?=some (p+x.1.1.length+x.1.2):=by rw[hd];rfl
   rwa [List.getElem?_drop]at this
  have g0:∀ env,az (.loc 0) (.int (-1)) ⟨env,[.lst (PL.map V.int)]⟩=.ok (.int T) ⟨env,[.lst (PL.map V.int)]⟩:=fun env=>by
   have:=yW (PL.dropLast.map V.int) (.int T) (by simp;omega) env
   have e:PL.map V.int=PL.dropLast.map V.int++[.int T]:=by
    conv=>lhs;rw[hT]
    rw[List.map_append];rfl
   rw[e];exact this
  have g1:∀ env,az (.loc 0) (.int ((k:Int)+1)) ⟨env,[.lst (PL.map V.int)]⟩=.ok (.int (p+x.1.1.length+x.1.2)) ⟨env,[.lst (PL.map V.int)]⟩:=fun env=>UM q1 (by omega) env (by omega)
  have g2:∀ a σ,b8 (.int a) (.int (T+3)) σ=.ok (.int (a.fmod (T+3))) σ:=fun a σ=>jq (decide_eq_false (by omega))
  have g3:∀ st,dY [.int (x.2.fmod (T+3) - (p+x.1.1.length+x.1.2)),.int x.1.2] st=.ok (.lst ((pB (dR T p x) x.1.2).map V.int)) st:=fun st=>Ln _ hx.2.2.2.1 st
  have g4:∀ σ,az (cq x) (.int 0) σ=.ok (.lst (x.1.1.map V.int)) σ:=fun σ=>Uj
  have g5:∀ σ,az (cq x) (.int 1) σ=.ok (.int x.1.2) σ:=fun σ=>Uk
  have g6:∀ σ,az (cq x) (.int 2) σ=.ok (.int x.2) σ:=fun σ=>by
   show az (.tup [.lst (x.1.1.map V.int),.int x.1.2,.int x.2]) (.int 2) σ=_
   kernel_rfl
  have g7:∀ σ,kN σ (some (cq x))=.ok (cq x) σ:=fun _=>rfl
  have g8:∀ σ,aH (.lst (A.map V.int)) (.lst (x.1.1.map V.int)) σ=.ok (.lst ((A++x.1.1).map V.int)) σ:=fun σ=>UL (decide_eq_true (by omega))
  have g9:∀ σ,aH (.lst ((A++x.1.1).map V.int)) (.lst ((pB (dR T p x) x.1.2).map V.int)) σ=.ok (.lst ((A++x.1.1++pB (dR T p x) x.1.2).map V.int)) σ:=fun σ=>UL (decide_eq_true (by rw[List.length_append,hl];omega))
  have g10:∀ (l:List Int) σ,kN σ (some (.lst (l.map V.int)))=.ok (.lst (l.map V.int)) σ:=fun _ _=>rfl
  have e:DI ⟨[R,.loc 0,.lst (A.map V.int),x3,x4,x5,.int k,cq x],[.lst (PL.map V.int)]⟩=.ok .next ⟨[R,.loc 0,.lst ((A++x.1.1++pB (dR T p x) x.1.2).map V.int),x3,x4,x5,.int k,cq x],[.lst (PL.map V.int)]⟩:=by
   clear hz hT hT0 hA hx hl q1 hd h
   unfold DI
   walk_at "k"
  obtain⟨y6,y7,e2⟩:=OE hz hT hT0 rows (k+1) (p+x.1.1.length+x.1.2) (A++x.1.1++pB (dR T p x) x.1.2) x3 x4 x5 (.int k) (cq x) (fun y hy=>h y (.tail _ hy)) (by
   rw[← List.drop_drop,hd];rfl) (by simp only[List.length_append,hl];omega)
  refine⟨y6,y7,?_⟩
  rw[List.map_cons]
  show kF [6,7] DI ([.int k,cq x]::j2 (k+1) (rows.map cq)) _=_
  rw[iE (by rfl)]
  rw[show c5 [R,.loc 0,.lst (A.map V.int),x3,x4,x5,x6,x7] [6,7] [.int k,cq x]=[R,.loc 0,.lst (A.map V.int),x3,x4,x5,.int k,cq x]from rfl,e,iq,e2]
  simp only[gJ,List.append_assoc]
end
end
section
section
variable {σ:S}{env:List V}{R F:V}{c:List Int}{s r:Int}
def Xd (rows:List V) (σ1:S):Rs (List (List V)):=ry (pH rows) σ1
theorem MF (w:S→Rs (List V)):vP w σ=(w σ).bind Xd:=.trans rfl rfl
theorem zO:∀ l:List RW,pH (l.map cq)=some (l.map DJ)
 | []=>rfl
 | x::l=>by
  show(match some (DJ x)with | some ys=>(match pH (l.map cq)with | some r=>some (ys::r) | Option.none=>Option.none) | Option.none=>Option.none)=_
  rw[zO l];rfl
theorem MG (l:List RW):Xd (l.map cq) σ=.ok (l.map DJ) σ:=congrArg (fun o=>ry o σ) (zO l)
def jw:Int→List RW→Int
 | p,[]=>p
 | p,x::r=>jw (p+x.1.1.length+x.1.2) r
theorem zP:∀ (rows:List RW) (p:Int),p::jv p rows=(p::jv p rows).dropLast++[jw p rows]
 | [],p=>rfl
 | x::r,p=>by
  have:=zP r (p+x.1.1.length+x.1.2)
  show p::((p+x.1.1.length+x.1.2)::jv (p+x.1.1.length+x.1.2) r)=p::(((p+x.1.1.length+x.1.2)::jv (p+x.1.1.length+x.1.2) r).dropLast++[jw (p+x.1.1.length+x.1.2) r])
  rw[← this]
theorem xI:∀ (rows:List RW) (p:Int),ju rows→p≤jw p rows∧jw p rows≤p+7 * rows.length
 | [],p,_=>⟨Int.le_refl _,by simp[jw]⟩
 | x::r,p,h=>by
  have hx:=yZ (h x (.head _)).1
  have:=xI r (p+x.1.1.length+x.1.2) fun y hy=>h y (.tail _ hy)
  rw[jw]
  simp only[List.length_cons]
  omega
theorem zQ {T:Int}(hT:T≤28):∀ (rows:List RW) (p:Int),ju rows→0≤p→jw p rows=T→∀ e∈jZ T p rows,tZ e
 | [],p,_,_,_=>fun e h=>nomatch h
 | x::r,p,h,h0,ht=>fun e he=>by
  have hx:=yZ (h x (.head _)).1
  have hb:=xI r (p+x.1.1.length+x.1.2) fun y hy=>h y (.tail _ hy)
  rw[jw]at ht
  rw[jZ]at he
  have hg:=(h x (.head _)).2
  rcases List.mem_cons.mp he with rfl | he
  ·have hf:=jr (a:=x.2) (b:=T+3) (by omega)
   exact IP x.1 (h x (.head _)).1 _ (by unfold dR;omega) (by unfold dR;omega)
  ·exact zQ hT r _ (fun y hy=>h y (.tail _ hy)) (by omega) ht e he
theorem DK {T:Int}:∀ (rows:List RW) (p:Int),ju rows→(jZ T p rows).length=rows.length∧(jZ T p rows).flatten.length≤7 * rows.length
 | [],p,_=>⟨rfl,by simp[jZ]⟩
 | x::r,p,h=>by
  have hx:=yZ (h x (.head _)).1
  have:=DK (T:=T) r (p+x.1.1.length+x.1.2) fun y hy=>h y (.tail _ hy)
  have he:(enc x.1 (dR T p x)).length=x.1.1.length+x.1.2:=by simp[enc,lb]
  rw[jZ]
  refine⟨by rw[List.length_cons,List.length_cons,this.1],?_⟩
  rw[List.flatten_cons,List.length_append,he,List.length_cons]
  have:=this.2
  omega
theorem DL {T:Int}:∀ (rows:List RW) (p:Int),ju rows→(∀ n∈gJ T p rows,0≤n∧n<256)∧(gJ T p rows).length≤7 * rows.length
 | [],p,_=>⟨fun n h=>(nomatch h),by simp[gJ]⟩
 | x::r,p,h=>by
  have hx:=yZ (h x (.head _)).1
  have:=DL (T:=T) r (p+x.1.1.length+x.1.2) fun y hy=>h y (.tail _ hy)
  have hl:(pB (dR T p x) x.1.2).length=x.1.2:=by simp[pB]
  rw[gJ]
  refine⟨fun n hn=>?_,by simp only[List.length_append,List.length_cons,hl];omega⟩
  rcases List.mem_append.mp hn with hn | hn
  ·rcases List.mem_append.mp hn with hn | hn
   ·exact hx.2.2.2.2 n hn
   ·obtain⟨t,_,rfl⟩:=List.mem_map.mp hn
    exact jr (by decide)
  ·exact this.1 n hn
theorem MH {A:List Int}(h:∀ n∈A,0≤n∧n<256) (hz:A.length≤100000):gd (.lst (A.map V.int)) σ=.ok (.bytes (A.map fun(n:Int)=>n.toNat.toUInt8)) σ:=by
 show(match intsOf (A.map V.int)with | some ns=>if(ns.all fun(n:Int)=>decide (0≤n)&&decide (n<256))&&decide ((A.map V.int).length≤100000)then Rs.ok (V.bytes (ns.map fun(n:Int)=>n.toNat.toUInt8)) σ else .no | Option.none=>.no)=_
 rw[tg]
 dsimp only
 rw[if_pos]
 rw[Bool.and_eq_true]
 refine⟨List.all_eq_true.mpr fun n hn=>?_,decide_eq_true (by simpa using hz)⟩
 rw[Bool.and_eq_true,decide_eq_true_eq,decide_eq_true_eq]
 exact h n hn
theorem V5 {xs:List V}:Og [.lst xs] σ=.ok (j2 0 xs) σ:=.trans rfl rfl
theorem MI (k:Nat):∀ l:List RW,(l.map cq).all (low 0 (k+4))=true:=fun l=>by
 rw[List.all_map,List.all_eq_true]
 intro x _
 show([.lst (x.1.1.map V.int),.int x.1.2,.int x.2]:List V).all (low 0 (k+3))=true
 have:low 0 (k+3) (.lst (x.1.1.map V.int))=true:=by
  show(x.1.1.map V.int).all (low 0 (k+2))=true
  simp[List.all_map,low]
 simp only[List.all_cons,List.all_nil,this,Bool.true_and];rfl
theorem P2 {rows:List RW}(h:ju rows) (hl:rows.length≤4) (st:List MO):gB [.lst (rows.map cq)] st=.ok (.bytes ((jZ (jw 0 rows) 0 rows).flatten)) st:=by
 have ht:=xI rows 0 h
 obtain⟨y3,y4,y5,e1⟩:=OD (R:=.lst (rows.map cq)) (F:=.lst []) rows [] 0 .unb .unb .unb .unb .unb h (by simp;omega)
 have hoff:∀ (p:Int),(jv p rows).length=rows.length:=by
  clear e1 ht hl h
  intro p
  induction rows generalizing p with
  | nil=>rfl
  | cons x r ih=>rw[jv,List.length_cons,List.length_cons,ih]
 obtain⟨y6,y7,e2⟩:=OE (R:=.lst (rows.map cq)) (PL:=0::jv 0 rows) (T:=jw 0 rows) (by rw[List.length_cons,hoff];omega) (zP rows 0) ht.1 rows 0 0 [] y3 y4 y5 .unb .unb h rfl (by simp;omega)
 have hi:=DL (T:=jw 0 rows) rows 0 h
 have hb:∀ σ,gd (.lst ((gJ (jw 0 rows) 0 rows).map V.int)) σ=.ok (.bytes ((jZ (jw 0 rows) 0 rows).flatten)) σ:=fun σ=>by rw[MH hi.1 (by omega),Gg]
 simp only[List.nil_append,List.map_nil,List.map_cons,List.cons_append]at e1 e2
 unfold IW at e1
 unfold DI at e2
 generalize (jZ (jw 0 rows) 0 rows).flatten=ob at hb ⊢
 have g1:=@MF
 have g2:=@MG
 have g3:=@s7
 have g4:=@V5
 have g5:∀ (l:List V) σ,kN σ (some (.lst l))=.ok (.lst l) σ:=fun _ _=>rfl
 have hlo:[.lst (rows.map cq)].all (low 0 30)=true:=by
  simp only[List.all_cons,List.all_nil,Bool.and_true]
  exact MI 25 rows
 unfold gB
 refine bc (xs:=[.lst (rows.map cq)]) (g:=1) (nd:=0) (ds:=[]) (k:=7) (x:=.bytes ob) (st1:=[.lst (V.int 0::(jv 0 rows).map V.int)]) hlo rfl rfl ⟨[.lst (rows.map cq),.loc 0,.lst ((gJ (jw 0 rows) 0 rows).map V.int),y3,y4,y5,y6,y7],?_⟩ rfl st
 show i0 ⟨[.lst (rows.map cq),.unb,.unb,.unb,.unb,.unb,.unb,.unb],[]⟩=_
 unfold i0
 clear ht hoff hi hlo h hl
 simp only[bw,gr,List.getElem?_cons_zero,List.getElem?_cons_succ,pf,g5,lR,n6,CW,jV,gs,n7,m7,eJ,jW,m9,sQ,n8,xq,tQ,tR,List.length_cons,List.length_nil,Nat.zero_add,Nat.reduceAdd,Nat.reduceLeDiff,decide_true,Nat.zero_le,List.nil_append,List.cons_append,n9,xr,dO,fE,List.reverse_cons,List.reverse_nil,List.set_cons_zero,List.set_cons_succ,lS,jY,pq,g1,g2,g3,g4,e1,e2,hb,gH,jX,m8]
noncomputable def OF:W2:=(af (fu (aq aX (ae (aa 0) (ae (ag aH (aF (one bA) (ae (aa 1) ah)) (aj 3)) ah))) (aa 2) (aa 3)) ai)
theorem xJ {o:List UInt8}(ho:o.length≤1000) (hc:c.length≤100):∀ (ns ns0:List Str) (pl0:Str→Int) (s r:Int) (x:V),(ns0++ns).Nodup→(ns0++ns).length≤100→0≤s→s+ns.length≤900→
  ∃ (pl:Str→Int) (s' r':Int) (y:V),0≤s'∧s'≤s+ns.length∧kF [3] OF ((ns.map V.str).map fun x=>[x]) ⟨[.loc 0,.bytes o,.loc 1,x],[bI c s r,.dct (ns0.map fun x=>(V.str x,V.int (pl0 x)))]⟩=
   .ok .next ⟨[.loc 0,.bytes o,.loc 1,y],[bI c s' r',.dct ((ns0++ns).map fun x=>(V.str x,V.int (pl x)))]⟩
 | [],ns0,pl0,s,r,x,_,_,h0,h1=>⟨pl0,s,r,x,h0,by simp,by rw[List.append_nil];rfl⟩
 | n::ns,ns0,pl0,s,r,x,hn,hz,h0,h1=>by
  simp only[List.length_cons]at h1
  refine jt (m:=(o.length:Int)+3) (r:=r) (tl:=[.dct (ns0.map fun x=>(V.str x,V.int (pl0 x)))]) (by omega) (by omega) h0 (by omega) hc fun d s1 r1 a1 a2 a3 a4 e1=>?_
  have hni:n∉ns0:=fun q=>(List.nodup_append.mp hn).2.2 n q n (.head _) rfl
  have hsame:∀ y∈ns0,(if y=n then d else pl0 y)=pl0 y:=fun y hy=>if_neg (fun(q:y=n)=>hni (q▸hy))
  have hdict:(ns0.map fun x=>(V.str x,V.int (pl0 x)))++[(V.str n,V.int d)]=(ns0++[n]).map fun x=>(V.str x,V.int (if x=n then d else pl0 x)):=by
   rw[List.map_append,List.map_cons,List.map_nil,if_pos rfl]
   congr 1
   exact List.map_congr_left fun y hy=>by rw[hsame y hy]
  have g0:∀ σ,bA (.bytes o) σ=.ok (.int o.length) σ:=fun σ=>yS (decide_eq_true (by omega))
  have g1:∀ s r,oh (.int d) (.loc 1) (.str n) ⟨[.loc 0,.bytes o,.loc 1,.str n],[bI c s r,.dct (ns0.map fun x=>(V.str x,V.int (pl0 x)))]⟩=.ok .next ⟨[.loc 0,.bytes o,.loc 1,.str n],[bI c s r,.dct ((ns0++[n]).map fun x=>(V.str x,V.int (if x=n then d else pl0 x)))]⟩:=fun s r=>by
   unfold oh
   rw[show u6 (.loc 1) (.str n) (.int d) ⟨[.loc 0,.bytes o,.loc 1,.str n],[bI c s r,.dct (ns0.map fun x=>(V.str x,V.int (pl0 x)))]⟩=yg (.loc 1) (.str n) (.int d) ⟨[.loc 0,.bytes o,.loc 1,.str n],[bI c s r,.dct (ns0.map fun x=>(V.str x,V.int (pl0 x)))]⟩from rfl]
   show(if dOk (ns0.map fun x=>(V.str x,V.int (pl0 x))) (.str n)&&decide ((ns0.map fun x=>(V.str x,V.int (pl0 x))).length≤100000)then Rs.ok Fl.next ⟨[.loc 0,.bytes o,.loc 1,.str n],([bI c s r,.dct (ns0.map fun x=>(V.str x,V.int (pl0 x)))]:List MO).set 1 (.dct (lZ (ns0.map fun x=>(V.str x,V.int (pl0 x))) (.str n) (.int d)))⟩else .no)=_
   rw[if_pos,lZ,if_neg,hdict]
   ·rfl
   ·intro q
    obtain⟨f,f1,f2⟩:=List.any_eq_true.mp q
    obtain⟨y,hy,rfl⟩:=List.mem_map.mp f1
    have:y=n:=by simpa[keyEq]using f2
    exact hni (this▸hy)
   ·rw[Bool.and_eq_true]
    refine⟨?_,decide_eq_true ?_⟩
    ·show(ns0.map fun x=>(V.str x,V.int (pl0 x))).all (fun f=>(eg f.1).isSome)=true
     simp[List.all_map,eg]
    ·rw[List.length_map];simp only[List.length_append,List.length_cons]at hz;omega
  have g3:=@ng
  have g4:=@pA
  have g5:=@nh
  have e:OF ⟨[.loc 0,.bytes o,.loc 1,.str n],[bI c s r,.dct (ns0.map fun x=>(V.str x,V.int (pl0 x)))]⟩=.ok .next ⟨[.loc 0,.bytes o,.loc 1,.str n],[bI c s1 r1,.dct ((ns0++[n]).map fun x=>(V.str x,V.int (if x=n then d else pl0 x)))]⟩:=by
   clear hdict hsame hni hn hz h0 h1 a1 a2 a3 a4 ho hc
   unfold OF
   walk_at "g"
  obtain⟨pl,s2,r2,y,b1,b2,e2⟩:=xJ ho hc ns (ns0++[n]) (fun x=>if x=n then d else pl0 x) s1 r1 (.str n) (by simpa using hn) (by simpa using hz) a3 (by omega)
  refine⟨pl,s2,r2,y,b1,by simp only[List.length_cons];omega,?_⟩
  rw[List.map_cons,List.map_cons,iE (by rfl),dO,fE]
  rw[show([.loc 0,.bytes o,.loc 1,x]:List V).set 3 (.str n)=[.loc 0,.bytes o,.loc 1,.str n]from rfl,e,iq,e2]
  simp only[List.append_assoc,List.singleton_append]
end
end
section
section
variable {σ:S}{env:List V}{c:List Int}{s r:Int}{o:List UInt8}
theorem UN {pl:Str→Int}{ns:List Str}(n:Nat) (st:List MO) (k:Nat):iH (frz n st (k+1)) (ns.map fun x=>(V.str x,V.int (pl x)))=some (ns.map fun x=>(V.str x,V.int (pl x))):=by
 induction ns with
 | nil=>rfl
 | cons x l ih=>
  rw[List.map_cons]
  show(match some (V.int (pl x))with | some y=>(match iH (frz n st (k+1)) (l.map fun x=>(V.str x,V.int (pl x)))with | some ys=>some ((V.str x,y)::ys) | Option.none=>Option.none) | Option.none=>Option.none)=_
  rw[ih]
theorem MJ (ho:o.length≤1000) (hc:c.length≤100) (hs:0≤s) (hs2:s≤800):∃ (Nm N:V) (ps:List (V×V)) (lk:Int→Option Str) (b:Bool) (s' r':Int),
  ew [.loc 0,.bytes o] [bI c s r]=.ok Nm [bI c s' r']∧qm Nm N ps lk∧(∀ σ,fk Nm .none σ=.ok (.bool b) σ)∧(b=true→N=ND (fun _=>0) []∧ps=[])∧(b=false→N=Nm):=by
 refine jt (m:=6) (r:=r) (tl:=[]) (by decide) (by decide) hs (by omega) hc fun d s1 r1 a1 a2 a3 a4 e1=>?_
 by_cases hd:d=5
 ·subst hd
  have g0:((5:Int)==5)=true:=by decide
  refine⟨.none,ND (fun _=>0) [],[],fun _=>Option.none,true,s1,r1,?_,Mx,fun _=>rfl,fun _=>⟨rfl,rfl⟩,fun h=>nomatch h⟩
  have hw:∃ env',ej ⟨[.loc 0,.bytes o,.unb,.unb],[bI c s r]⟩=.ok (.ret .none) ⟨env',[bI c s1 r1]⟩:=by
   refine⟨[.loc 0,.bytes o,.unb,.unb],?_⟩
   unfold ej
   clear a1 a2 a3 a4 ho hc hs hs2
   walk_at "g"
  unfold ew
  exact MD (xs:=[.loc 0,.bytes o]) (g:=2) (nd:=0) (ds:=[]) (k:=2) (st:=[bI c s r]) (st1:=[bI c s1 r1]) rfl rfl hw rfl (by
   show([bI c s1 r1].all (hV 1 30))=true
   simp only[List.all_cons,List.all_nil,t6,Bool.and_true])
 ·refine jt (m:=5) (r:=r1) (tl:=[.dct []]) (by decide) (by decide) a3 (by omega) hc fun d2 s2 r2 b1 b2 b3 b4 e2=>?_
  have hcut:∃ n:Nat,n≤4∧∀ σ,iK (.lst [.str "main",.str "end_1",.str "b.2",.str "a"]) Option.none (some d2) σ=.ok (.lst ((NMS.take n).map V.str)) σ:=by
   have h:d2=0∨d2=1∨d2=2∨d2=3∨d2=4:=by omega
   rcases h with rfl | rfl | rfl | rfl | rfl
   ·exact⟨0,by decide,fun σ=>by kernel_rfl⟩
   ·exact⟨1,by decide,fun σ=>by kernel_rfl⟩
   ·exact⟨2,by decide,fun σ=>by kernel_rfl⟩
   ·exact⟨3,by decide,fun σ=>by kernel_rfl⟩
   ·exact⟨4,by decide,fun σ=>by kernel_rfl⟩
  obtain⟨n,hn,hcut⟩:=hcut
  have hnd:NMS.Nodup:=by decide +kernel
  have hsub:∀ x∈NMS.take n,x∈NMS:=fun x hx=>List.mem_of_mem_take hx
  have hlen:(NMS.take n).length≤4:=by rw[List.length_take];omega
  obtain⟨pl,s3,r3,y,c1,c2,e3⟩:=xJ ho hc (NMS.take n) [] (fun _=>0) s2 r2 .unb (by simpa using hnd.sublist (List.take_sublist n NMS)) (by simp only[List.nil_append];omega) b3 (by omega)
  refine⟨ND pl (NMS.take n),ND pl (NMS.take n),nf pl (cu (NMS.take n)) [],tc pl (NMS.take n),false,s3,r3,?_,PS (by omega) hsub,fun _=>rfl,fun h=>(nomatch h),fun _=>rfl⟩
  have g0:(d==5)=false:=beq_eq_false_iff_ne.mpr hd
  simp only[List.nil_append,List.map_nil]at e3
  unfold OF at e3
  have g1:=@zM
  have hw:∃ env',ej ⟨[.loc 0,.bytes o,.unb,.unb],[bI c s r]⟩=.ok (.ret (.loc 1)) ⟨env',[bI c s3 r3,.dct ((NMS.take n).map fun x=>(V.str x,V.int (pl x)))]⟩:=by
   refine⟨[.loc 0,.bytes o,.loc 1,y],?_⟩
   unfold ej
   clear a1 a2 a3 a4 ho hc hs hs2 b1 b2 b3 b4 hn hnd hsub hlen c1 c2 hd
   simp only[bw,gr,List.getElem?_cons_zero,List.getElem?_cons_succ,pf,CU,lR,Fs,jU,tM,jV,gs,n7,m7,Bu,tN,pg,xo,ph,Mg,qg,sP,Bv,tO,eJ,jW,List.length_cons,List.length_nil,Nat.zero_add,Nat.reduceAdd,Nat.reduceLeDiff,decide_true,Nat.zero_le,List.nil_append,List.cons_append,List.set_cons_zero,List.set_cons_succ,pj,pk,n8,xq,lS,qi,xt,jY,pq,tS,xu,tT,tU,vG,qj,Iw,g0,g1,e1,e2,e3,hcut,gH,jX,m8]
  unfold ew
  exact MD (xs:=[.loc 0,.bytes o]) (g:=2) (nd:=0) (ds:=[]) (k:=2) (st:=[bI c s r]) (st1:=[bI c s3 r3,.dct ((NMS.take n).map fun x=>(V.str x,V.int (pl x)))]) rfl rfl hw (by
   show(iH (frz 1 _ 29) ((NMS.take n).map fun x=>(V.str x,V.int (pl x)))).map V.dct=_
   rw[UN 1 _ 28];rfl) (by
   show([bI c s3 r3].all (hV 1 30))=true
   simp only[List.all_cons,List.all_nil,t6,Bool.and_true])
theorem DM:∀ (l:List Int) (acc:List V) (u v:V),∃ u',bz 1 (fun σ=>.ok true σ) (aF (one dh) (ae (aa 1) ah)) (l.map V.int) acc ⟨[v,u],[]⟩=.ok (acc++l.map V.int) ⟨[v,u'],[]⟩
 | [],acc,u,v=>⟨u,by simp[bz]⟩
 | x::l,acc,u,v=>by
  have g0:=@xH
  have hm:aF (one dh) (ae (aa 1) ah) ⟨[v,.int x],[]⟩=.ok (.int x) ⟨[v,.int x],[]⟩:=by
   walk_at "g"
  rw[List.map_cons,hG,xw]
  obtain⟨u',q⟩:=DM l (acc++[.int x]) (.int x) v
  refine⟨u',?_⟩
  show FC 1 _ _ _ _ (aF (one dh) (ae (aa 1) ah) ⟨[v,.int x],[]⟩)=_
  rw[hm,sU,q,List.append_assoc];rfl
theorem UO (sc:List Int) (hsc:sc.length≤1000):∃ c:List Int,c.length≤100∧hZ [.lst (sc.map V.int)] []=.ok (.loc 0) [bI c 0 0]:=by
 have hcl:(cR sc Option.none (some 40)).length≤100:=by
  unfold cR
  rw[List.length_take]
  have:(some (40:Int)).elim sc.length (clipAt sc.length)≤40:=by
   show clipAt sc.length 40≤40
   have:=clipAt_cast sc.length 40
   rw[if_neg (by decide)]at this
   omega
  omega
 refine⟨cR sc Option.none (some 40),hcl,?_⟩
 have hcut:cR (sc.map V.int) Option.none (some 40)=(cR sc Option.none (some 40)).map V.int:=by
  unfold cR
  simp only[List.length_map,List.map_take,List.map_drop]
 have g0:∀ σ,iK (.lst (sc.map V.int)) Option.none (some 40) σ=.ok (.lst ((cR sc Option.none (some 40)).map V.int)) σ:=fun σ=>by
  show(match some (sc.map V.int)with | some xs=>if xs.length≤100000 then Rs.ok (V.lst (cR xs Option.none (some 40))) σ else .no | Option.none=>.no)=_
  dsimp only
  rw[if_pos (by rw[List.length_map];omega),hcut]
 generalize cR sc Option.none (some 40)=c at g0 hcl ⊢
 obtain⟨u',e⟩:=DM c [] .unb .unb
 simp only[List.nil_append]at e
 have g1:decide ((c.map V.int).length≤100000)=true:=decide_eq_true (by rw[List.length_map];omega)
 have g2:∀ (l:List V) σ,kN σ (some (.lst l))=.ok (.lst l) σ:=fun _ _=>rfl
 unfold hZ
 refine C8 (xs:=[.lst (sc.map V.int)]) (g:=1) (nd:=0) (ds:=[]) (k:=0) rfl rfl ⟨[.lst (sc.map V.int)],?_⟩
 show j3 ⟨[.lst (sc.map V.int)],[]⟩=_
 unfold j3 bI
 clear hcut hcl hsc
 simp only[bw,gr,List.getElem?_cons_zero,g2,lR,jV,gs,n7,m7,eJ,m8,m9,sQ,List.length_cons,List.length_nil,Nat.zero_add,Nat.reduceAdd,Nat.reduceLeDiff,decide_true,List.nil_append,List.cons_append,tS,xu,tT,tU,vG,qj,Iw,g0,g1,jY,pq,vH,C5,List.replicate_succ,List.replicate_zero,e,Kk,gH,jX]
theorem abh (sc:List Int) (hsc:sc.length≤1000):∃ env' st1,xm ⟨[.lst (sc.map V.int),.unb,.unb,.unb,.unb,.unb,.unb,.unb,.unb,.unb],[]⟩=.ok (.ret (.bool true)) ⟨env',st1⟩:=by
 obtain⟨c,hc,e1⟩:=UO sc hsc
 obtain⟨rows,s1,r1,h1,h2,h3,h4,h5,e2⟩:=P1 (c:=c) (s:=0) (r:=0) hc (by decide) (by decide)
 have e3:=P2 h3 h2
 have hT:=xI rows 0 h3
 have hg:=zQ (T:=jw 0 rows) (by omega) rows 0 h3 (by decide) rfl
 have hl:=DK (T:=jw 0 rows) rows 0 h3
 generalize jZ (jw 0 rows) 0 rows=es at e3 hg hl
 obtain⟨Nm,N,ps,lk,b,s2,r2,e4,M,n1,n2,n3⟩:=MJ (o:=es.flatten) (c:=c) (s:=s1) (r:=r1) (by omega) hc h4 (by omega)
 obtain⟨L,l1,l2,l3,l4⟩:=DA M (o:=es.flatten) (by omega) es 0 hg rfl (by simp)
 obtain⟨env',e5⟩:=MC (sc:=.lst (sc.map V.int)) (pen:=.loc 0) (st:=[bI c s2 r2]) (by omega) M l2 l3 l4 (by omega) n1 n2 n3
 have hw:u9 Tv ⟨[.lst (sc.map V.int),.loc 0,.unb,.unb,.unb,.unb,.unb,.unb,.unb,.unb],[bI c 0 0]⟩=.ok ISET ⟨[.lst (sc.map V.int),.loc 0,.unb,.unb,.unb,.unb,.unb,.unb,.unb,.unb],[bI c 0 0]⟩:=
  Py (Pz (c.map V.int) (.lst (sc.map V.int))) (by
   show([bI c 0 0].all (hV 1 30))=true
   simp only[List.all_cons,List.all_nil,t6,Bool.and_true]) (by
   show([.lst (sc.map V.int),.loc 0,.unb,.unb,.unb,.unb,.unb,.unb,.unb,.unb]:List V).all (low 1 30)=true
   rw[List.all_cons,show low 1 30 (.lst (sc.map V.int))=true from low_ints 1 28 sc];rfl)
 unfold Tv at hw
 unfold MA at e5
 have g2:∀ (l:List V) σ,kN σ (some (.lst l))=.ok (.lst l) σ:=fun _ _=>rfl
 refine⟨env',[bI c s2 r2],?_⟩
 unfold xm
 clear n1 n2 n3 l1 l2 l3 l4 M hg hl hT h1 h2 h3 h4 h5 hc hsc
 exact pw (tV (pv rfl ⟨e1⟩) rfl) (tW (pw (tV hw rfl) (tW (pw (tV (pv (Mj (pv rfl ⟨e2⟩) rfl) ⟨e3 _⟩) rfl) (tW (pw (tV (pv rfl ⟨e4⟩) rfl) (tW e5)))))))
end
end
theorem Gh {R:WRecords}:∀ {xs:List WData},WShape.hasItems R xs .int=true→∃ sc:List Int,xs=sc.map WData.int
 | [],_=>⟨[],rfl⟩
 | d::r,h=>by
  rw[WShape.hasItems,Bool.and_eq_true]at h
  obtain⟨i,rfl⟩:=hasW_int h.1
  obtain⟨sc,rfl⟩:=Gh h.2
  exact⟨i::sc,rfl⟩
theorem zR {P:Params}{h:Heap}:∀ {vs:List Value}{sc:List Int},WellAll P h vs (sc.map WData.int)→vs.length=sc.length∧∀ (i:Nat) v n,vs[i]?=some v→sc[i]?=some n→∃ t,v=.int n t
 | [],[],_=>⟨rfl,fun i v n h=>by simp at h⟩
 | v::vs,n::sc,x=>by
  cases x with
  | cons h1 h2=>
   obtain⟨e,g⟩:=zR h2
   refine⟨by simp[e],fun i v' n' h3 h4=>?_⟩
   cases i with
   | zero=>
    simp only[List.getElem?_cons_zero,Option.some.injEq]at h3 h4
    subst h3 h4
    cases h1 with
    | int i t=>exact⟨t,rfl⟩
   | succ i=>exact g i v' n' h3 h4
theorem V6 {q:Program}{loose:List Str}{XP:(Str→Option Value)→Heap→Prop}{d:DefRec}{kwd:List (Str×PySem.Expr)}{as:List Addr}{e:∀ P,as=(KL P).map (·.1)}(hlaw:LawW) (hdn:d.name=Str.ofString "law"):
  WalkO q loose XP (kHook KL as e).says PySem.Challenge.rw_nz0174_01.row.toRowW d kwd fun f vs=>PySem.call f vs:=by
 intro w s₀ s₁ mg mb G Y fa o pm cd doc dV kV ho hd hcd hD hmg hg args vals as hpre hlay hrd hwl hlo
 have KX:(KF w).In s₁.heap:=kIn_of Y
 have hnl:nsIn (KF w) mainGlobals (Str.ofString "law")=some (some (.ref 1403)):=((bD w).nsIn _ _).trans (by decide +kernel)
 have hfa:fa=1403:=by
  have h1:=mg_of KX G.T.g hnl
  rw[hdn,h1]at hmg
  cases hmg;rfl
 subst hfa
 have hsh:=(pre_splitW hpre).1
 have hcond:=(pre_splitW hpre).2
 obtain⟨x,r,rfl,h1,h2⟩:=hasAllW_cons hsh
 cases hasAllW_nil h2
 obtain⟨xs,rfl,h3⟩:=hasW_list h1
 obtain⟨sc,rfl⟩:=Gh h3
 have hlen:sc.length≤1000:=by
  have h4:=(holds_andW hcond).1
  have h5:(!decide ((63:Int)<((sc.map WData.int).length:Int)))=true:=condW_of h4 rfl
  rw[List.length_map]at h5
  simp at h5
  omega
 cases hwl with
 | cons hw1 hw2=>
  cases hw2
  cases hw1 with
  | list ho1 hw3=>
   rename_i a vs
   obtain⟨hl,hv⟩:=zR hw3
   refine wpAny_call (Ma hlaw KX ⟨_,_,_,_,topRead_of G.T⟩ rfl rfl (by decide +kernel) (by decide +kernel) ho1 hl hv hlen fun h' tk hk=>?_)
   refine GoodW.toG ⟨.inl ⟨.bool true,.bool true,[],rfl,raisesW_false allW_false_nil,.bool true,?_,unshared_nil⟩,hk,rfl,hg⟩
   exact postW_of rfl rfl (same_self _)
noncomputable section
noncomputable def Xe:List Obj→List Obj
 | a::_::r=>a::Xe r
 | l=>l
noncomputable def Xf:List Obj→List Obj
 | _::b::r=>b::Xf r
 | _=>[]
def MK:Nat→List Obj→BT
 | 0,_=>.nil
 | _+1,[]=>.nil
 | k+1,o::r=>.node o (MK k (Xe r)) (MK k (Xf r))
def TB0 (P:Params):BT:=MK 12 (ZN P)
def bP (n M8 m v f a b z:Nat) (P:Params) (os:OsState):SharedT:=
 ⟨((((((TB0 P).set 2 fun _=>if z==0 then boot_o_2 P else Wi P).set 3 fun _=>Wj P m (aB v)).set 12 fun _=>Wk f).set 46 fun _=>Wh a).set 311 fun _=>QW b),n,{},⟨[]⟩,{},M8,os⟩
def cX:List PySem.Stmt:=behindTheImports PW
noncomputable def qY:Env:={ scope:=PW.main.scope,locals:=mainNs,globals:=mainNs,cells:=[],code:=.ref 13,frame:=some 14 }
def eN (k i c:Nat) (s s':Params→OsState→SharedT) (p p':Pos):Prop:=∀ (w:World) (q:Program) (b:List PySem.Stmt) (os:OsState),
 segRunT treeTable q w 11 (some (.ref 6)) 1 k (s w.params os) (piecesOf ((cX.drop i).take c) qY (.body b qY) p [topFrame ⟨0,0,0,0⟩])=some (.next,s' w.params os,.body b qY,p')
def UP:=bP 15 187 9 0 0 0 0 0
def OG:=bP 1404 2078 158 13 357 3 4 1
theorem eO {w:World}{k nO i c:Nat}{s s':SharedT}{r:Shared}{d:Code}{p p':Pos}(h:segRunT treeTable PW w 11 (some (.ref 6)) 1 k s (piecesOf ((cX.drop i).take c) qY d p [topFrame ⟨0,0,0,0⟩])=some (.next,s',d,p'))
  (n:topRun treeTable PW w 11 (some (.ref 6)) nO s'.abs (restOf (cX.drop (i+c)) qY d p' [topFrame ⟨0,0,0,0⟩])=some r):topRun treeTable PW w 11 (some (.ref 6)) (k+nO) s.abs (restOf (cX.drop i) qY d p [topFrame ⟨0,0,0,0⟩])=some r:=by
 have:=piece_app (segRun_of h) n
 rwa [show(cX.drop i).take c++cX.drop (i+c)=cX.drop i by rw[← List.drop_drop,List.take_append_drop]]at this
theorem Zj (w:World) (os:OsState):topGo treeTable PW w 11 (some (.ref 6)) 12 ⟨boot_heap w.params,⟨[]⟩,boot_drawn,boot_toks,os⟩ (topStub PW)=some ((UP w.params os).abs,⟨denote treeTable (.body cX qY),.body cX qY,⟨0,0,0,0⟩,[topFrame ⟨0,0,0,0⟩]⟩):=by kernel_rfl
theorem Zk (w:World) (os:OsState):segRun treeTable PW w 11 (some (.ref 6)) 1 1 (UP w.params os).abs (blockOf cX qY (.body cX qY) ⟨0,0,0,0⟩ [topFrame ⟨0,0,0,0⟩])=some (.next,(UP w.params os).abs,.body cX qY,⟨0,0,0,0⟩):=by kernel_rfl
theorem Zl (w:World) (os:OsState):topRun treeTable PW w 11 (some (.ref 6)) 2 (OG w.params os).abs ⟨doneF .next,.body cX qY,⟨1027,0,1048,39⟩,[topFrame ⟨0,0,0,0⟩]⟩=some (OG w.params os).abs:=by kernel_rfl
theorem pS0:eN 310 0 4 (bP 15 187 9 0 0 0 0 0) (bP 50 236 12 1 6 0 0 1) ⟨0,0,0,0⟩ ⟨6,0,16,29⟩:=fun w q b os=>by kernel_rfl
theorem pS1:eN 214 4 1 (bP 50 236 12 1 6 0 0 1) (bP 62 252 13 1 9 1 0 1) ⟨6,0,16,29⟩ ⟨17,0,18,8⟩:=fun w q b os=>by kernel_rfl
theorem pS2:eN 214 5 1 (bP 62 252 13 1 9 1 0 1) (bP 74 268 14 1 12 2 0 1) ⟨17,0,18,8⟩ ⟨19,0,20,8⟩:=fun w q b os=>by kernel_rfl
theorem pS3:eN 396 6 7 (bP 74 268 14 1 12 2 0 1) (bP 128 334 21 1 33 3 0 1) ⟨19,0,20,8⟩ ⟨42,0,45,55⟩:=fun w q b os=>by kernel_rfl
theorem pS4:eN 338 13 15 (bP 128 334 21 1 33 3 0 1) (bP 198 416 35 2 63 3 0 1) ⟨42,0,45,55⟩ ⟨86,0,95,47⟩:=fun w q b os=>by kernel_rfl
theorem pS5:eN 424 28 1 (bP 198 416 35 2 63 3 0 1) (bP 260 499 36 2 66 3 0 1) ⟨86,0,95,47⟩ ⟨96,0,126,16⟩:=fun w q b os=>by kernel_rfl
theorem pS6:eN 383 29 4 (bP 260 499 36 2 66 3 0 1) (bP 316 565 39 3 75 3 0 1) ⟨96,0,126,16⟩ ⟨134,0,146,17⟩:=fun w q b os=>by kernel_rfl
theorem pS7:eN 308 33 1 (bP 316 565 39 3 75 3 0 1) (bP 349 604 40 3 78 3 1 1) ⟨134,0,146,17⟩ ⟨147,0,157,30⟩:=fun w q b os=>by kernel_rfl
theorem pS8:eN 312 34 1 (bP 349 604 40 3 78 3 1 1) (bP 383 646 41 3 81 3 2 1) ⟨147,0,157,30⟩ ⟨158,0,169,24⟩:=fun w q b os=>by kernel_rfl
theorem pS9:eN 344 35 1 (bP 383 646 41 3 81 3 2 1) (bP 424 696 42 3 84 3 3 1) ⟨158,0,169,24⟩ ⟨170,0,184,44⟩:=fun w q b os=>by kernel_rfl
theorem Zm:eN 416 36 1 (bP 424 696 42 3 84 3 3 1) (bP 477 772 43 3 87 3 4 1) ⟨170,0,184,44⟩ ⟨185,0,212,16⟩:=fun w q b os=>by kernel_rfl
theorem Zn:eN 384 37 1 (bP 477 772 43 3 87 3 4 1) (bP 530 845 44 3 90 3 4 1) ⟨185,0,212,16⟩ ⟨213,0,239,57⟩:=fun w q b os=>by kernel_rfl
theorem Zo:eN 84 38 7 (bP 530 845 44 3 90 3 4 1) (bP 537 864 50 4 93 3 4 1) ⟨213,0,239,57⟩ ⟨249,0,249,10⟩:=fun w q b os=>by kernel_rfl
theorem Zp:eN 384 45 1 (bP 537 864 50 4 93 3 4 1) (bP 593 934 51 4 96 3 4 1) ⟨249,0,249,10⟩ ⟨250,0,271,24⟩:=fun w q b os=>by kernel_rfl
theorem Zq:eN 369 46 16 (bP 593 934 51 4 96 3 4 1) (bP 670 1025 66 5 129 3 4 1) ⟨250,0,271,24⟩ ⟨322,0,331,60⟩:=fun w q b os=>by kernel_rfl
theorem Zr:eN 256 62 13 (bP 670 1025 66 5 129 3 4 1) (bP 712 1099 78 6 147 3 4 1) ⟨322,0,331,60⟩ ⟨373,0,382,61⟩:=fun w q b os=>by kernel_rfl
theorem Zs:eN 396 75 1 (bP 712 1099 78 6 147 3 4 1) (bP 769 1176 79 6 150 3 4 1) ⟨373,0,382,61⟩ ⟨383,0,422,27⟩:=fun w q b os=>by kernel_rfl
theorem Zt:eN 149 76 9 (bP 769 1176 79 6 150 3 4 1) (bP 790 1216 87 7 159 3 4 1) ⟨383,0,422,27⟩ ⟨466,0,466,8⟩:=fun w q b os=>by kernel_rfl
theorem Zu:eN 260 85 1 (bP 790 1216 87 7 159 3 4 1) (bP 818 1258 88 7 162 3 4 1) ⟨466,0,466,8⟩ ⟨467,0,476,53⟩:=fun w q b os=>by kernel_rfl
theorem Zv:eN 404 86 1 (bP 818 1258 88 7 162 3 4 1) (bP 874 1348 89 7 165 3 4 1) ⟨467,0,476,53⟩ ⟨477,0,527,30⟩:=fun w q b os=>by kernel_rfl
theorem Zw:eN 399 87 13 (bP 874 1348 89 7 165 3 4 1) (bP 961 1464 102 7 204 3 4 1) ⟨477,0,527,30⟩ ⟨605,0,612,52⟩:=fun w q b os=>by kernel_rfl
theorem Zx:eN 382 100 16 (bP 961 1464 102 7 204 3 4 1) (bP 1038 1568 117 8 237 3 4 1) ⟨605,0,612,52⟩ ⟨690,0,696,66⟩:=fun w q b os=>by kernel_rfl
theorem Zy:eN 376 116 12 (bP 1038 1568 117 8 237 3 4 1) (bP 1122 1679 129 8 273 3 4 1) ⟨690,0,696,66⟩ ⟨818,0,829,32⟩:=fun w q b os=>by kernel_rfl
theorem Zz:eN 401 128 6 (bP 1122 1679 129 8 273 3 4 1) (bP 1178 1758 134 9 285 3 4 1) ⟨818,0,829,32⟩ ⟨852,0,858,16⟩:=fun w q b os=>by kernel_rfl
theorem ZA:eN 379 134 14 (bP 1178 1758 134 9 285 3 4 1) (bP 1257 1871 145 12 318 3 4 1) ⟨852,0,858,16⟩ ⟨911,0,911,8⟩:=fun w q b os=>by kernel_rfl
theorem ZC:eN 27 148 1 (bP 1257 1871 145 12 318 3 4 1) (bP 1262 1877 146 12 321 3 4 1) ⟨911,0,911,8⟩ ⟨912,0,915,82⟩:=fun w q b os=>by kernel_rfl
theorem ZD:eN 476 149 1 (bP 1262 1877 146 12 321 3 4 1) (bP 1335 1971 147 12 324 3 4 1) ⟨912,0,915,82⟩ ⟨916,0,955,16⟩:=fun w q b os=>by kernel_rfl
theorem ZE:eN 349 150 12 (bP 1335 1971 147 12 324 3 4 1) (bP 1404 2078 158 13 357 3 4 1) ⟨916,0,955,16⟩ ⟨1027,0,1048,39⟩:=fun w q b os=>by kernel_rfl
theorem ZF (w:World) (os:OsState):topRun treeTable PW w 11 (some (.ref 6)) (12+(1+(310+(214+(214+(396+(338+(424+(383+(308+(312+(344+(416+(384+(84+(384+(369+(256+(396+(149+(260+(404+(399+(382+(376+(401+(379+(27+(476+(349+2)))))))))))))))))))))))))))))) ⟨boot_heap w.params,⟨[]⟩,boot_drawn,boot_toks,os⟩ (topStub PW)=some (OG w.params os).abs:=
 go_top (Zj w os) (piece_block (Zk w os) (eO (pS0 w PW cX os) (eO (pS1 w PW cX os) (eO (pS2 w PW cX os) (eO (pS3 w PW cX os) (eO (pS4 w PW cX os) (eO (pS5 w PW cX os) (eO (pS6 w PW cX os) (eO (pS7 w PW cX os) (eO (pS8 w PW cX os) (eO (pS9 w PW cX os) (eO (Zm w PW cX os) (eO (Zn w PW cX os) (eO (Zo w PW cX os) (eO (Zp w PW cX os) (eO (Zq w PW cX os) (eO (Zr w PW cX os) (eO (Zs w PW cX os) (eO (Zt w PW cX os) (eO (Zu w PW cX os) (eO (Zv w PW cX os) (eO (Zw w PW cX os) (eO (Zx w PW cX os) (eO (Zy w PW cX os) (eO (Zz w PW cX os) (eO (ZA w PW cX os) (eO (ZC w PW cX os) (eO (ZD w PW cX os) (eO (ZE w PW cX os) (piece_nil (Zl w os)))))))))))))))))))))))))))))))
end
section
noncomputable section
noncomputable def Q0:Program:={ PW with main:={ PW.main with body:=(PW.main.body.drop 161).take 1 } }
def L0:List Str:=PW.boundNames
def HF (P:Params):Heap:=absHeap (OG P default).tree 1404 {}
def SZ (w:World) (os:OsState):Shared:=⟨HF w.params,⟨[]⟩,{},2078,os⟩
def XT (_:Shared):Bool:=true
noncomputable def KA:List Addr:=[2,3,29,35,36,45,46,58,59,70,71,82,83,91,92,98,99,105,106,119,120,126,127,133,134,140,141,147,148,154,155,161,162,168,169,175,176,182,183,189,190,196,197,205,209,210,223,224,230,231,237,238,254,255,286,287,310,311,328,329,335,336,345,346,379,380,390,396,397,403,404,420,421,431,437,438,444,445,463,464,473,474,484,490,491,495,496,521,522,524,525,549,550,587,588,598,599,612,613,633,634,640,641,647,648,654,655,661,662,668,669,675,676,682,683,689,690,696,697,710,711,719,725,726,739,740,763,764,774,775,781,782,788,789,802,803,812,813,830,831,837,838,844,845,851,852,858,859,865,866,868,869,879,880,884,885,891,892,898,899,905,906,912,913,919,920,940,941,947,948,954,955,959,960,966,967,971,972,973,979,980,981,987,988,994,995,1001,1002,1008,1009,1015,1016,1022,1023,1029,1030,1036,1037,1043,1044,1050,1051,1057,1058,1071,1072,1078,1079,1085,1086,1092,1093,1099,1100,1106,1107,1113,1114,1120,1121,1127,1128,1141,1142,1148,1149,1155,1156,1158,1159,1169,1170,1176,1177,1183,1184,1190,1191,1197,1198,1199,1205,1206,1212,1213,1219,1220,1226,1227,1228,1234,1235,1241,1242,1248,1249,1255,1256,1260,1261,1274,1275,1300,1301,1329,1330,1338,1339,1345,1346,1352,1353,1357,1358,1364,1365,1371,1372,1378,1379,1383,1384,1390,1391,1397,1398,1402,1403]
def HK:Hook:=kHook KL KA (fun _=>by kernel_rfl)
section
variable (w:World) (os:OsState)
theorem l1:(staticsOk (importedModules PW.main.body) (boot_heap w.params) (HF w.params)&&namesBound PW (HF w.params)&&gensDone (SZ w os)&&laidKept (boot_heap w.params) (HF w.params))=true:=by kernel_rfl
theorem l2:seen ((recsOf Q0).map (·.name)) (ownsOf Q0) [] { SZ w os with gens:=#[] }=expectedOf Q0:=by kernel_rfl
theorem l3:(SZ w os).heap.bltView=bltViewBooted:=by kernel_rfl
theorem l4:((SZ w os).heap.keysOk (looseW Q0 L0) ((recsOf Q0).map (·.name)) ((litsOf Q0).map (·.1)) ((clssOf Q0 (looseW Q0 L0)).map (·.name))&&(SZ w os).heap.accountedOkI (importedModules PW.main.body)&&(SZ w os).heap.isNs mainGlobals&&(SZ w os).heap.isNs builtinsNs&&tablesOk Q0 (SZ w os).heap&&XT (SZ w os)&&(if true then(SZ w os).gens.size==0 else !leftWithCleanup (SZ w os).gens))=true:=by kernel_rfl
theorem l5:tabsOk Q0 (SZ w os)=true:=by kernel_rfl
theorem l6:pinSeenD Q0 (drecsOf Q0) (SZ w os)=pinGoodD (drecsOf Q0):=by kernel_rfl
theorem l7:plainSeenE Q0 (looseW Q0 L0) (SZ w os)=plainGoodE Q0 (looseW Q0 L0):=by kernel_rfl
theorem l8:(plainSeenD Q0 L0 (SZ w os),wideSeen Q0 (SZ w os),clsSeenW Q0 L0 (SZ w os))=(plainGoodD Q0 L0,wideGood Q0,clsGoodW Q0 L0):=by kernel_rfl
theorem l9:KA.map (SZ w os).heap.get?=(KL w.params).map fun p=>some p.2:=by kernel_rfl
theorem V7:openSeen Q0 L0 (importedModules PW.main.body) XT true (SZ w os)=openGood Q0 L0:=
 looks_pair (l2 w os) (looks_pair (l3 w os) (looks_pair (l4 w os) (looks_pair (l5 w os) (looks_pair (l6 w os) (looks_pair (l7 w os) (l8 w os))))))
theorem V8:((boot_heap w.params).isNs mainGlobals&&(⟨[]⟩:Array GenState).size==0,(boot_heap w.params).objs.size,(boot_heap w.params).nsMap mainGlobals "__annotations__")=(true,11,some (.ref 6)):=by kernel_rfl
end
theorem V9:opening PW=plainProg PW.main.scope.names:=by kernel_rfl
theorem UQ (s:Shared):fenceModules? PW s=some s:=by kernel_rfl
theorem Wa:LeftO PW Q0 L0 XT HK.obs HK.val 20000:=
 LeftO.of_pieces (H₀:=boot_heap) (H₁:=HF) (gs₁:=⟨[]⟩) (d₁:={}) (k₁:=2078) (boot_open V9 rfl UQ) V8 (fun w os=>ZF w os) rfl
  fun w=>funext fun os=>looks_pair (l1 w os) (looks_pair (V7 w os) (l9 w os))
end
end
noncomputable section
abbrev RL:=PySem.Challenge.rw_nz0174_01
theorem w2:namesResolve PW=true:=by kernel_rfl
theorem w4:noRoadLSs { strict:=!(importedModules PW.main.body).all cThrough.contains,foot:=none,bare:=(["vars","dir","locals"]:List Str).filter (readsOut PW PW.main.body) } PW.main.body=true:=by kernel_rfl
theorem w5:namesMeet PW PW.main.body (fun _ n=>attrL n)=true:=by kernel_rfl
theorem loF:looksOpen PW=true:=by
 unfold looksOpen
 exact look_both (look_both (look_both (look_both (look_both (by kernel_rfl) (by kernel_rfl)) w2) (by kernel_rfl)) w4) w5
theorem psF:RL.row.partSaid=true:=by
 unfold OpenRow.partSaid
 simp only[Bool.and_eq_true]
 and_intros
 ·exact loF
 all_goals kernel_rfl
theorem wrF:RL.row.wellSaid=true:=by
 unfold OpenRow.wellSaid
 simp only[Bool.and_eq_true]
 and_intros
 ·exact psF
 all_goals kernel_rfl
theorem wsF:RL.wellSaid=true:=by
 unfold OpenLaw.wellSaid
 simp only[Bool.and_eq_true]
 and_intros
 ·exact wrF
 all_goals kernel_rfl
theorem UR:(defOf Q0 RL.row.name).isSome=true:=by kernel_rfl
def D1:=((defOf Q0 RL.row.name).get UR).1
def K1:=((defOf Q0 RL.row.name).get UR).2
theorem dgF:defOf Q0 RL.row.name=some (D1,K1):=(Option.some_get UR).symm
theorem dnF:D1.name=Str.ofString "law":=by kernel_rfl
theorem thF:RL.row.prog.theDef RL.row.name=some (D1.params,D1.body,D1.scope):=by kernel_rfl
theorem kwF:kwWritten? D1.params.kwonlyargs D1.params.kw_defaults=some K1:=by kernel_rfl
theorem ZG:(opening PW).tameTopW=true:=by kernel_rfl
theorem ok2:(!bearImports (behindTheImports PW))=true:=by kernel_rfl
theorem ok3:frees RL.row.toRowW=true:=by kernel_rfl
theorem okF:(chainsOk Q0&&opensWell RL.row.prog&&(frees RL.row.toRowW&&RL.row.within.isEmpty))=true:=look_both (look_both (by kernel_rfl) (look_both ZG ok2)) (look_both ok3 rfl)
theorem brF:RL.row.prog.bare:=⟨rfl,rfl,rfl,rfl,rfl,by decide +kernel⟩
theorem wiF:RL.row.toRowW.promised:=by w_witness2
theorem abi (law:LawW):RL.Holds:=
 holds_law wsF fun said=>holds_open (q:=Q0) (loose:=L0) (Xt:=XT) (XP:=fun _ _=>True) (Yf:=HK.obs) (Ya:=HK.val) (YP:=HK.says) (N:=20000) Wa HK.of HK.keeps (fun _ _=>trivial) (fun _ _ _ _ _=>trivial) dgF thF kwF (fun _ _=>recFacts_nil rfl) rfl said okF brF wiF (V6 law dnF)
end
end
end
end Mine
theorem PySem.Challenge.cw_nz0174_01_holds : PySem.Challenge.rw_nz0174_01.Holds := by
  exact Mine.abi Mine.abh
