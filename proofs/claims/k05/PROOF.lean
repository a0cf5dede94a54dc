import PyProof.Rows.All
import Wide.All
import OpenK.AllK
import Wide.FinOn
import HandS.ForMost
import HandS.Exc
import HandS.ExcOwn
import HandS.ExcField
import HandS.Small
import HandS.TupAny
import HandS.IsInst
import HandS.Flow
import HandS.Walk
import HandS.WordsExc
import HandS.Defaults
import HandS.More
import PyProof.FString
import PyProof.FString4
import KE.KExcSuper
import PyProof.FitsInt
import PyProof.StrLawsRepr
import HandS.TryMany
import HandS.ExcIs
import HandS.Star
import KE.KExcIs
import HandS.Deep
import KE.KDictDisplayH
import KE.KeyNested
import HandS.OwnEq
import HandS.IterNext
import HandS.ExcInit
import HandS.MakeKwOnly
import HandS.StrMore
import KE.KDictZip
import HandS.Style
import HandS.TupLen
import HandS.DictComp
import KE.KSuper
import KE.KEqDict
import KE.KDictPairs
import KE.KDictWalk
import KE.KDictList
import HandS.Property
import HandS.Finally
import PySem.Challenge.RW_orderatonce_k05_memory_items
set_option Elab.async false
set_option linter.all false
set_option maxRecDepth 100000
local macro_rules | `(tactic| trivial)=>`(tactic| first|exact Or.inl rfl|exact Or.inr rfl|exact⟨rfl,rfl,rfl,by decide +kernel,rfl,by decide +kernel,by decide +kernel⟩|decide +kernel|fail)
namespace DL
open PySem L2 PyProof.Rows
def Ex (H H':Hp):Prop:=∀a o,H a=some o→H' a=some o
theorem Ex.refl (H:Hp):Ex H H:=fun _ _ h=>h
theorem Ex.trans {H H1 H2:Hp} (a:Ex H H1) (b:Ex H1 H2):Ex H H2:=fun x o h=>b x o (a x o h)
theorem Ex.none {H H':Hp} (e:Ex H H') {a:Addr} (h:H' a=Option.none):H a=Option.none:=by
 cases q:H a with
 | none=>rfl
 | some o=>rw[e a o q] at h;cases h
theorem Ex.new {H:Hp} {p:Addr} {o:HO} (h:H p=Option.none):Ex H (upd H p o):=fun a u e=>by
 rw[upd_ne (ne_of_none e h)];exact e
inductive Sm:HO→HO→Prop
 | rf (o:HO):Sm o o
 | lk (ob:Obj) (kvs):Sm (.dK kvs) (.frz ob (.dK kvs))
 | ul (ob:Obj) (kvs):Sm (.frz ob (.dK kvs)) (.dK kvs)
 | lt (ob:Obj) (kvs):Sm (.dT kvs) (.frz ob (.dT kvs))
 | ut (ob:Obj) (kvs):Sm (.frz ob (.dT kvs)) (.dT kvs)
 | le (ob:Obj) (φ):Sm (.ext φ) (.frz ob (.ext φ))
 | ue (ob:Obj) (φ):Sm (.frz ob (.ext φ)) (.ext φ)
def Rl (H H':Hp):Prop:=∀a o,H a=some o→∃o',H' a=some o'∧Sm o o'
def Rk (G H:Hp):Prop:=∀a o,G a=some o→H a=some o∨(∃ob kvs,o=.dK kvs∧H a=some (.frz ob (.dK kvs)))∨∃ob kvs,o=.dT kvs∧H a=some (.frz ob (.dT kvs))
theorem Rk.rl {G H:Hp} (r:Rk G H):Rl G H:=fun a o h=>by
 rcases r a o h with e|⟨ob,kvs,rfl,e⟩|⟨ob,kvs,rfl,e⟩
 ·exact⟨o,e,.rf o⟩
 ·exact⟨_,e,.lk ob kvs⟩
 ·exact⟨_,e,.lt ob kvs⟩
theorem Rk.ex {G H H':Hp} (r:Rk G H) (e:Ex H H'):Rk G H':=fun a o h=>by
 rcases r a o h with q|⟨ob,kvs,z,q⟩|⟨ob,kvs,z,q⟩
 ·exact .inl (e _ _ q)
 ·exact .inr (.inl ⟨ob,kvs,z,e _ _ q⟩)
 ·exact .inr (.inr ⟨ob,kvs,z,e _ _ q⟩)
theorem Rl.refl (G:Hp):Rl G G:=fun a o h=>⟨o,h,.rf o⟩
theorem Ex.rl {H H':Hp} (e:Ex H H'):Rl H H':=fun a o h=>⟨o,e a o h,.rf o⟩
theorem Rl.l {K:PySem.W.Frag} {H H':Hp} {a:Addr} {xs:List V} (r:Rl H H') (h:SqL K H a xs):SqL K H' a xs:=by
 rcases h with (h|⟨o,h⟩)|h
 ·obtain⟨o',e,s⟩:=r _ _ h;cases s;exact .inl (.inl e)
 ·obtain⟨o',e,s⟩:=r _ _ h;cases s;exact .inl (.inr ⟨_,e⟩)
 ·exact .inr h
theorem Rl.ls {H H':Hp} {a:Addr} {xs:List V} (r:Rl H H') (h:Rd H a (.lst xs)):Rd H' a (.lst xs):=by
 rcases h with h|⟨o,h⟩
 ·obtain⟨o',e,s⟩:=r _ _ h;cases s;exact .inl e
 ·obtain⟨o',e,s⟩:=r _ _ h;cases s;exact .inr ⟨_,e⟩
theorem Rl.t {K:PySem.W.Frag} {H H':Hp} {a:Addr} {xs:List V} (r:Rl H H') (h:SqT K H a xs):SqT K H' a xs:=by
 rcases h with (h|⟨o,h⟩)|h
 ·obtain⟨o',e,s⟩:=r _ _ h;cases s;exact .inl (.inl e)
 ·obtain⟨o',e,s⟩:=r _ _ h;cases s;exact .inl (.inr ⟨_,e⟩)
 ·exact .inr h
theorem Rl.k {H H':Hp} {a:Addr} {kvs:List (Key×V)} (r:Rl H H') (h:Rd H a (.dK kvs)):Rd H' a (.dK kvs):=by
 rcases h with h|⟨o,h⟩
 ·obtain⟨o',e,s⟩:=r _ _ h
  cases s with
  | rf=>exact .inl e
  | lk ob=>exact .inr ⟨_,e⟩
 ·obtain⟨o',e,s⟩:=r _ _ h
  cases s with
  | rf=>exact .inr ⟨_,e⟩
  | ul=>exact .inl e
theorem Rl.kt {H H':Hp} {a:Addr} {kvs:List (List Key×V)} (r:Rl H H') (h:Rd H a (.dT kvs)):Rd H' a (.dT kvs):=by
 rcases h with h|⟨o,h⟩
 ·obtain⟨o',e,s⟩:=r _ _ h
  cases s with
  | rf=>exact .inl e
  | lt ob=>exact .inr ⟨_,e⟩
 ·obtain⟨o',e,s⟩:=r _ _ h
  cases s with
  | rf=>exact .inr ⟨_,e⟩
  | ut=>exact .inl e
theorem Rl.i {H H':Hp} {a C dx:Addr} {fs:List (Str×V)} (r:Rl H H') (h:H a=some (.ins C dx fs)):H' a=some (.ins C dx fs):=by
 obtain⟨o',e,s⟩:=r _ _ h;cases s;exact e
theorem Rl.x {H H':Hp} {a:Addr} {fs:List (Str×V)} (r:Rl H H') (h:H a=some (.xd fs)):H' a=some (.xd fs):=by
 obtain⟨o',e,s⟩:=r _ _ h;cases s;exact e
theorem Rl.e {H H':Hp} {a:Addr} {φ:Heap→Prop} (r:Rl H H') (h:Rd H a (.ext φ)):Rd H' a (.ext φ):=by
 rcases h with h|⟨o,h⟩
 ·obtain⟨o',e,s⟩:=r _ _ h
  cases s with
  | rf=>exact .inl e
  | le ob=>exact .inr ⟨_,e⟩
 ·obtain⟨o',e,s⟩:=r _ _ h
  cases s with
  | rf=>exact .inr ⟨_,e⟩
  | ue=>exact .inl e
section
variable (K:PySem.W.Frag)
mutual
def Nk (H:Hp):NestedKey→V→Prop
 | .none,v=>v=.non
 | .num i,v=>v=.int i
 | .text x,v=>v=.str x
 | .tup ks,v=>∃a vs,v=.ref a∧SqT K H a vs∧gG H ks vs
def gG (H:Hp):List NestedKey→List V→Prop
 | [],vs=>vs=[]
 | k::ks,vs=>∃v r,vs=v::r∧Nk H k v∧gG H ks r
end
variable {K}
mutual
theorem Nk.mono {H H':Hp} (r:Rl H H'):∀(k:NestedKey) (v:V),Nk K H k v→Nk K H' k v
 | .none,v,h=>by unfold Nk at h ⊢;exact h
 | .num i,v,h=>by unfold Nk at h ⊢;exact h
 | .text x,v,h=>by unfold Nk at h ⊢;exact h
 | .tup ks,v,h=>by
  unfold Nk at h ⊢
  obtain⟨a,vs,e,s,q⟩:=h
  exact⟨a,vs,e,r.t s,gG.mono r ks vs q⟩
theorem gG.mono {H H':Hp} (r:Rl H H'):∀(ks:List NestedKey) (vs:List V),gG K H ks vs→gG K H' ks vs
 | [],vs,h=>by unfold gG at h ⊢;exact h
 | k::ks,vs,h=>by
  unfold gG at h ⊢
  obtain⟨v,t,e,p,q⟩:=h
  exact⟨v,t,e,Nk.mono r k v p,gG.mono r ks t q⟩
end
end
abbrev NE:=NestedKey×Addr×V
def aaJ (w:World) (a:Addr) (kvs:List NE) (h:Heap):Prop:=
 kvs.length≤sizeLine∧(a == sysModules)=false∧(∀p∈kvs,p.1.depth≤8)∧∃xs:List (NestedKey×Addr×Value),
  Paired (fun(p:NE) (q:NestedKey×Addr×Value)=>p.1=q.1∧p.2.1=q.2.1∧RelV p.2.2 q.2.2) kvs xs∧
  ∃o es ep,h.get? a=some o∧o.ExactDict∧o.data=.dict es ep∧es.toList=xs.map (fun x=>(⟨x.1.hash w,.ref x.2.1,x.2.2⟩:DictEntry))∧(xs.map (·.1)).Nodup
abbrev Je (w:World) (a:Addr) (kvs:List NE):HO:=.ext (aaJ w a kvs)
inductive D where
 | non|bl (b:Bool)|int (i:Int)|str (x:Str)|ref (a:Addr)|ty (n:String)
 | lst (xs:List D)|tup (xs:List D)|cM (ns:List Int)
 | aM (ks:List Key) (xs:List D)|dct (ks:List (List Key)) (xs:List D)
 | lg (w:World) (ks:List NestedKey) (xs:List D)
 | ins (C:Addr) (fs:List Str) (xs:List D)
 | exc (a C dd:Addr) (fs:List Str) (xs:List D)
 deriving Inhabited
section
variable (K:PySem.W.Frag)
mutual
def Rp (H:Hp):D→V→Prop
 | .non,v=>v=.non
 | .bl b,v=>v=.bl b
 | .int i,v=>v=.int i
 | .str x,v=>v=.str x
 | .ref a,v=>v=.ref a
 | .ty n,v=>v=.ty n
 | .lst xs,v=>∃a vs,v=.ref a∧Rd H a (.lst vs)∧ak H xs vs
 | .cM ns,v=>∃a,v=.ref a∧SqL K H a (ns.map V.int)
 | .tup xs,v=>∃a vs,v=.ref a∧SqT K H a vs∧ak H xs vs
 | .aM ks xs,v=>∃a vs,v=.ref a∧Rd H a (.dK (ks.zip vs))∧ks.length=vs.length∧ak H xs vs
 | .dct ks xs,v=>∃a vs,v=.ref a∧Rd H a (.dT (ks.zip vs))∧ks.length=vs.length∧ak H xs vs
 | .lg w ks xs,v=>∃(a b:Addr) (vs:List V) (cU:List Addr),v=.ref a∧Rd H a (Je w b (ks.zip (cU.zip vs)))∧ks.length=cU.length∧gG K H ks (cU.map V.ref)∧ks.length=vs.length∧ak H xs vs
 | .ins C fs xs,v=>∃a dx vs,v=.ref a∧H a=some (.ins C dx (fs.zip vs))∧fs.length=vs.length∧ak H xs vs
 | .exc a C dd fs xs,v=>∃vs,v=.ref a∧H dd=some (.xd (fs.zip vs))∧fs.length=vs.length∧ak H xs vs
def ak (H:Hp):List D→List V→Prop
 | [],vs=>vs=[]
 | d::ds,vs=>∃v r,vs=v::r∧Rp H d v∧ak H ds r
end
variable {K}
mutual
theorem Rp.mono {H H':Hp} (r:Rl H H'):∀(d:D) (v:V),Rp K H d v→Rp K H' d v
 | .non,v,h=>h
 | .bl b,v,h=>h
 | .int i,v,h=>h
 | .str x,v,h=>h
 | .ref a,v,h=>h
 | .ty n,v,h=>h
 | .lst xs,v,h=>by
  unfold Rp at h ⊢
  obtain⟨a,vs,e,s,q⟩:=h
  exact⟨a,vs,e,r.ls s,ak.mono r xs vs q⟩
 | .cM ns,v,h=>by
  unfold Rp at h ⊢
  obtain⟨a,e,s⟩:=h
  exact⟨a,e,r.l s⟩
 | .tup xs,v,h=>by
  unfold Rp at h ⊢
  obtain⟨a,vs,e,s,q⟩:=h
  exact⟨a,vs,e,r.t s,ak.mono r xs vs q⟩
 | .aM ks xs,v,h=>by
  unfold Rp at h ⊢
  obtain⟨a,vs,e,s,z,q⟩:=h
  exact⟨a,vs,e,r.k s,z,ak.mono r xs vs q⟩
 | .dct ks xs,v,h=>by
  unfold Rp at h ⊢
  obtain⟨a,vs,e,s,z,q⟩:=h
  exact⟨a,vs,e,r.kt s,z,ak.mono r xs vs q⟩
 | .lg w ks xs,v,h=>by
  unfold Rp at h ⊢
  obtain⟨a,b,vs,cU,e,s,l,n,z,q⟩:=h
  exact⟨a,b,vs,cU,e,r.e s,l,gG.mono r _ _ n,z,ak.mono r xs vs q⟩
 | .ins C fs xs,v,h=>by
  unfold Rp at h ⊢
  obtain⟨a,dx,vs,e,s,z,q⟩:=h
  exact⟨a,dx,vs,e,r.i s,z,ak.mono r xs vs q⟩
 | .exc a C dd fs xs,v,h=>by
  unfold Rp at h ⊢
  obtain⟨vs,e,s,z,q⟩:=h
  exact⟨vs,e,r.x s,z,ak.mono r xs vs q⟩
theorem ak.mono {H H':Hp} (r:Rl H H'):∀(ds:List D) (vs:List V),ak K H ds vs→ak K H' ds vs
 | [],vs,h=>h
 | d::ds,vs,h=>by
  unfold ak at h ⊢
  obtain⟨v,t,e,p,q⟩:=h
  exact⟨v,t,e,Rp.mono r d v p,ak.mono r ds t q⟩
end
theorem ak.len {H:Hp}:∀{ds:List D} {vs:List V},ak K H ds vs→ds.length=vs.length
 | [],vs,h=>by unfold ak at h;subst h;rfl
 | d::ds,vs,h=>by
  unfold ak at h
  obtain⟨v,t,rfl,p,q⟩:=h
  rw[List.length_cons,List.length_cons,ak.len q]
theorem ak.get {H:Hp}:∀{ds:List D} {vs:List V} {i:Nat} {d:D},ak K H ds vs→ds[i]?=some d→∃v,vs[i]?=some v∧Rp K H d v
 | [],vs,i,d,h,e=>by simp at e
 | x::ds,vs,i,d,h,e=>by
  unfold ak at h
  obtain⟨v,t,rfl,p,q⟩:=h
  cases i with
  | zero=>simp at e;subst e;exact⟨v,rfl,p⟩
  | succ i=>
   obtain⟨u,a,b⟩:=ak.get (i:=i) q (by simpa using e)
   exact⟨u,by simpa using a,b⟩
theorem ak.app {H:Hp}:∀{ds es:List D} {vs us:List V},ak K H ds vs→ak K H es us→ak K H (ds++es) (vs++us)
 | [],es,vs,us,h,h'=>by unfold ak at h;subst h;exact h'
 | d::ds,es,vs,us,h,h'=>by
  unfold ak at h
  obtain⟨v,t,rfl,p,q⟩:=h
  show ak K H (d::(ds++es)) _
  unfold ak
  exact⟨v,t++us,rfl,p,ak.app q h'⟩
theorem ak.one {H:Hp} {d:D} {v:V} (h:Rp K H d v):ak K H [d] [v]:=by
 unfold ak;exact⟨v,[],rfl,h,by unfold ak;rfl⟩
theorem ak.nil {H:Hp}:ak K H [] []:=by unfold ak;rfl
theorem ak.cons {H:Hp} {d:D} {v:V} {ds:List D} {vs:List V} (h:Rp K H d v) (t:ak K H ds vs):ak K H (d::ds) (v::vs):=by
 unfold ak;exact⟨v,vs,rfl,h,t⟩
theorem ak.set {H:Hp}:∀{ds:List D} {vs:List V} (i:Nat) {d:D} {v:V},ak K H ds vs→Rp K H d v→ak K H (ds.set i d) (vs.set i v)
 | [],vs,i,d,v,h,_=>by unfold ak at h;subst h;exact ak.nil
 | x::ds,vs,i,d,v,h,p=>by
  unfold ak at h
  obtain⟨w,t,rfl,p',q⟩:=h
  cases i with
  | zero=>exact ak.cons p q
  | succ i=>exact ak.cons p' (ak.set i q p)
theorem ak.take {H:Hp}:∀{ds:List D} {vs:List V} (n:Nat),ak K H ds vs→ak K H (ds.take n) (vs.take n)
 | ds,vs,0,h=>ak.nil
 | [],vs,n+1,h=>by unfold ak at h;subst h;exact ak.nil
 | d::ds,vs,n+1,h=>by
  unfold ak at h
  obtain⟨v,t,rfl,p,q⟩:=h
  exact ak.cons p (ak.take n q)
theorem ak.drop {H:Hp}:∀{ds:List D} {vs:List V} (n:Nat),ak K H ds vs→ak K H (ds.drop n) (vs.drop n)
 | ds,vs,0,h=>h
 | [],vs,n+1,h=>by unfold ak at h;subst h;exact ak.nil
 | d::ds,vs,n+1,h=>by
  unfold ak at h
  obtain⟨v,t,rfl,p,q⟩:=h
  exact ak.drop n q
theorem ak.mX {H:Hp} {vs:List V} (h:ak K H [] vs):vs=[]:=by unfold ak at h;exact h
theorem ak.mU {H:Hp} {d:D} {ds:List D} {vs:List V} (h:ak K H (d::ds) vs):∃v t,vs=v::t∧Rp K H d v∧ak K H ds t:=by unfold ak at h;exact h
theorem Rp.jA {H:Hp} {i:Int} {v:V} (h:Rp K H (.int i) v):v=.int i:=h
theorem Rp.jU {H:Hp} {i:Bool} {v:V} (h:Rp K H (.bl i) v):v=.bl i:=h
theorem Rp.dD {H:Hp} {i:Str} {v:V} (h:Rp K H (.str i) v):v=.str i:=h
end
section
variable {K:PySem.W.Frag} {x y z d:D}
def fK (K:PySem.W.Frag) (r:R2) (x y z:D):Prop:=∀Hb H v u (Q:VK),Ex Hb H→Rp K Hb x v→Rp K Hb y u→(∀w,(∀Hb,Rp K Hb z w)→Q w H)→r v u H Q
theorem aaK {C:Int→Int→Prop} {g:Int→Int→V} {i j:Int} (hc:C i j) (hz:∀Hb,Rp K Hb z (g i j)):fK K (rI C g) (.int i) (.int j) z:=fun Hb H v u Q e hv hu q=>⟨i,j,hv,hu,hc,q _ hz⟩
theorem Zk {g:Int→Int→V} {i j:Int} (hz:∀Hb,Rp K Hb z (g i j)):fK K (rI0 g) (.int i) (.int j) z:=fun Hb H v u Q e hv hu q=>⟨i,j,hv,hu,q _ hz⟩
end
section
variable {X:Cx}
def gH (r r':R2):R2:=fun x y H Q=>r x y H Q∨r' x y H Q
theorem OpR.or {f:Value→Value→Sem Value} {r r':R2} (h:OpR X f r) (h':OpR X f r'):OpR X f (gH r r'):=fun pins s σ H x y v u Q I rx ry q=>q.elim (h pins s σ H x y v u Q I rx ry) (h' pins s σ H x y v u Q I rx ry)
theorem IxR.or {r r':R2} (h:IxR X r) (h':IxR X r'):IxR X (gH r r'):=fun va sl pins s σ H x y v u Q I rx ry q hs=>q.elim (fun q=>h va sl pins s σ H x y v u Q I rx ry q hs) (fun q=>h' va sl pins s σ H x y v u Q I rx ry q hs)
theorem CallR.or {f:Value} {r r':List V→Hp→VK→Prop} (h:CallR X f r) (h':CallR X f r'):CallR X f (fun xs H Q=>r xs H Q∨r' xs H Q):=fun pins s σ H xs us Q I rx q=>q.elim (h pins s σ H xs us Q I rx) (h' pins s σ H xs us Q I rx)
def rAddS:R2:=fun x y H Q=>∃i j,x=.str i∧y=.str j∧i.length+j.length≤sizeLine∧Q (.str (i++j)) H
def OJ:R2:=fun x y H Q=>∃l b xs zs,x=.ref l∧y=.ref b∧Rd H l (.lst xs)∧Rd H b (.lst zs)∧xs.length+zs.length≤sizeLine∧∀p,H p=none→Q (.ref p) (upd H p (.lst (xs++zs)))
theorem V5:OpR X (binaryOp .Add) OJ:=by
 intro pins s σ H x y v u Q I rx ry h
 obtain⟨l,b,xs,zs,rfl,rfl,hH,hB,hz,q⟩:=h
 cases rx
 cases ry
 obtain⟨z,its,n,r,e⟩:=(show ObjOk X.prog X.w H s.heap l (.lst xs) from hH.ok I.hok)
 obtain⟨z2,its2,n2,r2,e2⟩:=(show ObjOk X.prog X.w H s.heap b (.lst zs) from hB.ok I.hok)
 have hl:=r.length
 have hl2:=r2.length
 refine PySem.P.add_list e e2 ?_ (by rw[List.size_toArray,List.size_toArray];omega)
 have ea:its.toArray++its2.toArray=(its++its2).toArray:=by simp
 rw[ea]
 exact⟨.ref _,_,I.lnew (t':=s.toks) (r.append r2) (by rw[List.length_append];omega),rfl,q _ I.fresh⟩
def Bo (K:PySem.W.Frag):R2:=gH (rI0 fun i j=>.int (i+j)) (gH rAddS (gH OJ (rCatA K)))
def Hz:R2:=rI0 fun i j=>.int (i-j)
def HF:R2:=rI CMul fun i j=>.int (i*j)
def HJ:R2:=rI (fun _ j=>0<j) fun i j=>.int (i%j)
def HS:R2:=rI CDiv fun i j=>.int (i/j)
def HW:R2:=rI CPow fun i j=>.int (i ^ j.toNat)
def Jf:R2:=rI0 fun i j=>.bl (decide (i<j))
def Rh:R2:=rI0 fun i j=>.bl (decide (i≤j))
def Jg:R2:=rI0 fun i j=>.bl (decide (j<i))
def BX:R2:=rI0 fun i j=>.bl (decide (j≤i))
def rJ (K:PySem.W.Frag):R2:=gH rEq (rEqD K)
def uU (K:PySem.W.Frag):R2:=gH rNe (rNeD K)
def wJ (neg:Bool):R2:=fun y x H Q=>∃a o,x=.ref a∧DGet H a y o∧Q (.bl (if neg then !o.isSome else o.isSome)) H
def rSIn (neg:Bool):R2:=fun x y H Q=>∃(c:Nat) (z:Str),x=.str ⟨#[c]⟩∧y=.str z∧Q (.bl (if neg then !decide (c∈z.cps.toList) else decide (c∈z.cps.toList))) H
def O2 (K:PySem.W.Frag) (neg:Bool):R2:=if neg then rNotInD K else rInD K
def rK (K:PySem.W.Frag) (neg:Bool):R2:=gH (rIn K neg) (gH (wJ neg) (gH (rSIn neg) (O2 K neg)))
def rIxD:R2:=fun x y H Q=>∃a v,x=.ref a∧DGet H a y (some v)∧Q v H
def BZ (K:PySem.W.Frag):R2:=gH (rIxL K) (gH (rIxT K) (gH rIxS rIxD))
theorem Xj:OpR X (binaryOp .Add) (Bo X.K):=OpR.or op_add (OpR.or op_add_str (OpR.or V5 op_catA))
theorem Xk:OpR X (binaryOp .Sub) Hz:=op_sub
theorem Xl:OpR X (binaryOp .Mult) HF:=op_mul
theorem Xm:OpR X (binaryOp .Mod) HJ:=op_mod
theorem Xn:OpR X (binaryOp .FloorDiv) HS:=op_fdiv
theorem Xo:OpR X (binaryOp .Pow) HW:=op_pow
theorem Hh:OpR X (compareOp .Lt) Jf:=op_lt
theorem tZ:OpR X (compareOp .LtE) Rh:=op_le
theorem Zm:OpR X (compareOp .Gt) Jg:=op_gt
theorem O4:OpR X (compareOp .GtE) BX:=op_ge
theorem Zo {k:Nat} (hr:Room k X.A):OpR X (compareOp .Eq) (rJ X.K):=OpR.or op_eq (op_eqD hr.units)
theorem Zq {k:Nat} (hr:Room k X.A):OpR X (compareOp .NotEq) (uU X.K):=OpR.or op_ne (op_neD hr.units)
theorem Xp {k:Nat} (hr:Room k X.A):OpR X (compareOp .In) (wJ false):=fun pins s σ H y x v u Q I ry rx h=>by
 obtain⟨a,o,rfl,g,q⟩:=h
 cases rx
 exact d_in (hu_of hr) I g ry fun s' I'=>⟨.bl o.isSome,H,I',rfl,q⟩
theorem V6 {k:Nat} (hr:Room k X.A):OpR X (compareOp .NotIn) (wJ true):=fun pins s σ H y x v u Q I ry rx h=>by
 obtain⟨a,o,rfl,g,q⟩:=h
 cases rx
 exact d_notIn (hu_of hr) I g ry fun s' I'=>⟨.bl (!o.isSome),H,I',rfl,q⟩
theorem Zr {k:Nat} (hr:Room k X.A):OpR X (compareOp .In) (rK X.K false):=OpR.or op_in_seq (OpR.or (Xp hr) (OpR.or op_in_sign (op_inD (by have:=hr.un;omega))))
theorem Xq {k:Nat} (hr:Room k X.A):OpR X (compareOp .NotIn) (rK X.K true):=OpR.or op_notIn_seq (OpR.or (V6 hr) (OpR.or op_notIn_sign (op_notInD (by have:=hr.un;omega))))
theorem Xr {k:Nat} (hr:Room k X.A):IxR X rIxD:=fun va sl pins s σ H x y v u Q I rx ry h hs=>by
 obtain⟨a,z,rfl,g,q⟩:=h
 cases rx
 exact PyProof.Rows.tail_any (dict_typeIs I g) PySem.F.slot_dict_getitem.lookup (d_getItem (hu_of hr) I g ry fun w' s' I' rw'=>⟨z,H,I',rw',q⟩) hs
theorem Zt {k:Nat} (hr:Room k X.A):IxR X (BZ X.K):=IxR.or ix_list (IxR.or ix_tup (IxR.or ix_str (Xr hr)))
def uE (K:PySem.W.Frag):List V→Hp→VK→Prop:=fun xs H Q=>(∃x n,xs=[x]∧LenV K x H n∧Q (.int n) H)∨(∃(a:Addr) (kvs:List (Key×V)),xs=[V.ref a]∧Rd H a (.dK kvs)∧Q (.int kvs.length) H)
theorem Uz:CallR X (.builtin "len") (fun xs H Q=>∃(a:Addr) (kvs:List (Key×V)),xs=[V.ref a]∧Rd H a (.dK kvs)∧Q (.int kvs.length) H):=by
 intro pins s σ H xs us Q I r h
 obtain⟨a,kvs,rfl,ha,q⟩:=h
 obtain⟨u,rfl,ru⟩:=vals1 r
 cases ru
 exact d_len I ha fun t s' I'=>⟨.int kvs.length,H,I',⟨t,rfl⟩,q⟩
theorem Vd:CallR X (.builtin "len") (uE X.K):=CallR.or call_len Uz
def HX:List V→Hp→VK→Prop:=fun xs H Q=>(∃i,xs=[.int i]∧Q (.int i) H)∨∃k,xs=[.bl k]∧Q (.int (if k then 1 else 0)) H
theorem Ve:CallR X (.type "int") HX:=call_int1
end
section
variable {K:PySem.W.Frag} {ta tb te tx:TE} {tt tu:TT} {x y z d:D} {b:Bool} {i j:Int}
theorem fK.inl {r r':R2} (h:fK K r x y z):fK K (gH r r') x y z:=fun Hb H v u Q e hv hu q=>.inl (h Hb H v u Q e hv hu q)
theorem fK.inr {r r':R2} (h:fK K r' x y z):fK K (gH r r') x y z:=fun Hb H v u Q e hv hu q=>.inr (h Hb H v u Q e hv hu q)
theorem dec_str {i j:Str}:decide (V.str i=V.str j)=decide (i=j):=by
 rw[Bool.eq_iff_iff];simp
theorem Mf {Hb:Hp} {ds:List D} {vs:List V} {i:Int} {d:D} (r:ak K Hb ds vs) (h:atI ds i=some d):∃v,atI vs i=some v∧Rp K Hb d v:=by
 unfold atI at h ⊢
 rw[← r.len]
 cases q:ixN ds.length i with
 | none=>rw[q] at h;cases h
 | some j=>
  rw[q,Option.bind_some] at h
  rw[Option.bind_some]
  exact r.get h
end
def mY (lo:Int) (n:Nat):List D:=(List.range n).map fun i=>D.int (lo+(i:Nat))
theorem Vf {lo:Int} {n i:Nat} {d:D} (h:(mY lo n)[i]?=some d):i<n∧d=.int (lo+i):=by
 unfold mY at h
 rw[List.getElem?_map] at h
 cases q:(List.range n)[i]? with
 | none=>rw[q] at h;cases h
 | some k=>
  rw[q] at h
  obtain⟨h1,h2⟩:=List.getElem?_eq_some_iff.mp q
  rw[List.getElem_range] at h2
  subst h2
  rw[List.length_range] at h1
  exact⟨h1,(Option.some.inj h).symm⟩
theorem K6 {lo:Int} {n:Nat}:(mY lo n).length=n:=by unfold mY;simp
def uF (x:Str):List D:=x.cps.toList.map fun c=>D.str ⟨#[c]⟩
theorem K7 {x:Str}:(uF x).length=x.length:=by unfold uF;simp[Str.length]
theorem Kz (σ:L2.St):∀vs:List Nat,wipe (wipe σ vs) vs=wipe σ vs:=by
 intro vs
 refine List.ext_getElem? fun i=>?_
 have key:∀(τ:L2.St) (us:List Nat),(wipe τ us)[i]?=if i∈us then(τ[i]?).map fun _=>none else τ[i]?:=by
  intro τ us
  induction us with
  | nil=>simp[wipe]
  | cons u us ih=>
   unfold wipe
   rw[List.getElem?_set]
   by_cases q:u=i
   ·subst q
    rw[if_pos rfl,if_pos (List.mem_cons_self ..),wipe_length]
    by_cases z:u<τ.length
    ·rw[if_pos z,List.getElem?_eq_getElem z];rfl
    ·rw[if_neg z,List.getElem?_eq_none (by omega)];rfl
   ·rw[if_neg q,ih]
    by_cases z:i∈us
    ·rw[if_pos z,if_pos (List.mem_cons_of_mem _ z)]
    ·rw[if_neg z,if_neg (fun y=>(List.mem_cons.mp y).elim (fun e=>q e.symm) z)]
 rw[key,key]
 by_cases z:i∈vs
 ·rw[if_pos z,if_pos z];cases σ[i]?<;>rfl
 ·rw[if_neg z]
section
variable {K:PySem.W.Frag}
theorem Vg {N:List Str} {vs:List V} {i:Nat} {v:V} (hv:vs[i]?=some v):(L2.start N vs)[i]?=some (some v):=by
 unfold L2.start
 have hi:i<vs.length:=(List.getElem?_eq_some_iff.mp hv).1
 rw[List.getElem?_append_left (by simpa using hi),List.getElem?_map,hv];rfl
structure dY (K:PySem.W.Frag) (x qual:Str) (st:Stmt) (f:Addr) (fd:FuncData):Prop where
 ex:∃(oc:Value) (od:Option Addr) (dV kV doc pm:Value) (an:Option Addr) (cdv ct:Value) (osl:Array (Option Value)),
  fd=PySem.W.fnOf x qual (defArgs st) (defBody st) (defScope st) dV kV doc pm an cdv ct∧K.lookup f=some ⟨oc,od,.func fd,osl⟩∧PySem.W.codeIn K cdv qual=true
 kp:PySem.W.keepIn K (.ref f)=true
theorem uG {x qual:Str} {st:Stmt} {f:Addr} {fd:FuncData} (F:Fun K x qual st f fd):dY K x qual st f fd:=by
 obtain⟨⟨oc,od,kV,doc,pm,an,cdv,ct,osl,h⟩,k⟩:=F
 exact⟨⟨oc,od,.none,kV,doc,pm,an,cdv,ct,osl,h⟩,k⟩
theorem dY.okX {P:Program} {w:World} {mg:Str→Option Value} {base:Heap} {x qual:Str} {st:Stmt} {f:Addr} {fd:FuncData} {N ps:List Str} {k:Nat} {sp:Sp} (F:dY K x qual st f fd) (S:FnScope N ps (defScope st)) (len:∀vs H Q E,sp vs H Q E→vs.length=ps.length)
  (hbody:∀(cdv:Value) (A:Around) (outer:List Env) (s:Shared) (H:Hp) (vs:List V) (Q:VK) (E:XK),Room k (A.deeper (envOfC qual (defScope st) s.heap.objs.size f cdv))→sp vs H Q E→
   ∃t,PSs (cxOf (L2.CX P w) P w K mg base N qual (defScope st) f cdv A outer s H E) (defBody st) t∧t {nx:=fun _ H'=>Q .non H',rt:=Q} (L2.start N vs) H):FnOk P w K mg base (L2.CX P w) (k+1) f fd ps sp:=by
 obtain⟨oc,od,dV,kV,doc,pm,an,cdv,ct,osl,rfl,lk,hcd⟩:=F.ex
 exact fn_of lk hcd S len fun A outer s H vs Q E hr hsp=>hbody cdv A outer s H vs Q E hr hsp
structure Cal (P:Program) (w:World) (K:PySem.W.Frag) (mg:Str→Option Value) (base:Heap) (x:Str) (ps:List Str) (k:Nat) (sp:Sp):Prop where
 ex:∃f fd,FnOk P w K mg base (L2.CX P w) k f fd ps sp∧mg x=some (.ref f)∧PySem.W.keepIn K (.ref f)=true∧Binds K fd ps []
end
section
variable {X:Cx} {x:Str} {ps:List Str} {k j:Nat} {sp:Sp} {W:WX} {e:Expr} {es:List Expr} {t:TA} {p pos:Pos}
theorem ou (C:Cal X.prog X.w X.K X.mg X.base x ps k sp) (hr:Room j X.A) (hk:k≤j) (tk:Takes X W) (ha:PA X (e::es) t) (hg:Gl X x:=by rfl) (hdb:(x == ("__debug__":Str))=false:=by decide)
  (he:starEach (e::es) X.env=(false,eval e X.env)::starEach es X.env:=by rfl) (hpl:(backTo pos (starEach es X.env)).any (·.1)=false:=by rfl):PE X (.Call (.Name x p) (e::es) [] pos) (tCallS sp (WE W) t):=by
 obtain⟨f,fd,h1,h2,h3,h4⟩:=C.ex
 exact pe_callS h1 (hr.mono hk) hg h2 h3 h4 (fun σ=>passAt tk σ) ha hdb he hpl
end
def Nt:List Str:=["len","int","range","isinstance","list","tuple","enumerate","sum","any","str","bool","dict","super","sorted","reversed","iter","abs","max","min","ValueError","Exception","zip","all"]
def cO (mg:Str→Option Value):Prop:=∀x∈Nt,mg x=none
section
variable {X:Cx} {a b c e l:Expr} {es:List Expr} {ta tb tc te tl:TE} {t:TA} {pos p:Pos} {k:Nat} {x:Str}
theorem p_add (ha:PE X a ta) (hb:PE X b tb):PE X (.BinOp a .Add b pos) (tOp (Bo X.K) ta tb):=pe_op Xj ha hb
theorem wz (ha:PE X a ta) (hb:PE X b tb):PE X (.BinOp a .Sub b pos) (tOp Hz ta tb):=pe_op Xk ha hb
theorem t_ (ha:PE X a ta) (hb:PE X b tb):PE X (.BinOp a .Mult b pos) (tOp HF ta tb):=pe_op Xl ha hb
theorem gW (ha:PE X a ta) (hb:PE X b tb):PE X (.BinOp a .Mod b pos) (tOp HJ ta tb):=pe_op Xm ha hb
theorem qK (ha:PE X a ta) (hb:PE X b tb):PE X (.BinOp a .FloorDiv b pos) (tOp HS ta tb):=pe_op Xn ha hb
theorem O5 (ha:PE X a ta) (hb:PE X b tb):PE X (.BinOp a .Pow b pos) (tOp HW ta tb):=pe_op Xo ha hb
theorem aaL (ha:PE X a ta) (hb:PE X b tb):PE X (.Compare a [.GtE] [b] pos) (tOp BX ta tb):=pe_cmpR O4 ha hb (nomark _)
theorem aaM (hr:Room k X.A) (ha:PE X a ta) (hb:PE X b tb) (hm:behindInMarks .In b=false:=by with_unfolding_all rfl):PE X (.Compare a [.In] [b] pos) (tOp (rK X.K false) ta tb):=pe_cmpR (Zr hr) ha hb hm
theorem q_lt (ha:PE X a ta) (hb:PE X b tb):PT X (.Compare a [.Lt] [b] pos) (tTest (tOp Jf ta tb)):=pt_cmpR Hh ha hb (nomark _)
theorem aaN (ha:PE X a ta) (hb:PE X b tb):PT X (.Compare a [.Gt] [b] pos) (tTest (tOp Jg ta tb)):=pt_cmpR Zm ha hb (nomark _)
theorem aaO (ha:PE X a ta) (hb:PE X b tb):PT X (.Compare a [.GtE] [b] pos) (tTest (tOp BX ta tb)):=pt_cmpR O4 ha hb (nomark _)
theorem aaP (hr:Room k X.A) (ha:PE X a ta) (hb:PE X b tb):PT X (.Compare a [.Eq] [b] pos) (tTest (tOp (rJ X.K) ta tb)):=pt_cmpR (Zo hr) ha hb (nomark _)
theorem aaQ (hr:Room k X.A) (ha:PE X a ta) (hb:PE X b tb):PT X (.Compare a [.NotEq] [b] pos) (tTest (tOp (uU X.K) ta tb)):=pt_cmpR (Zq hr) ha hb (nomark _)
theorem Zu (hr:Room k X.A) (ha:PE X a ta) (hb:PE X b tb) (hm:behindInMarks .NotIn b=false:=by with_unfolding_all rfl):PT X (.Compare a [.NotIn] [b] pos) (tTest (tOp (rK X.K true) ta tb)):=pt_cmpR (Xq hr) ha hb hm
theorem zj {op op':CmpOp} {r r':R2} (ho:OpR X (compareOp op) r) (ho':OpR X (compareOp op') r') (ha:PE X a ta) (hb:PE X b tb) (hc:PE X c tc) (hm:lastMarks [op,op'] [b,c]=false:=by with_unfolding_all rfl):PT X (.Compare a [op,op'] [b,c] pos) (tTest (tChain r r' ta tb tc)):=pt_chain ho ho' ha hb hc hm
def tTru (K:PySem.W.Frag) (ta:TE):TT:=fun σ H Q=>ta σ H fun x H'=>∃k,TruV K x H' k∧Q k H'
theorem Zv (ha:PE X a ta) (he:∀whole,isTrue a X.env whole=(do let v ← whole;standAt a.pos;holding [v] (truthy v)):=by intro _;rfl):PT X a (tTru X.K ta):=pt_truth ha he
theorem aaR (hr:Room k X.A) (ha:PE X a ta) (hb:PE X b tb) (hs:PlainIx b:=by exact fun _ _=>rfl):PE X (.Subscript a b pos) (tOp (BZ X.K) ta tb):=pe_ix (Zt hr) ha hb hs
theorem Zw (hB:cO X.mg) (h:PE X e te) (hg:Gl X "len":=by rfl) (he:starEach [e] X.env=(false,eval e X.env)::starEach [] X.env:=by rfl):PE X (.Call (.Name "len" p) [e] [] pos) (tCB (uE X.K) (tCons te tNil)):=
 pe_callB Vd hg (hB _ (by trivial)) PySem.boot_len (pa_cons h pa_nil he) (he:=he)
theorem gY (hB:cO X.mg) (h:PE X e te) (hg:Gl X "int":=by rfl) (he:starEach [e] X.env=(false,eval e X.env)::starEach [] X.env:=by rfl):PE X (.Call (.Name "int" p) [e] [] pos) (tCB HX (tCons te tNil)):=
 pe_callTy Ve hg (hB _ (by trivial)) boot_int (pa_cons h pa_nil he) (he:=he)
theorem Zx (hB:cO X.mg) (h:PE X a ta) (h2:PE X b tb) (hg:Gl X "isinstance":=by rfl) (he:starEach [a,b] X.env=(false,eval a X.env)::starEach [b] X.env:=by rfl) (he2:starEach [b] X.env=(false,eval b X.env)::starEach [] X.env:=by rfl) (hpl:(backTo pos (starEach [b] X.env)).any (·.1)=false:=by rfl) :
  PE X (.Call (.Name "isinstance" p) [a,b] [] pos) (tCB (rIsi X.K) (tCons ta (tCons tb tNil))):=
 pe_callB call_isi hg (hB _ (by trivial)) (by trivial) (pa_cons h (pa_cons h2 pa_nil he2) he) (he:=he) (hpl:=hpl)
theorem Zy (hB:cO X.mg) (hg:Gl X "int":=by rfl):PE X (.Name "int" pos) (tC (.ty "int")):=pe_bltn hg (hB _ (by trivial)) boot_int rfl
theorem ZC (hB:cO X.mg) (hg:Gl X "bool":=by rfl):PE X (.Name "bool" pos) (tC (.ty "bool")):=pe_bltn hg (hB _ (by trivial)) (by trivial) rfl
def Hi (K:PySem.W.Frag):List V→Hp→VK→Prop:=fun xs H Q=>(∃p ys,xs=[.ref p]∧(SqL K H p ys∨SqT K H p ys)∧∀l,H l=none→Q (.ref l) (upd H l (.lst ys)))∨∃(a:Addr) (kvs:List (Key×V)),xs=[.ref a]∧Rd H a (.dK kvs)∧∀p,H p=none→Q (.ref p) (upd H p (.lst (kvs.map fun kv=>kV kv.1)))
theorem V7 (hB:cO X.mg) (h:PE X e te) (hc:X.calm=true:=by rfl) (hg:Gl X "list":=by rfl) (he:starEach [e] X.env=(false,eval e X.env)::starEach [] X.env:=by rfl):PE X (.Call (.Name "list" p) [e] [] pos) (tCB (Hi X.K) (tCons te tNil)):=
 pe_callTy (CallR.or call_list_of (call_listD hc)) hg (hB _ (by trivial)) (by trivial) (pa_cons h pa_nil he) (he:=he)
theorem Nu {n:Int} (h:∃t,X.mg x=some (.int n t)) (hg:Gl X x:=by rfl) (hd:(x == ("__debug__":Str))=false:=by decide):PE X (.Name x pos) (tC (.int n)):=by
 obtain⟨t,h⟩:=h
 exact pe_glob hg h ⟨_,rfl⟩ hd
theorem Xu {n:Str} (h:∃t,X.mg x=some (.str n t)) (hg:Gl X x:=by rfl) (hd:(x == ("__debug__":Str))=false:=by decide):PE X (.Name x pos) (tC (.str n)):=by
 obtain⟨t,h⟩:=h
 exact pe_glob hg h ⟨_,rfl⟩ hd
theorem qD {tg:Expr} (hB:cO X.mg) (h:PE X e te) (hg:Gl X "range":=by rfl) (hs:starEach [e] X.env=[(false,eval e X.env)]:=by rfl):PI X tg (.Call (.Name "range" p) [e] [] pos) (iRng1 (tCons te tNil)):=pi_range1 hg (hB _ (by trivial)) (pa_cons h pa_nil hs) hs
theorem gQ (K:PySem.W.Frag) (ha:PE X a ta) (hb:PE X b tb) (hK:X.K=K:=by rfl):PE X (.BinOp a .Add b pos) (tOp (Bo K) ta tb):=by subst hK;exact p_add (ha:=ha) (hb:=hb)
theorem ZD (K:PySem.W.Frag) (hr:Room k X.A) (ha:PE X a ta) (hb:PE X b tb) (hm:behindInMarks .In b=false:=by with_unfolding_all rfl) (hK:X.K=K:=by rfl):PE X (.Compare a [.In] [b] pos) (tOp (rK K false) ta tb):=by subst hK;exact aaM (hr:=hr) (ha:=ha) (hb:=hb) (hm:=hm)
theorem O6 (K:PySem.W.Frag) (hr:Room k X.A) (ha:PE X a ta) (hb:PE X b tb) (hK:X.K=K:=by rfl):PT X (.Compare a [.Eq] [b] pos) (tTest (tOp (rJ K) ta tb)):=by subst hK;exact aaP (hr:=hr) (ha:=ha) (hb:=hb)
theorem uf (K:PySem.W.Frag) (hr:Room k X.A) (ha:PE X a ta) (hb:PE X b tb) (hK:X.K=K:=by rfl):PT X (.Compare a [.NotEq] [b] pos) (tTest (tOp (uU K) ta tb)):=by subst hK;exact aaQ (hr:=hr) (ha:=ha) (hb:=hb)
theorem G4 (K:PySem.W.Frag) (hr:Room k X.A) (ha:PE X a ta) (hb:PE X b tb) (hm:behindInMarks .NotIn b=false:=by with_unfolding_all rfl) (hK:X.K=K:=by rfl):PT X (.Compare a [.NotIn] [b] pos) (tTest (tOp (rK K true) ta tb)):=by subst hK;exact Zu (hr:=hr) (ha:=ha) (hb:=hb) (hm:=hm)
theorem vR (K:PySem.W.Frag) (ha:PE X a ta) (he:∀whole,isTrue a X.env whole=(do let v ← whole;standAt a.pos;holding [v] (truthy v)):=by intro _;rfl) (hK:X.K=K:=by rfl):PT X a (tTru K ta):=by subst hK;exact Zv (ha:=ha) (he:=he)
theorem cG (K:PySem.W.Frag) (hr:Room k X.A) (ha:PE X a ta) (hb:PE X b tb) (hs:PlainIx b:=by exact fun _ _=>rfl) (hK:X.K=K:=by rfl):PE X (.Subscript a b pos) (tOp (BZ K) ta tb):=by subst hK;exact aaR (hr:=hr) (ha:=ha) (hb:=hb) (hs:=hs)
theorem vU (K:PySem.W.Frag) (hB:cO X.mg) (h:PE X e te) (hg:Gl X "len":=by rfl) (he:starEach [e] X.env=(false,eval e X.env)::starEach [] X.env:=by rfl) (hK:X.K=K:=by rfl):PE X (.Call (.Name "len" p) [e] [] pos) (tCB (uE K) (tCons te tNil)):=by subst hK;exact Zw (hB:=hB) (h:=h) (hg:=hg) (he:=he)
theorem Nv (K:PySem.W.Frag) (hB:cO X.mg) (h:PE X a ta) (h2:PE X b tb) (hg:Gl X "isinstance":=by rfl) (he:starEach [a,b] X.env=(false,eval a X.env)::starEach [b] X.env:=by rfl) (he2:starEach [b] X.env=(false,eval b X.env)::starEach [] X.env:=by rfl) (hpl:(backTo pos (starEach [b] X.env)).any (·.1)=false:=by rfl) (hK:X.K=K:=by rfl):PE X (.Call (.Name "isinstance" p) [a,b] [] pos) (tCB (rIsi K) (tCons ta (tCons tb tNil))):=by subst hK;exact Zx (hB:=hB) (h:=h) (h2:=h2) (hg:=hg) (he:=he) (he2:=he2) (hpl:=hpl)
theorem Fw (K:PySem.W.Frag) (hB:cO X.mg) (h:PE X e te) (hc:X.calm=true:=by rfl) (hg:Gl X "list":=by rfl) (he:starEach [e] X.env=(false,eval e X.env)::starEach [] X.env:=by rfl) (hK:X.K=K:=by rfl):PE X (.Call (.Name "list" p) [e] [] pos) (tCB (Hi K) (tCons te tNil)):=by subst hK;exact V7 (hB:=hB) (h:=h) (hc:=hc) (hg:=hg) (he:=he)
theorem oh {f:Str} (K:PySem.W.Frag) (he:PE X e ta) (hb:attributeBase e f X.env (eval e X.env)=eval e X.env) (hK:X.K=K:=by rfl):PE X (.Attribute e f pos) (tFld K ta f):=by subst hK;exact pe_fld he hb
theorem K8 {tg:Expr} (K:PySem.W.Frag) (hl:PE X e te) (hK:X.K=K:=by rfl):PI X tg e (iList K te):=by subst hK;exact pi_list hl
end
end DL
set_option maxHeartbeats 2000000
namespace PySem
namespace eG
open PySem.W PySem.Calls PyProof.Rows PySem.HandSPX
def Qv (jv:List Expr) (jp p0 p1 p2 p3 p4:Pos):Stmt:=.Expr (.Call (.Attribute (.Call (.Name "super" p0) [] [] p1) "__init__" p2) [.JoinedStr jv jp] [] p3) p4
structure zK (prog:Program) (K:Frag) (mg:Str→Option Value) (C fI:Addr) (cn qual:Str) (st:Stmt) (ps:List Str) (jv:List Expr) (rest:List Stmt):Prop where
 gC:mg cn=some (.ref C)
 cls:∃nm q N bs bm sn sub ab col dd k0 k1 k2 k3 k5,K.lookup C=some (excClassObj nm q C N bs bm true sn sub ab col dd k0 k1 k2 k3 k5 "ValueError.__new__")∧refsVE bm=true
 sa:findIn K (.ref C) "__setattr__"=some (some (.builtin "object.__setattr__"))
 ga:findIn K (.ref C) "__getattribute__"=some (some (.builtin "BaseException.__getattribute__"))
 gg:findIn K (.ref C) "__getattr__"=some none
 iC:findIn K (.ref C) "__init__"=some (some (.ref fI))
 tC:typeIn K (.ref fI)=some (.type "function")
 kC:keepIn K (.ref C)=true
 exC:subIn K (.ref C) (.type "BaseException")=some true
 Jh:subIn K (.ref C) (.type "ValueError")=some true
 Ji:mroIn K C (.ref C)=some true
 tyC:typeIn K (.ref C)=some (.type "type")
 hdC:hasDictIn K C=true
 sup:ks_superIn K C C "__init__"=some (some (.builtin "ValueError.__init__"))
 lY:nsIn K cStatics "thirdparty.any"=some none
 mgS:mg "super"=none
 top:(prog.main.scope.names.lookup ("super":Str)).isSome=false
 lk:∃(oc:Value) (od:Option Addr) (kV doc pm:Value) (an:Option Addr) (cda:Addr) (ct:Value) (cc:Addr) (osl:Array (Option Value)) (ccl:Value) (cdd:Option Addr) (vs:Array Value) (ccs:Array (Option Value)) (file:Str) (tf:Tok) (cl:Value) (cld:Option Addr) (csl:Array (Option Value)),
  K.lookup fI=some ⟨oc,od,.func (ksFn "__init__" qual (L2.defArgs st) (L2.defBody st) (L2.defScope st) .none kV doc pm an (.ref cda) ct cc),osl⟩∧codeIn K (.ref cda) qual=true∧
  K.lookup cda=some ⟨ccl,cdd,.fields vs,ccs⟩∧vs[2]?=some (.str file tf)∧((prog.main.file:Str) == file)=true∧K.lookup cc=some ⟨cl,cld,.cell (some (.ref C)),csl⟩
structure vW (st:Stmt) (qual:Str) (ps:List Str) (jv:List Expr) (rest:List Stmt):Prop where
 body:∃jp p0 p1 p2 p3 p4,L2.defBody st=Qv jv jp p0 p1 p2 p3 p4::rest∧(p2.endLine == p3.line)=true
 args:((L2.defArgs st).posonlyargs++(L2.defArgs st).args).head?.map (·.arg)=some "self"
 Am:(L2.defScope st).names.lookup ("self":Str)=some .local
 HY:(L2.defScope st).names.lookup ("super":Str)=some .globalImplicit
 H_:(L2.defScope st).names.lookup ("__class__":Str)=some .free
 B_:∀p∈ps,(L2.defScope st).names.lookup p=some .local
 kind:(L2.defScope st).kind=.function
 gen:(L2.defScope st).isGenerator=false
 co:(L2.defScope st).isCoroutine=false
 Ri:∀x∈(L2.defScope st).names,x.2≠.cell
 first:∀(x:Addr) (us:List Value),us.length=ps.length→(((("self":Str)::ps).zip (Value.ref x::us)).reverse.lookup ("self":Str))=some (.ref x)
 bind:∀(kV doc pm:Value) (an:Option Addr) (cdv ct:Value) (cc:Addr) (us:List Value),us.length=ps.length+1→bindArgs (ksFn "__init__" qual (L2.defArgs st) (L2.defBody st) (L2.defScope st) .none kV doc pm an cdv ct cc) ⟨us,[]⟩=pure ((("self":Str)::ps).zip us)
section
variable {prog:Program} {w:World} {A:Around} {E:Value→Shared→Prop} {R:Result→Shared→Prop} {s:Shared} {K:Frag} {mg:Str→Option Value} {C fI:Addr} {cn qual:Str} {st:Stmt} {ps:List Str} {jv:List Expr} {rest:List Stmt}
theorem yN {h h':Heap} (X:L2.Mod K mg h) (k:∀b o,h.get? b=some o→h'.get? b=some o):L2.Mod K mg h':=by
 obtain⟨a,b,⟨mb,c,d⟩,f⟩:=X
 exact⟨a.keeps k,b.keeps k,⟨mb,c.keeps k,d⟩,f.keeps k⟩
theorem Vh {env:Env} {o:Expr} {jp p2 p3:Pos} {nm:Str} (hpos:(p2.endLine == p3.line)=true) :
  eval (.Call (.Attribute o nm p2) [.JoinedStr jv jp] [] p3) env=(do
   let ov ← attributeBase o nm env (eval o env)
   standAt p2.atName
   let (f,first) ← holding [ov] (getMethod ov nm (do return (← importBound o env).getD true))
   callWith p3 f first (backTo p3 (starEach [.JoinedStr jv jp] env)) []):=by
 show (do
   let ov ← attributeBase o nm env (eval o env)
   standAt p2.atName
   methodCall o nm p2 p3 env ov 1 (backTo p3 (starEach [.JoinedStr jv jp] env)) [])=_
 have e1:∀ov,methodCall o nm p2 p3 env ov 1 (backTo p3 (starEach [.JoinedStr jv jp] env)) []=(do
   let (f,first) ← holding [ov] (getMethod ov nm (do return (← importBound o env).getD true))
   callWith p3 f first (backTo p3 (starEach [.JoinedStr jv jp] env)) []):=fun ov=>by
  have e2:methodCallPos true o env p2 p3=pure p3:=by
   unfold methodCallPos
   rw[hpos]
   rfl
  show (do
   let (f,first) ← holding [ov] (getMethod ov nm (do return (← importBound o env).getD true))
   let callPos ← methodCallPos true o env p2 p3
   callWith callPos f first (backTo p3 (starEach [.JoinedStr jv jp] env)) [])=_
  rw[e2]
  rfl
 simp only[e1]
theorem UG (T:zK prog K mg C fI cn qual st ps jv rest) (S:vW st qual ps jv rest) {x t0:Addr} {us:List Value} (X:L2.Mod K mg s.heap) (hx:s.heap.get? x=some (excO C t0)) (hnx:K.lookup x=none)
  (hroom:A.depth<recursionLimit) (hus:us.length=ps.length)
  (hev:∀(jp:Pos) (L:Addr) (cda cc:Addr) (s1:Shared) (Q:Value→Shared→Prop) (E1:Value→Shared→Prop),(∀b o,s.heap.get? b=some o→s1.heap.get? b=some o)→s1.heap.Ns L (fun y=>(((("self":Str)::ps).zip (.ref x::us)).reverse.lookup y))→
   (∀y tk tks,Q (.str y tk) {s1 with toks:=tks})→wpAny (model prog w) (A.deeper (ksEnv qual (L2.defScope st) L fI (.ref cda) cc)) (eval (.JoinedStr jv jp) (ksEnv qual (L2.defScope st) L fI (.ref cda) cc)) Q E1 s1)
  (h:∀(L:Addr) (cda cc:Addr) (h2:Heap) (t1:Addr) (tks:Nat),s.heap.objs.size≤L→(∀b o,b≠x→s.heap.get? b=some o→h2.get? b=some o)→h2.get? x=some (excO C t1)→h2.Ns L (fun y=>(((("self":Str)::ps).zip (.ref x::us)).reverse.lookup y))→
   wpAny (model prog w) (A.deeper (ksEnv qual (L2.defScope st) L fI (.ref cda) cc)) (execs rest (ksEnv qual (L2.defScope st) L fI (.ref cda) cc)) (fun f s'=>R (.ok (.ret (match f with|.ret v=>v|_=>.none))) s') (fun _ _=>False) {s with heap:=h2,toks:=tks}) :
  codeAny (model prog w) A (.call (.ref fI) ⟨.ref x::us,[]⟩) R s:=by
 obtain⟨oc,od,kV,doc,pm,an,cda,ct,cc,osl,ccl,cdd,vs,ccs,file,tf,cl,cld,csl,ho,hcd,hcode,hvs,hfile,hcell⟩:=T.lk
 obtain⟨nm,q,N,bs,bm,sn,sub,ab,col,dd,k0,k1,k2,k3,k5,hC,hbm⟩:=T.cls
 obtain⟨jp,p0,p1,p2,p3,p4,hB,hpos⟩:=S.body
 refine ks_codeAny_call_defAt (fd:=ksFn "__init__" qual (L2.defArgs st) (L2.defBody st) (L2.defScope st) .none kV doc pm an (.ref cda) ct cc) (body:=L2.defBody st) (binds:=(("self":Str)::ps).zip (.ref x::us)) hroom (X.kin _ _ ho) rfl X.nolimit (codeRec_of X.kin hcd) rfl
  (BindsTo.of_eq (S.bind kV doc pm an (.ref cda) ct cc (.ref x::us) (by simp[hus]))) S.Ri (fun y hy=>?_) (fun h₁ hns hk₁=>?_) S.co S.gen S.kind
 ·have hm:=List.of_mem_zip hy
  rcases List.mem_cons.mp hm.1 with e1|e1
  ·rw[e1];exact S.Am
  ·exact S.B_ _ e1
 ·have X1:L2.Mod K mg h₁:=yN X hk₁
  have hx1:=hk₁ _ _ hx
  have hself:(((("self":Str)::ps).zip (Value.ref x::us)).reverse.lookup ("self":Str))=some (.ref x):=S.first x us hus
  obtain⟨ar,har,aaS⟩:∃ar,((L2.defArgs st).posonlyargs++(L2.defArgs st).args).head?=some ar∧ar.arg="self":=by
   have:=S.args
   cases z:((L2.defArgs st).posonlyargs++(L2.defArgs st).args).head? with
   | none=>rw[z] at this;cases this
   | some ar=>rw[z] at this;exact⟨ar,rfl,Option.some.inj this⟩
  obtain⟨mb,hmb,aaT⟩:=X1.blt
  have hcl:clsIn K C=some {name:=nm,bases:=bs,mro:=.ref C::bm,ns:=N,qualname:=q,hasDict:=true,slotNames:=sn,subclasses:=sub,abstract:=ab,collection:=col,hasDel:=false}:=by unfold clsIn;rw[hC]<;>rfl
  have I1:InstAt h₁ x (excO C t0) C none:=⟨hx1,rfl,rfl,trivial⟩
  show wpAt _ _ _ (execs (L2.defBody st) (ksEnv qual (L2.defScope st) s.heap.objs.size fI (.ref cda) cc)) _ _ _
  have goal:∀bd:List Stmt,bd=Qv jv jp p0 p1 p2 p3 p4::rest→wpAt (model prog w) (A.deeper (ksEnv qual (L2.defScope st) s.heap.objs.size fI (.ref cda) cc)) (.func (L2.defBody st) (ksEnv qual (L2.defScope st) s.heap.objs.size fI (.ref cda) cc)) (execs bd (ksEnv qual (L2.defScope st) s.heap.objs.size fI (.ref cda) cc)) (fun f s'=>R (.ok (.ret (match f with|.ret v=>v|_=>.none))) s')
    (fun _ _=>False) {s with heap:=h₁,toks:=s.toks+((("self":Str)::ps).zip (Value.ref x::us)).length}:=fun bd hbd=>?_
  ·exact ks_wpAt_mono (goal _ hB) (fun _ _ z=>z) (fun _ _ z=>z.elim)
  subst hbd
  refine ks_wpAt_execs_cons (ks_wpAt_Expr_any (ks_wpAt_MethodCall ?_ (Vh hpos)) (by unfold interactive;rw[show (ksEnv qual (L2.defScope st) s.heap.objs.size fI (.ref cda) cc).scope.kind=.function from S.kind];rfl))
  refine ks_wpAt_super_base (env:=ksEnv qual (L2.defScope st) s.heap.objs.size fI (.ref cda) cc) S.HY S.H_ (by decide) rfl (X1.kin _ _ ho) rfl har rfl (X1.kin _ _ hcode) rfl hvs hfile T.top ?_
  refine ks_loadName_global S.kind S.HY (loadGlobal_builtin (env:=ksEnv qual (L2.defScope st) s.heap.objs.size fI (.ref cda) cc) X1.glob T.mgS hmb ((aaT _ (by trivial)).trans (by first|rfl|decide +kernel)) ⟨rfl,?_⟩)
  refine wpAny_loadName_free S.kind S.H_ rfl ⟨_,X1.kin _ _ hcell,rfl⟩ ?_
  rw[aaS]
  refine wpAny_loadName_local S.kind S.Am hns hself ?_
  refine ks_wpAny_isType_cls (X1.kin _ _ hC) rfl ⟨rfl,?_⟩
  refine ks_wpAny_call_super (X1.kin _ _ hC) rfl hx1 rfl (fun c e=>by cases e) (looks_mroIn X1.kin T.Ji) (fun h₂ e2 k2'=>?_)
  have X2:L2.Mod K mg h₂:=yN X1 k2'
  have hx2:=k2' _ _ hx1
  have I2:InstAt h₂ x (excO C t0) C none:=⟨hx2,rfl,rfl,trivial⟩
  have hm:=T.sup
  unfold ks_superIn at hm
  rw[hcl] at hm
  refine kxs_getMethod kxs_ValueError e2 (looks_opaque X2.kin T.lY) (l₀:=.ref C::bm) ?_ rfl X2.kin hm (I2.type.andThen (looks_subIn X2.kin T.Jh)) (ks_ne X2.kin I2 hcl) (by decide) ?_
  ·exact fun A Q E s k q=>wpAny_bind ((looks_clsIn X2.kin hcl) A _ E s k (wpAny_pure q))
  have Rj:h₂.Ns s.heap.objs.size (fun y=>(((("self":Str)::ps).zip (.ref x::us)).reverse.lookup y)):=hns.keeps k2'
  have k3:∀b o,h₂.get? b=some o→(h₂.push (kxs_mw "ValueError.__init__" x)).get? b=some o:=fun b o e=>Heap.get?_push_of_some _ e
  have hu:(h₂.push (kxs_mw "ValueError.__init__" x)).get? h₂.objs.size=some (kxs_mw "ValueError.__init__" x):=Heap.get?_push_size h₂ rfl
  refine kxs_callWith (i:="ValueError.__init__") (x:=x) rfl ?_
  refine evalArgs_plain ?_
  refine spliced_cons (hev jp _ cda cc _ _ _ (fun b o e=>k3 _ _ (k2' _ _ (hk₁ _ _ e))) (Rj.keeps k3) fun y tk tks=>spliced_nil ⟨hu,?_⟩)
  show wpAny (model prog w) _ (call (.ref h₂.objs.size) [.str y tk]) _ _ _
  refine wpAny_call (codeAny_of_tree ?_)
  show wpAny _ _ (callAny (.ref h₂.objs.size) ⟨[.str y tk],[]⟩) _ _ _
  simp only[callAny]
  refine wpAny_bind (wpAny_load hu ?_)
  simp only[kxs_mw,show (Value.type "method-wrapper" == Value.type "method" || Value.type "method-wrapper" == Value.type "builtin_function_or_method" || Value.type "method-wrapper" == Value.type "method-wrapper")=true by decide,if_true]
  refine KFB.if_so (by decide) ?_
  have FB:=F.excBase_ValueError
  refine wpAny_bind (check_bound_init FB.toExcCallFacts (k3 _ _ (X2.kin _ _ hC)) (k3 _ _ hx2) rfl ?_)
  refine wpAny_bind (wpAny_pure (wpAny_pure ?_))
  refine⟨plainId_quiet FB.init.plain _,codeAny_builtin FB.initEntry ?_⟩
  refine exc_init_tree (cls:=.ref C) (t0:=t0) (dv:=none) (c2:=.none) (c3:=.none) (b4:=.bool false) (k3 _ _ hx2) (by rw[sizeLine_eq];exact(by decide:1≤16777216)) fun h4 k4 e4 t4=>?_
  have xL:s.heap.objs.size≠x:=Nat.ne_of_gt (Heap.lt_size hx)
  obtain⟨oL,es,ep,hL,r⟩:=Rj.keeps k3
  exact wpAt_of_wpAny (h s.heap.objs.size cda cc h4 _ _ (Nat.le_refl _) (fun b o hb e=>k4 _ _ hb (k3 _ _ (k2' _ _ (hk₁ _ _ e)))) e4 ⟨oL,es,ep,k4 _ _ xL hL,r⟩)
structure Made (h h':Heap) (e C d:Addr) (m:Str→Option Value):Prop where
 keep:∀b o,h.get? b=some o→h'.get? b=some o
 new:h.objs.size≤e
 obj:∃oe vs,h'.get? e=some oe∧oe.cls=.ref C∧oe.dict=some d∧oe.data=.fields vs∧vs[1]?=some .none∧vs[2]?=some .none∧4<vs.size
 Qw:h.objs.size≤d
 dne:d≠e
 ns:h'.Ns1 d m
def qL (prog:Program) (w:World) (A:Around) (h:Heap) (u:Value):Prop:=∀(env:Env) (s1:Shared) (Q E1:Value→Shared→Prop),(∀b o,h.get? b=some o→s1.heap.get? b=some o)→
 (∀(y:Str) (tk:Tok) (tks:Nat),y.length≤1000000→Q (.str y tk) {s1 with toks:=tks})→wpAny (model prog w) (A.deeper env) (pyReprObj u) Q E1 s1
theorem V8 {A:Around} {h:Heap} {x:Str} {t:Tok} (hx:(reprText x).length≤1000000):qL prog w A h (.str x t):=fun env s1 Q E1 _ q=>by
 exact pyReprObj_str (q _ _ _ hx) (Nat.le_trans hx (by rw[sizeLine_eq];decide))
theorem V9 {A:Around} {h:Heap} {x:Int} {t:Tok} (hx:x.natAbs.log2<1920) (hz:(Str.ofString (toString x)).length≤1000000):qL prog w A h (.int x t):=fun env s1 Q E1 _ q=>by
 exact pyReprObj_int hx (q _ _ _ hz)
theorem qL.keeps {A:Around} {h h':Heap} {u:Value} (r:qL prog w A h u) (k:∀b o,h.get? b=some o→h'.get? b=some o):qL prog w A h' u:=fun env s1 Q E1 k1 q=>r env s1 Q E1 (fun b o e=>k1 _ _ (k _ _ e)) q
theorem Vi {p pre:Str} {cst:Nat} {j1 j2 j3 q1 q2 q3 q4:Pos} (T:zK prog K mg C fI cn qual st [p] [.Constant (.str pre) cst j1,.FormattedValue (.Name p j2) 114 none j3] [.Assign [.Attribute (.Name "self" q1) p q2] (.Name p q3) q4])
  (S:vW st qual [p] [.Constant (.str pre) cst j1,.FormattedValue (.Name p j2) 114 none j3] [.Assign [.Attribute (.Name "self" q1) p q2] (.Name p q3) q4]) (hp:(p == ("self":Str))=false) (hpd:(p == ("__debug__":Str))=false) (hno:findIn K (.ref C) p=some none)
  (hpre:pre.length≤100) {v:Value} (X:L2.Mod K mg s.heap) (hroom:A.depth+1<recursionLimit) (hrep:qL prog w (A.under (.builtin "type.__call__" ⟨[.ref C,v],[]⟩)) s.heap v)
  (hq:∀h' tk e d,Made s.heap h' e C d (fun y=>if y=p then some v else none)→R (.ok (.ret (.ref e))) {s with heap:=h',toks:=tk}) :
  codeAny (model prog w) A (.call (.ref C) ⟨[v],[]⟩) R s:=by
 obtain⟨nm,q,N,bs,bm,sn,sub,ab,col,dd,k0,k1,k2,k3,k5,hC,hbm⟩:=T.cls
 have hcl:clsIn K C=some {name:=nm,bases:=bs,mro:=.ref C::bm,ns:=N,qualname:=q,hasDict:=true,slotNames:=sn,subclasses:=sub,abstract:=ab,collection:=col,hasDel:=false}:=by unfold clsIn;rw[hC]<;>rfl
 obtain⟨hp0,g,dr,tk,os⟩:=s
 have k:∀b o,hp0.get? b=some o→((hp0.push (kdv_tup [v])).push (excO C hp0.objs.size)).get? b=some o:=fun b o e=>Heap.get?_push_of_some _ (Heap.get?_push_of_some _ e)
 have hget:((hp0.push (kdv_tup [v])).push (excO C hp0.objs.size)).get? (hp0.objs.size+1)=some (excO C hp0.objs.size):=by heap_get
 have hnx:K.lookup (hp0.objs.size+1)=none:=by
  cases e:K.lookup (hp0.objs.size+1) with
  | none=>rfl
  | some o=>
   have z:hp0.get? (hp0.objs.size+1)=some o:=X.kin _ _ e
   exact absurd (Nat.lt_of_succ_lt (Heap.lt_size z)) (Nat.lt_irrefl _)
 have hsz1:[v].length≤sizeLine:=by rw[sizeLine_eq];exact(by decide:1≤16777216)
 have ZF:(((("self":Str)::[p]).zip [Value.ref (hp0.objs.size+1),v]).reverse.lookup ("self":Str))=some (.ref (hp0.objs.size+1)):=S.first _ [v] rfl
 have lp:(((("self":Str)::[p]).zip [Value.ref (hp0.objs.size+1),v]).reverse.lookup p)=some v:=by
  show (List.lookup p [(p,v),(("self":Str),Value.ref (hp0.objs.size+1))])=some v
  simp[List.lookup]
 refine call_own F.excBase_ValueError (fun X=>refsVE_contains X bm hbm) (X.kin _ _ hC) (looks_findIn X.kin T.iC) (fun self=>bind_fn X.kin self T.tC) hsz1 ?_
 refine UG (s:=⟨(hp0.push (kdv_tup [v])).push (excO C hp0.objs.size),g,dr,tk,os⟩) T S (yN X k) hget hnx hroom rfl (fun jp L cda cc s1 Q E1 k1 n1 q1=>?_) fun L cda cc h2 t1 tks hL k2 e2 n2=>?_
 ·
  refine wpAny_JoinedStr ?_
  show wpAny _ _ (eval (.Constant (.str pre) cst j1) _) _ _ _
  refine wpAny_Constant_str ⟨pre,_,rfl,?_,?_⟩
  ·show (Str.empty++pre).length≤sizeLine
   have:(Str.empty++pre).length=pre.length:=by rw[Str.length_append];show 0+pre.length=_;omega
   rw[this,sizeLine_eq];omega
  show wpAny _ _ (eval (.FormattedValue (.Name p j2) 114 none j3) _) _ _ _
  refine wpAny_FormattedValue_repr (wpAny_Name (wpAny_loadName_local S.kind (S.B_ p (by simp)) n1 lp ?_) hpd)
  refine hrep _ _ _ _ (fun b o e=>k1 _ _ (k _ _ e)) fun y tk tks hy=>?_
  have hys:y.length≤sizeLine:=by rw[sizeLine_eq];omega
  have fin:∀(s3:Shared) (z:Tok),(∃tks,s3={s1 with toks:=tks})→∃(y':Str) (t:Tok),Value.str y z=.str y' t∧((Str.empty++pre)++y').length≤sizeLine∧Joins (model prog w) ((A.under (.builtin "type.__call__" ⟨[.ref C,v],[]⟩)).deeper (ksEnv qual (L2.defScope st) L fI (.ref cda) cc)) E1 [] ((Str.empty++pre)++y') (fun out s₁=>out.length≤sizeLine∧Q (.str out s₁.toks) {s₁ with toks:=s₁.toks+1}) s3:=fun s3 z hs=>by
   obtain⟨abG,rfl⟩:=hs
   have hl:((Str.empty++pre)++y).length≤sizeLine:=by
    rw[Str.length_append,Str.length_append,sizeLine_eq]
    show 0+pre.length+y.length≤_
    omega
   exact⟨y,_,rfl,hl,hl,q1 _ _ _⟩
  exact wpAny_formatField_str (fin _ _ ⟨_,rfl⟩) (fin _ _ ⟨_,rfl⟩) hys
 ·
  have hk:(L2.defScope st).kind=.function:=S.kind
  have X2:K.In h2:=fun a o e=>k2 a o (fun z=>by rw[z,hnx] at e;cases e) (k a o (X.kin a o e))
  refine wpAny_execs_cons (plainObj_wpAny_Assign_Attribute ?_)
  refine wpAny_Name (wpAny_loadName_local S.kind (S.B_ p (by simp)) n2 lp ?_) hpd
  refine wpAny_Name (wpAny_loadName_local S.kind S.Am n2 ZF ?_) (by decide)
  refine set_plain X2 (ox:=excO C t1) (od:=none) ⟨e2,rfl,rfl,trivial⟩ T.sa ?_
  refine exc_osa X2 e2 hcl (show refsVE (.ref C::bm)=true from hbm) rfl hno (fun h₃ tk₃ dx k₃ dn dne hx₃ hn₃=>?_)
  refine wpAny_execs_nil ?_
  have aaU:hp0.objs.size+1+1≤L:=by
   have q:=hL
   first
    | (simpa only[Heap.size_push] using q)
    | exact q
  have hLlt:L<h2.objs.size:=n2.lt
  have old:∀b o,hp0.get? b=some o→h₃.get? b=some o:=fun b o e=>k₃ b o (Nat.ne_of_lt (Nat.lt_succ_of_lt (Heap.lt_size e))) (k2 b o (Nat.ne_of_lt (Nat.lt_succ_of_lt (Heap.lt_size e))) (k b o e))
  exact⟨rfl,hq h₃ tk₃ (hp0.objs.size+1) dx ⟨old,Nat.le_succ _,⟨_,_,hx₃,rfl,rfl,rfl,rfl,rfl,(by decide:4<6)⟩,Nat.le_trans (Nat.le_trans (Nat.le_trans (Nat.le_succ _) (Nat.le_succ _)) (Nat.le_trans aaU (Nat.le_of_lt hLlt))) dn,dne,hn₃⟩⟩
end
def Ib:L2.V→Prop
 | .str x=>(reprText x).length≤1000000
 | .int i=>i.natAbs.log2<1920
 | _=>False
theorem Xv {prog:Program} {w:World} {A:Around} {h:Heap} {v:L2.V} {u:Value} (h1:Ib v) (r:L2.RelV v u):qL prog w A h u:=by
 cases v with
 | str x=>obtain⟨t,rfl⟩:=r;exact V8 h1
 | int i=>
  obtain⟨t,rfl⟩:=r
  have e:=int_text_length_le (k:=1920) (by decide) (show i.natAbs.log2<1920 from h1)
  exact V9 h1 (by rw[ofString_length];omega)
 | non=>exact h1.elim
 | bl b=>exact h1.elim
 | byt b=>exact h1.elim
 | flt b=>exact h1.elim
 | ref b=>exact h1.elim
 | ty b=>exact h1.elim
def fX (P:Program) (K:Frag) (mg:Str→Option Value) (cn p:Str) (C:Addr):Prop:=∃(fI:Addr) (qual:Str) (st:Stmt) (pre:Str) (cst:Nat) (j1 j2 j3 q1 q2 q3 q4:Pos),
 zK P K mg C fI cn qual st [p] [.Constant (.str pre) cst j1,.FormattedValue (.Name p j2) 114 none j3] [.Assign [.Attribute (.Name "self" q1) p q2] (.Name p q3) q4]∧
 vW st qual [p] [.Constant (.str pre) cst j1,.FormattedValue (.Name p j2) 114 none j3] [.Assign [.Attribute (.Name "self" q1) p q2] (.Name p q3) q4]∧
 (p == ("self":Str))=false∧(p == ("__debug__":Str))=false∧findIn K (.ref C) p=some none∧pre.length≤100
theorem fX.xf {P:Program} {K:Frag} {mg:Str→Option Value} {cn p:Str} {C:Addr} (T:fX P K mg cn p C):L2.XfC K C:=by
 obtain⟨fI,qual,st,pre,cst,j1,j2,j3,q1,q2,q3,q4,T,S,h1,h2,h3,h4⟩:=T
 exact⟨T.ga,T.gg,T.exC,T.hdC⟩
theorem fX.no {P:Program} {K:Frag} {mg:Str→Option Value} {cn p:Str} {C:Addr} (T:fX P K mg cn p C):findIn K (.ref C) p=some none:=by
 obtain⟨fI,qual,st,pre,cst,j1,j2,j3,q1,q2,q3,q4,T,S,h1,h2,h3,h4⟩:=T
 exact h3
theorem fX.g {P:Program} {K:Frag} {mg:Str→Option Value} {cn p:Str} {C:Addr} (T:fX P K mg cn p C):mg cn=some (.ref C):=by
 obtain⟨fI,qual,st,pre,cst,j1,j2,j3,q1,q2,q3,q4,T,S,h1,h2,h3,h4⟩:=T
 exact T.gC
end eG
end PySem
namespace DL
open PySem L2 PyProof.Rows
def Qx (C:Addr) (p:Str) (ta:TA):L2.St→Hp→XK→Prop:=fun σ H Q=>ta σ H fun vs H1=>∃v,vs=[v]∧eG.Ib v∧∀d,H1 d=none→Q (.ref C) (some d) (upd H1 d (.xd [(p,v)]))
section
variable {X:Cx} {C:Addr} {cn p:Str} {a:Expr} {ta:TA} {pp pos pos2:Pos} {k:Nat} {W:WX}
theorem Vj {v:V} {u:Value} (r:RelV v u) (f:Str):RelO (List.lookup f [(p,v)]) (if f=p then some u else none):=by
 by_cases q:f=p
 ·rw[if_pos q,q]
  show RelO (List.lookup p [(p,v)]) (some u)
  simp only[List.lookup,beq_self_eq_true]
  exact r
 ·have z:(f == p)=false:=by simpa using q
  rw[if_neg q]
  simp only[List.lookup,z]
  exact True.intro
theorem Xw (T:eG.fX X.prog X.K X.mg cn p C) (hr:Room k X.A) (hk:2≤k) (ha:PA X [a] ta) (hg:Gl X cn:=by rfl) (hdb:(cn == ("__debug__":Str))=false:=by decide)
  (hs1:starEach (a::[]) X.env=(false,eval a X.env)::starEach [] X.env:=by rfl) (hs2:(backTo pos (starEach [] X.env)).any (·.1)=false:=by rfl):PMk X (.Call (.Name cn pp) [a] [] pos) (Qx C p ta):=by
 intro pins s σ H Q I h
 obtain⟨fI,qual,st,pre,cst,j1,j2,j3,q1,q2,q3,q4,T,S,h1,h2,h3,h4⟩:=T
 refine wpAny_Call_Name_kw (ld_glob I hg T.gC ?_ hdb)
 refine PySem.W.callWith_K (h₀:=X.base) I.ok.mod.kin T.kC (thn (ha.run pos pins s σ H _ I h) fun us s1 hh=>?_) hs1 hs2
 obtain⟨vs,H1,I1,r1,v,rfl,hv,kk⟩:=hh
 refine⟨I1.kIn,?_⟩
 obtain⟨u,rfl,ru⟩:∃u,us=[u]∧RelV v u:=by
  cases r1 with
  | cons a b=>cases b;exact⟨_,rfl,a⟩
 show wpAny _ _ (call (.ref C) [u]) _ _ _
 have M1:Mod X.K X.mg s1.heap:=eG.yN I1.mod I1.bk
 obtain⟨hp,g,dr,tk,os⟩:=s1
 refine wpAny_call (eG.Vi T S h1 h2 h3 h4 M1 (by have:=hr.dp;omega) (eG.Xv hv ru) fun h' tk' e d M=>?_)
 show MkP X pins σ Q (.ref e) ⟨h',g,dr,tk',os⟩
 obtain⟨oe,fv,o1,o2,o3,o4,o5,o6⟩:=M.obj
 obtain⟨G,g1,g2⟩:=restrict h' fun b=>decide (b≠e)
 have gk:∀b,b≠e→G.get? b=h'.get? b:=fun b hb=>g1 b (decide_eq_true hb)
 have ge:G.get? e=none:=g2 e (by simp)
 have ZG:∀b o,hp.get? b=some o→G.get? b=some o:=fun b o q=>(gk b (Nat.ne_of_lt (Nat.lt_of_lt_of_le (Heap.lt_size q) M.new))).trans (M.keep b o q)
 have ob:ObjOk X.prog X.w (upd H1 d (.xd [(p,v)])) G d (.xd [(p,v)]):=⟨_,M.ns.at (fun o q=>(gk d M.dne).trans q),fun f=>Vj ru f⟩
 have J:Inv X pins σ (upd H1 d (.xd [(p,v)])) ⟨G,g,dr,tk',os⟩:=I1.laid (t':=tk') ZG M.Qw ob
 refine⟨e,oe,fv,⟨G,g,dr,tk',os⟩,_,.ref C,some d,rfl,J,fun b o q=>?_,ge,o1,⟨o2,o3⟩,o4,o5,?_,rfl,I1.bare,raises_own T.exC T.tyC,kk d (I1.hok.fresh M.Qw)⟩
 ·by_cases hb:b=e
  ·rw[show G.get? b=none by rw[hb];exact ge] at q;cases q
  ·exact(gk b hb).symm.trans q
 ·rw[upd_ne (Ne.symm M.dne)];exact I1.hok.fresh M.new
def Qy (C:Addr) (p:Str) (W:WX) (ta:TA):TS:=fun _ σ H=>Qx C p ta σ H fun cls d H'=>W cls d σ H'
theorem pW (hc:X.calm=true) (T:eG.fX X.prog X.K X.mg cn p C) (hr:Room k X.A) (hk:2≤k) (tk:Takes X W) {te:TE} (ha:PE X a te) (hg:Gl X cn:=by rfl) (hdb:(cn == ("__debug__":Str))=false:=by decide)
  (hs1:starEach (a::[]) X.env=(false,eval a X.env)::starEach [] X.env:=by rfl) (hs2:(backTo pos (starEach [] X.env)).any (·.1)=false:=by rfl):PS X (.Raise (some (.Call (.Name cn pp) [a] [] pos)) none pos2) (Qy C p W (tCons te tNil)):=
 ps_raise hc tk (Xw T hr hk (pa_cons ha pa_nil hs1) hg hdb hs1 hs2)
end
structure mZ where
 c:Value
 nm:Option Nat
 ts:Addr→Value→Option Addr→TS
def O7 (i:Nat) (T:Ends):Ends:={nx:=fun σ H=>T.nx (σ.set i none) H,rt:=T.rt,bk:=fun σ H=>T.bk (σ.set i none) H,ct:=fun σ H=>T.ct (σ.set i none) H}
def wM (K:PySem.W.Frag) (Wo:WX) (T:Ends):List mZ→WX
 | []=>Wo
 | c::r=>fun cls d σ H=>∃b,PySem.W.exmOne K cls c.c=some b∧(b=true→∀a,H a=none→match c.nm with|none=>c.ts a cls d T σ H|some i=>c.ts a cls d (O7 i T) (σ.set i (some (.ref a))) H)∧(b=false→wM K Wo T r cls d σ H)
def Qz (K:PySem.W.Frag) (Wo:WX) (l:List mZ) (tb:WX→TS):TS:=fun T σ H=>tb (wM K Wo T l) T σ H
inductive rM (X:Cx):List ExceptHandler→List mZ→Prop
 | nil:rM X [] []
 | only {x:Str} {c:Value} {ts:Addr→Value→Option Addr→TS} {b:Stmt} {su:List Stmt} {np ph:Pos} {hs:List ExceptHandler} {l:List mZ} (hn:Names X x c)
   (hk:∀(a:Addr) (oe:Obj) (cls:Value) (d:Option Addr) (pn:List (Addr×Obj)),Zc cls d oe→(∃vs,oe.data=.fields vs)→PSs (X.suite a ((a,oe)::pn)) (b::su) (ts a cls d)) (r:rM X hs l) :
   rM X (.ExceptHandler (some (.Name x np)) none (b::su) ph::hs) (⟨c,none,ts⟩::l)
 | as {x n:Str} {i:Nat} {c:Value} {ts:Addr→Value→Option Addr→TS} {b:Stmt} {su:List Stmt} {np ph:Pos} {hs:List ExceptHandler} {l:List mZ} (hn:Names X x c) (hi:X.N[i]?=some n) (hl:X.env.kindOf n=some .local)
   (hk:∀(a:Addr) (oe:Obj) (cls:Value) (d:Option Addr) (pn:List (Addr×Obj)),Zc cls d oe→(∃vs,oe.data=.fields vs)→PSs (X.suite a ((a,oe)::pn)) (b::su) (ts a cls d)) (r:rM X hs l) :
   rM X (.ExceptHandler (some (.Name x np)) (some n) (b::su) ph::hs) (⟨c,some i,ts⟩::l)
section
variable {X:Cx} {body:List Stmt} {h0:ExceptHandler} {hs:List ExceptHandler} {l:List mZ} {pos:Pos} {tb:WX→TS} {Wo:WX}
theorem Mg (e1:X.stack=X.env::X.outer) (e2:X.env.frame=some X.env.locals) (hN:X.N.Nodup) (tk:Takes X Wo)
  (hb:∀(W:WX) (pn:List (Addr×Obj)) (xe:Value→Shared→Prop),Takes (X.tr pn xe) W→PassesOwn (model X.prog X.w) X.A X.env xe→PSs (X.tr pn xe) body (tb W))
  (hh:rM X (h0::hs) l):PS X (.Try body (h0::hs) [] [] pos) (Qz X.K Wo l tb):=by
 refine⟨fun pins s σ H T I q=>?_⟩
 have ok:=I.ok
 have fr:X.A.frames=some (X.env::X.outer):=by rw[ok.frames,e1]
 refine wpAny_Try_except ?_
 refine wpAny_mono ((hb (wM X.K Wo T l) (X.pn++pins) (fun e s1=>wpAny (model X.prog X.w) X.A (noteFrame e X.env) (fun _ s2=>wpAny (model X.prog X.w) X.A (setFlight e none) (fun _ s3=>wpAny (model X.prog X.w) X.A (handleBy e X.env (h0::hs)) (SP X pins T) X.xe s3) X.xe s2) X.xe s1)
  (fun u s' xx=>?_) PassesOwn.looking).run [] s σ H T (I.toTry _) q) (fun f s1 hsp=>?_) (fun _ _ he=>he)
 ·obtain⟨a,B,sI,pins',σ',H',cls,d,rfl,J',nb,up,sky,na,os,ag,wl⟩:=xx
  have J:Inv X pins σ' H' sI:=J'.ofTry ok
  rw[e1] at sky
  show wpAny (model X.prog X.w) X.A (noteFrame (.ref a) X.env) _ _ _
  refine Sky.land Zc.steady fr e2 sky fun h3 fl3 up3=>?_
  have J3:Inv X pins σ' H' {s' with heap:=h3}:=J.landed nb fl3.1 (up.trans up3) os ag
  obtain⟨oe3,vs3,he3,hz3,hd3⟩:=fl3.there
  have nfr:a∉frs (X.env::X.outer):=fun hm=>by
   obtain⟨_,o',e',hnf⟩:=fl3.2.2.1.mem hm
   rw[he3] at e';cases e'
   exact hnf _ hd3
  have nL:a≠X.env.locals:=fun z=>nfr (List.mem_filterMap.mpr ⟨X.env,List.mem_cons_self,by rw[e2,z]⟩)
  have nF:a∉X.fs:=fun hm=>by
   obtain⟨e,he,q⟩:=List.mem_filterMap.mp hm
   exact nfr (List.mem_filterMap.mpr ⟨e,List.mem_cons_of_mem _ he,q⟩)
  have S3:=J3.suite he3 hd3 na nL nF
  have LT:PySem.W.Looks (model X.prog X.w) h3 (typeOf (.ref a)) cls:=fun A Q E s k q=>wpAny_typeOf_ref (k _ _ he3) (by rw[hz3.1];exact q)
  have ask:∀{x:Str} {c:Value} {np:Pos} {Q E:Value→Shared→Prop},Names X x c→Q c {s' with heap:=h3}→wpAny (model X.prog X.w) (X.A.mark (some (.ref a))) (eval (.Name x np) X.env) (fun v s=>Q v s) (fun v s=>E v s) {s' with heap:=h3}:=fun {x c np Q E} hc q=>by
   obtain⟨hg,hdbg,hm|⟨hm,hv,hnn⟩⟩:=hc
   ·exact ld_glob (X:=X.suite a ((a,oe3)::(X.pn++pins))) S3 hg hm q hdbg
   ·exact ld_blt (X:=X.suite a ((a,oe3)::(X.pn++pins))) S3 hg hm hv q hnn hdbg
  have go:∀{hs':List ExceptHandler} {l':List mZ},rM X hs' l'→wM X.K Wo T l' cls d σ' H'→wpAny (model X.prog X.w) X.A (handleBy (.ref a) X.env hs') (SP X pins T) X.xe {s' with heap:=h3}:=by
   intro hs' l' hk
   induction hk with
   | nil=>
    intro w
    refine wpAny_handleBy_nil ?_
    obtain⟨_,_,_,oe,vs,R,oR,tt,he,hz,hd,h1,hr⟩:=id fl3
    unfold PySem.passOn
    refine wpAny_bind (wpAny_field he hd h1 ?_)
    rw[if_neg (show ¬((Value.ref R == Value.none)=true) from by simp)]
    have fin:wpAny (model X.prog X.w) X.A (setFlight (.ref a) X.env.frame) (fun _ s4=>wpAny (model X.prog X.w) X.A (throw (.ref a):Sem Flow) (SP X pins T) X.xe s4) X.xe {s' with heap:=h3}:=by
     rw[e2]
     refine HandSPX.setFlight_upZ fl3 fun h4 hh4 up4=>wpAny_throw (tk _ _ ?_)
     exact⟨a,B,sI,pins,σ',H',cls,d,rfl,J,nb,(up.trans up3).trans up4,.inr (.inr (by rw[e1];exact hh4)),na,os,ag,w⟩
    first
     | exact wpAny_bind (wpAny_pure (wpAny_bind fin))
     | exact wpAny_bind fin
   | @only x c ts b su np ph hs2 l2 hn hk r ih=>
    rintro⟨b1,hb1,yes,no⟩
    refine wpAny_handleBy_cons (codeAny_handlers_test ?_) (by intro q;cases q)
    refine ask hn ((PySem.W.exm_one (M:=model X.prog X.w) J3.kIn LT hb1).here ?_)
    cases b1 with
    | true=>
     refine codeAny_handlers_suite ?_
     refine HandSPX.lands_againZ fl3 fun h4 fl4 up4=>?_
     have J4:Inv X pins σ' H' {s' with heap:=h4}:=J.landed nb fl4.1 ((up.trans up3).trans up4) os ag
     obtain⟨oe4,vs4,he4,hz4,hd4⟩:=fl4.there
     refine wpAny_mono ((hk a oe4 cls d (X.pn++pins) hz4 ⟨_,hd4⟩).run [] _ _ H' _ (J4.suite he4 hd4 na nL nF) (yes rfl a na)) (fun f s6 hsp=>?_) (fun _ _ z=>False.elim z)
     cases f with
     | next=>obtain⟨σ6,H6,S6,q6⟩:=hsp;exact⟨_,_,S6.unsuite ok,q6⟩
     | brk=>obtain⟨σ6,H6,S6,q6⟩:=hsp;exact⟨_,_,S6.unsuite ok,q6⟩
     | cont=>obtain⟨σ6,H6,S6,q6⟩:=hsp;exact⟨_,_,S6.unsuite ok,q6⟩
     | ret u=>obtain⟨v6,σ6,H6,S6,r6,q6⟩:=hsp;exact⟨_,_,_,S6.unsuite ok,r6,q6⟩
    | false=>
     show wpAny _ X.A (handleBy (.ref a) X.env hs2) _ _ _
     exact ih (no rfl)
   | @as x n i c ts b su np ph hs2 l2 hn hi hl hk r ih=>
    rintro⟨b1,hb1,yes,no⟩
    refine wpAny_handleBy_cons (codeAny_handlers_test ?_) (by intro q;cases q)
    refine ask hn ((PySem.W.exm_one (M:=model X.prog X.w) J3.kIn LT hb1).here ?_)
    cases b1 with
    | true=>
     refine codeAny_handlers_suite_as ?_
     refine HandSPX.lands_againZ fl3 fun h4 fl4 up4=>?_
     have J4:Inv X pins σ' H' {s' with heap:=h4}:=J.landed nb fl4.1 ((up.trans up3).trans up4) os ag
     obtain⟨oe4,vs4,he4,hz4,hd4⟩:=fl4.there
     refine store_ok (X:=X.suite a ((a,oe4)::(X.pn++pins))) (v:=.ref a) (J4.suite he4 hd4 na nL nF) hN hi (.inl hl) rfl (fun s5 S5=>?_) (.inr hl)
     refine wpAny_mono ((hk a oe4 cls d (X.pn++pins) hz4 ⟨_,hd4⟩).run [] s5 _ H' _ S5 (yes rfl a na)) (fun f s6 hsp=>?_) (fun _ _ z=>False.elim z)
     have fin:∀{σ6:L2.St} {H6:Hp} {Q:Shared→Prop},Inv (X.suite a ((a,oe4)::(X.pn++pins))) [] σ6 H6 s6→(∀s7,Inv X pins (σ6.set i none) H6 s7→Q s7)→
       wpAny (model X.prog X.w) X.A (do bindName X.env n .none;unbindBehindTheSuite X.env n ph) (fun _ s7=>Q s7) X.xe s6:=fun {σ6 H6 Q} S6 hq=>gone_ok (S6.unsuite ok) hN hi hl hq
     cases f with
     | next=>obtain⟨σ6,H6,S6,q6⟩:=hsp;exact fin S6 fun s7 J7=>⟨_,_,J7,q6⟩
     | brk=>obtain⟨σ6,H6,S6,q6⟩:=hsp;exact fin S6 fun s7 J7=>⟨_,_,J7,q6⟩
     | cont=>obtain⟨σ6,H6,S6,q6⟩:=hsp;exact fin S6 fun s7 J7=>⟨_,_,J7,q6⟩
     | ret u=>obtain⟨v6,σ6,H6,S6,r6,q6⟩:=hsp;exact fin S6 fun s7 J7=>⟨_,_,_,J7,r6,q6⟩
    | false=>
     show wpAny _ X.A (handleBy (.ref a) X.env hs2) _ _ _
     exact ih (no rfl)
  exact go hh wl
 ·cases f with
  | next=>obtain⟨σ',H',J',q⟩:=hsp;exact wpAny_execs_nil ⟨σ',H',J'.ofTry ok,q⟩
  | brk=>obtain⟨σ',H',J',q⟩:=hsp;exact⟨σ',H',J'.ofTry ok,q⟩
  | cont=>obtain⟨σ',H',J',q⟩:=hsp;exact⟨σ',H',J'.ofTry ok,q⟩
  | ret u=>obtain⟨v,σ',H',J',r,q⟩:=hsp;exact⟨v,σ',H',J'.ofTry ok,r,q⟩
end
section
variable {K:PySem.W.Frag} {d:D}
def dU:D→Prop
 | .str x=>(reprText x).length≤1000000
 | .int i=>i.natAbs.log2<1920
 | _=>False
theorem dU.v {Hb:Hp} {v:V} (h:dU d) (r:Rp K Hb d v):eG.Ib v:=by
 cases d<;>first|exact h.elim|(cases (Rp.dD r);exact h)|(cases (Rp.jA r);exact h)
end
instance abD (k:Key) (ks:List Key):Decidable (k∈ks):=@List.instDecidableMemOfLawfulBEq Key instBEqOfDecidableEq inferInstance k ks
def kD:Key→D
 | .inl i=>.int i
 | .inr s=>.str s
def dget (ks:List Key) (ds:List D) (k:Key):Option D:=((ks.zip ds).find? fun kv=>decide (kv.1=k)).map (·.2)
def jN (ks:List Key) (k:Key):List Key:=if k∈ks then ks else ks++[k]
def ug (ks:List Key) (ds:List D) (k:Key) (d:D):List D:=if k∈ks then List.zipWith (fun k' d'=>if k'=k then d else d') ks ds else ds++[d]
section
variable {K:PySem.W.Frag}
theorem oO {Hb:Hp} {k:Key} {v:V} (r:Rp K Hb (kD k) v):v=kV k:=by cases k<;>exact r
theorem O8 {Hb:Hp} (k:Key):Rp K Hb (kD k) (kV k):=by cases k<;>(unfold kD kV Rp;rfl)
theorem Mh {Hb:Hp} {k:Key}:∀{ks:List Key} {ds:List D} {vs:List V},ks.length=vs.length→ak K Hb ds vs→(∀d,dget ks ds k=some d→∃v,valV (ks.zip vs) k=some v∧Rp K Hb d v)∧(dget ks ds k).isSome=(valV (ks.zip vs) k).isSome
 | [],ds,vs,_,_=>⟨fun d h=>by simp[dget] at h,rfl⟩
 | q::ks,[],vs,hl,r=>by rw[ak.mX r] at hl;simp at hl
 | q::ks,e::ds,vs,hl,r=>by
  obtain⟨v,t,rfl,rv,rt⟩:=ak.mU r
  have ih:=Mh (k:=k) (ks:=ks) (by simpa using hl) rt
  unfold dget valV at ih ⊢
  simp only[List.zip_cons_cons,List.find?_cons]
  by_cases z:q=k
  ·simp only[z,decide_true,Option.map_some,Option.isSome_some,and_true]
   intro d h
   cases h
   exact⟨v,rfl,rv⟩
  ·simp only[z,decide_false]
   exact ih
theorem Vk {k:Key} {v:V} {ks:List Key} {vs:List V} (hl:ks.length=vs.length):putK (ks.zip vs) k v=(jN ks k).zip (if k∈ks then List.zipWith (fun k' v'=>if k'=k then v else v') ks vs else vs++[v]):=by
 unfold putK jN
 have e:((ks.zip vs).any fun kv=>decide (kv.1=k))=decide (k∈ks):=by
  induction ks generalizing vs with
  | nil=>simp
  | cons q ks ih=>
   cases vs with
   | nil=>simp at hl
   | cons w vs=>
    have:=ih (vs:=vs) (by simpa using hl)
    simp only[List.zip_cons_cons,List.any_cons,this,List.mem_cons,Bool.decide_or]
    by_cases z:q=k
    ·simp[z]
    ·have z':¬k=q:=fun e=>z e.symm
     simp[z,z']
 rw[e]
 by_cases m:k∈ks
 ·simp only[m,decide_true,if_true]
  clear e m
  induction ks generalizing vs with
  | nil=>simp
  | cons q ks ih=>
   cases vs with
   | nil=>simp at hl
   | cons w vs=>
    simp only[List.zip_cons_cons,List.map_cons,List.zipWith_cons_cons]
    rw[ih (by simpa using hl)]
    by_cases z:q=k<;>simp[z]
 ·simp only[m,decide_false,if_false,Bool.false_eq_true]
  rw[List.zip_append hl];rfl
end
def uh (a:Addr) (od:Obj) (u:HO) (W:WX):WX:=fun cls d σ H=>H a=some (.frz od u)∧W cls d σ (upd H a u)
def O9 (a:Addr) (od:Obj) (u:HO) (T:Ends):Ends:=⟨fun σ' H'=>H' a=some (.frz od u)∧T.nx σ' (upd H' a u),fun v H'=>H' a=some (.frz od u)∧T.rt v (upd H' a u),fun σ' H'=>H' a=some (.frz od u)∧T.bk σ' (upd H' a u),fun σ' H'=>H' a=some (.frz od u)∧T.ct σ' (upd H' a u)⟩
def Ny (W:WX) (t:WX→TS):TS:=fun T σ H=>t W T σ H∨∃a u,H a=some u∧Mut (some u)∧∀od,t (uh a od u W) (O9 a od u T) σ (upd H a (.frz od u))
theorem K9 {X:Cx} {W:WX} {st:Stmt} {t:WX→TS} (tk:Takes X W) (h:∀W',Takes X W'→PS X st (t W')):PS X st (Ny W t):=⟨fun pins s σ H T I q=>q.elim ((h W tk).run pins s σ H T I) fun⟨a,u,ha,mu,q⟩=>by
 obtain⟨od,I1⟩:=I.lock ha mu
 have tk':Takes X (uh a od u W):=fun e s' xx=>by
  obtain⟨a',B,sI,pins',σ',H',cls,d,e1,J,nb,up,sky,na,os,ag,e2,w⟩:=xx
  refine tk e s' ⟨a',B,sI,pins',σ',upd H' a u,cls,d,e1,J.unlock e2 (I.nofrz ha mu),nb,up,sky,?_,os,ag,w⟩
  have ne:a'≠a:=fun z=>by rw[z,e2] at na;cases na
  rw[upd_ne ne];exact na
 refine thn ((h _ tk').run pins s σ _ _ I1 (q od)) fun f s1 z=>?_
 cases f with
 | next=>obtain⟨σ',H',I2,e,z⟩:=z;exact⟨σ',_,I2.unlock e (I.nofrz ha mu),z⟩
 | brk=>obtain⟨σ',H',I2,e,z⟩:=z;exact⟨σ',_,I2.unlock e (I.nofrz ha mu),z⟩
 | cont=>obtain⟨σ',H',I2,e,z⟩:=z;exact⟨σ',_,I2.unlock e (I.nofrz ha mu),z⟩
 | ret v=>obtain⟨x,σ',H',I2,r,e,z⟩:=z;exact⟨x,σ',_,I2.unlock e (I.nofrz ha mu),r,z⟩⟩
section
variable {K:PySem.W.Frag} {d:D}
theorem KC {Hb:Hp} {f:Str}:∀{fs:List Str} {ds:List D} {vs:List V},fs.length=vs.length→ak K Hb ds vs→(fs.zip ds).lookup f=some d→∃v,(fs.zip vs).lookup f=some v∧Rp K Hb d v
 | [],ds,vs,_,_,h=>by simp at h
 | q::fs,[],vs,hl,r,h=>by simp at h
 | q::fs,e::ds,vs,hl,r,h=>by
  obtain⟨w,t,rfl,rv,rt⟩:=ak.mU r
  simp only[List.zip_cons_cons,List.lookup] at h ⊢
  cases z:(f == q) with
  | true=>rw[z] at h;cases h;exact⟨w,rfl,rv⟩
  | false=>rw[z] at h;exact KC (by simpa using hl) rt h
def QC (C:Addr) (sp:Sp) (dv:List V) (E:L2.St→XK) (t:TA):TE:=fun σ H Q=>t σ H fun vs H1=>∀x dx,H1 x=none→H1 dx=none→dx≠x→sp (.ref x::(vs++dv)) (upd (upd H1 dx (.own x)) x (.ins C dx [])) (fun v H2=>v=.non∧Q (.ref x) H2) (E σ)
def QD (C:Addr) (sp:Sp) (E:L2.St→XK) (to:TE) (t:TA):TE:=fun σ H Q=>to σ H fun x H1=>∃a,x=.ref a∧t σ H1 fun vs H2=>(∃dx fs,H2 a=some (.ins C dx fs))∧sp (x::vs) H2 Q (E σ)
structure Mak (P:Program) (w:World) (K:PySem.W.Frag) (mg:Str→Option Value) (base:Heap) (x:Str) (C:Addr) (ps:List Str) (ds:List Value) (k:Nat) (sp:Sp):Prop where
 ex:∃f fd,FnOk P w K mg base (L2.CX P w) k f fd ps sp∧Mk K C f∧mg x=some (.ref C)∧Binds K fd ps ds
structure aaV (P:Program) (w:World) (K:PySem.W.Frag) (mg:Str→Option Value) (base:Heap) (C:Addr) (m:Str) (ps:List Str) (k:Nat) (sp:Sp):Prop where
 ex:∃f fd,FnOk P w K mg base (L2.CX P w) k f fd ps sp∧Cls K C∧Meth K C m f∧Binds K fd ps []
end
section
variable {X:Cx} {x m:Str} {C:Addr} {ps:List Str} {k j:Nat} {sp:Sp} {W:WX} {e o:Expr} {es:List Expr} {t:TA} {to:TE} {p pos apos:Pos}
theorem Nz {ds:List Value} {dv:List V} (M:Mak X.prog X.w X.K X.mg X.base x C ps ds k sp) (hd:Vals dv ds) (hr:Room j X.A) (hk:k+1≤j) (tk:Takes X W) (ha:PA X (e::es) t) (hg:Gl X x:=by rfl) (hdb:(x == ("__debug__":Str))=false:=by decide)
  (hs1:starEach (e::es) X.env=(false,eval e X.env)::starEach es X.env:=by rfl) (hs2:(backTo pos (starEach es X.env)).any (·.1)=false:=by rfl):PE X (.Call (.Name x p) (e::es) [] pos) (QC C sp dv (WE W) t):=by
 obtain⟨f,fd,F,M,hm,hb⟩:=M.ex
 have hr:=hr.mono hk
 refine⟨fun pins s σ H Q I h=>?_⟩
 refine wpAny_Call_Name_kw (ld_glob I hg hm ?_ hdb)
 refine PySem.W.callWith_K (h₀:=X.base) I.ok.mod.kin M.kp (thn (ha.run pos pins s σ H _ I h) fun us s1 ⟨vs,H1,I1,r,q⟩=>⟨I1.kIn,?_⟩) hs1 hs2
 have hq:=q (s1.heap.objs.size+1) s1.heap.objs.size (I1.hok.fresh (Nat.le_succ _)) (I1.hok.fresh (Nat.le_refl _)) (Nat.ne_of_lt (Nat.lt_succ_self _))
 have I2:=Inv.made (C:=C) I1
 have r2:Vals (V.ref (s1.heap.objs.size+1)::(vs++dv)) (Value.ref (s1.heap.objs.size+1)::(us++ds)):=.cons rfl (r.append hd)
 have hl:(Value.ref (s1.heap.objs.size+1)::us++ds).length=ps.length:=by
  have e:=r2.length
  rw[F.len _ _ _ _ hq] at e
  exact e.symm
 refine wpAny_call (make_map (f:=f) I1.kIn M.makes M.init (beq_iff_eq.mp M.fn) (codeAny_mono (F.run _ X.stack _ _ ⟨Value.ref (s1.heap.objs.size+1)::us,[]⟩ (Value.ref (s1.heap.objs.size+1)::(us++ds)) _ _ (WE W σ) (hr.make C us []) (I2.env0.make C us []) (hb _ (Value.ref (s1.heap.objs.size+1)::us) I2.kIn hl) r2 hq) fun z s' hq'=>?_))
 cases z with
 | error er=>exact passAt tk σ pins _ _ er s' I2 hq'
 | ok fl=>
  cases fl with
  | ret u=>
   obtain⟨v,H',I3,rv,ev,q3⟩:=I2.after hq'
   subst ev
   exact⟨rv,⟨V.ref (s1.heap.objs.size+1),H',I3,rfl,q3⟩⟩
  | next=>exact False.elim hq'
  | brk=>exact False.elim hq'
  | cont=>exact False.elim hq'
end
section
variable {K:PySem.W.Frag} {d x y:D} {ds es:List D}
def Ca:D→Option String
 | .non=>some "NoneType" | .bl _=>some "bool" | .int _=>some "int" | .str _=>some "str" | .lst _=>some "list" | .cM _=>some "list" | .tup _=>some "tuple" | .aM _ _=>some "dict" | _=>none
theorem Xx {Hb H:Hp} {v:V} {n:String} (e:Ex Hb H) (h:Ca d=some n) (r:Rp K Hb d v):TyX K H v (.type n):=by
 cases d<;>simp[Ca] at h<;>subst h
 ·cases (show v=.non from r);exact .base .non
 ·cases (Rp.jU r);exact .base (.bl _)
 ·cases (Rp.jA r);exact .base (.int _)
 ·cases (Rp.dD r);exact .base (.str _)
 ·unfold Rp at r
  obtain⟨a,vs,rfl,s,_⟩:=r
  rcases s with s|⟨o,s⟩
  ·exact .base (.lst (e _ _ s))
  ·exact .base (.frz (e _ _ s))
 ·unfold Rp at r
  obtain⟨a,vs,rfl,s,_⟩:=r
  rcases s with (s|⟨o,s⟩)|⟨o,its,n,h1,h2,_⟩
  ·exact .base (.tup (e _ _ s))
  ·exact .fTuple (e _ _ s)
  ·exact .kTuple h1 h2
 ·unfold Rp at r
  obtain⟨a,rfl,s⟩:=r
  rcases s with (s|⟨o,s⟩)|⟨o,its,n,h1,h2,_⟩
  ·exact .base (.lst (e _ _ s))
  ·exact .base (.frz (e _ _ s))
  ·exact .kList h1 h2
 ·unfold Rp at r
  obtain⟨a,vs,rfl,s,_⟩:=r
  rcases s with s|⟨o,s⟩
  ·exact .base (.dK (e _ _ s))
  ·exact .fDict (e _ _ s)
mutual
def toPy:D→PyData
 | .non=>.none|.bl b=>.bool b|.int i=>.int i|.str x=>.str x
 | .lst xs=>.list (dG xs)|.tup xs=>.tuple (dG xs)
 | .cM _=>.none|.ref _=>.none|.ty _=>.none|.aM _ _=>.none|.dct _ _=>.none|.lg _ _ _=>.none|.ins _ _ _=>.none|.exc _ _ _ _ _=>.none
def dG:List D→List PyData
 | []=>[]
 | d::ds=>toPy d::dG ds
end
mutual
def bA:D→Bool
 | .non=>true|.bl b=>true|.int i=>true|.str x=>PyData.strOk x
 | .lst xs=>fP xs|.tup xs=>fP xs
 | .cM _=>false|.ref _=>false|.ty _=>false|.aM _ _=>false|.dct _ _=>false|.lg _ _ _=>false|.ins _ _ _=>false|.exc _ _ _ _ _=>false
def fP:List D→Bool
 | []=>true
 | d::ds=>bA d&&fP ds
end
mutual
theorem qM {H:Hp}:∀(d:D) (v:V),bA d=true→Rp K H d v→Dp K H v (toPy d)
 | .non,v,_,r=>by cases (show v=.non from r);unfold toPy;exact .non
 | .bl b,v,_,r=>by cases (Rp.jU r);unfold toPy;exact .bl b
 | .int b,v,_,r=>by cases (Rp.jA r);unfold toPy;exact .int b
 | .str b,v,_,r=>by cases (Rp.dD r);unfold toPy;exact .str b
 | .lst xs,v,h,r=>by
  unfold Rp at r;unfold toPy
  obtain⟨a,vs,rfl,s,q⟩:=r
  exact .lst (.inl s) (G5 xs vs (by unfold bA at h;exact h) q)
 | .tup xs,v,h,r=>by
  unfold Rp at r;unfold toPy
  obtain⟨a,vs,rfl,s,q⟩:=r
  exact .tup s (G5 xs vs (by unfold bA at h;exact h) q)
 | .ref _,v,h,r=>by simp[bA] at h
 | .cM _,v,h,r=>by simp[bA] at h
 | .ty _,v,h,r=>by simp[bA] at h
 | .aM _ _,v,h,r=>by simp[bA] at h
 | .dct _ _,v,h,r=>by simp[bA] at h
 | .lg _ _ _,v,h,r=>by simp[bA] at h
 | .ins _ _ _,v,h,r=>by simp[bA] at h
 | .exc _ _ _ _ _,v,h,r=>by simp[bA] at h
theorem G5 {H:Hp}:∀(ds:List D) (vs:List V),fP ds=true→ak K H ds vs→DpAll K H vs (dG ds)
 | [],vs,_,r=>by rw[ak.mX r];unfold dG;exact .nil
 | d::ds,vs,h,r=>by
  obtain⟨v,t,rfl,rv,rt⟩:=ak.mU r
  unfold fP at h
  rw[Bool.and_eq_true] at h
  unfold dG
  exact .cons (qM d v h.1 rv) (G5 ds t h.2 rt)
end
mutual
theorem lay_of:∀d:D,bA d=true→(toPy d).canLay0=true
 | .non,_=>by unfold toPy;rfl
 | .bl _,_=>by unfold toPy;rfl
 | .int _,_=>by unfold toPy;rfl
 | .str x,h=>by unfold bA at h;unfold toPy PyData.canLay0;exact h
 | .lst xs,h=>by unfold bA at h;unfold toPy PyData.canLay0;exact FZ xs h
 | .tup xs,h=>by unfold bA at h;unfold toPy PyData.canLay0;exact FZ xs h
 | .ref _,h=>by simp[bA] at h
 | .cM _,h=>by simp[bA] at h
 | .ty _,h=>by simp[bA] at h
 | .aM _ _,h=>by simp[bA] at h
 | .dct _ _,h=>by simp[bA] at h
 | .lg _ _ _,h=>by simp[bA] at h
 | .ins _ _ _,h=>by simp[bA] at h
 | .exc _ _ _ _ _,h=>by simp[bA] at h
theorem FZ:∀ds:List D,fP ds=true→PyData.canLayAll0 (dG ds)=true
 | [],_=>by unfold dG;rfl
 | d::ds,h=>by
  unfold fP at h
  rw[Bool.and_eq_true] at h
  unfold dG PyData.canLayAll0
  rw[lay_of d h.1,FZ ds h.2];rfl
end
mutual
def dep:D→Nat
 | .lst xs=>m7 xs+1|.tup xs=>m7 xs+1
 | .cM _=>0|.non=>0|.bl _=>0|.int _=>0|.str _=>0|.ref _=>0|.ty _=>0|.aM _ _=>0|.dct _ _=>0|.lg _ _ _=>0|.ins _ _ _=>0|.exc _ _ _ _ _=>0
def m7:List D→Nat
 | []=>0
 | d::ds=>max (dep d) (m7 ds)
end
mutual
theorem NK:∀d:D,(toPy d).depth=dep d
 | .non=>by unfold toPy dep;rfl
 | .bl _=>by unfold toPy dep;rfl
 | .int _=>by unfold toPy dep;rfl
 | .str x=>by unfold toPy dep;rfl
 | .lst xs=>by unfold toPy dep PyData.depth;rw[Ge xs]
 | .tup xs=>by unfold toPy dep PyData.depth;rw[Ge xs]
 | .ref _=>by unfold toPy dep;rfl
 | .cM _=>by unfold toPy dep;rfl
 | .ty _=>by unfold toPy dep;rfl
 | .aM _ _=>by unfold toPy dep;rfl
 | .dct _ _=>by unfold toPy dep;rfl
 | .lg _ _ _=>by unfold toPy dep;rfl
 | .ins _ _ _=>by unfold toPy dep;rfl
 | .exc _ _ _ _ _=>by unfold toPy dep;rfl
theorem Ge:∀ds:List D,PyData.depthAll (dG ds)=m7 ds
 | []=>by unfold dG m7;rfl
 | d::ds=>by unfold dG m7 PyData.depthAll;rw[NK d,Ge ds]
end
theorem pP (h:bA d=true) (hd:dep d≤64):SeqAt.shaped (toPy d)=true:=by
 unfold SeqAt.shaped
 rw[lay_of d h,Bool.true_and,NK]
 exact decide_eq_true hd
def cutD (xs:List D) (lo hi:Option Int):List D:=(xs.drop (HT.sIx xs.length 0 lo)).take (HT.sIx xs.length xs.length hi-HT.sIx xs.length 0 lo)
theorem NP {Hb:Hp} {vs:List V} {lo hi:Option Int} (r:ak K Hb ds vs):ak K Hb (cutD ds lo hi) (cutV vs lo hi):=by
 unfold cutD cutV
 rw[r.len]
 exact(r.drop _).take _
theorem K_ {Hb:Hp}:∀{xs:List Str} {vs:List V},ak K Hb (xs.map D.str) vs→vs=xs.map V.str
 | [],vs,r=>ak.mX r
 | n::ns,vs,r=>by
  obtain⟨v,t,rfl,p,q⟩:=ak.mU (show ak K Hb (.str n::ns.map D.str) vs from r)
  rw[K_ q,Rp.dD p];rfl
end
section
variable {K:PySem.W.Frag} {z:D}
theorem ZJ {x y:D} (hx:bA x=true) (hy:bA y=true) (dx:dep x≤64) (dy:dep y≤64):fK K (rJ K) x y (.bl (PyData.eqv (toPy x) (toPy y))):=fK.inr fun Hb H v u Q e hv hu q=>
 ⟨toPy x,toPy y,qM x v hx (Rp.mono e.rl _ _ hv),qM y u hy (Rp.mono e.rl _ _ hu),pP hx dx,pP hy dy,q _ fun _=>by unfold Rp;rfl⟩
theorem ZK {x y:D} (hx:bA x=true) (hy:bA y=true) (dx:dep x≤64) (dy:dep y≤64):fK K (uU K) x y (.bl (!PyData.eqv (toPy x) (toPy y))):=fK.inr fun Hb H v u Q e hv hu q=>
 ⟨toPy x,toPy y,qM x v hx (Rp.mono e.rl _ _ hv),qM y u hy (Rp.mono e.rl _ _ hu),pP hx dx,pP hy dy,q _ fun _=>by unfold Rp;rfl⟩
theorem Mi {Hb:Hp}:∀{ks:List Key} {vs:List V},ks.length=vs.length→ak K Hb (ks.map kD) ((ks.zip vs).map fun kv=>kV kv.1)
 | [],vs,_=>ak.nil
 | k::ks,[],h=>by simp at h
 | k::ks,v::vs,h=>ak.cons (O8 k) (Mi (by simpa using h))
end
end DL
namespace DL
open PySem L2 TL
def letters:Str:="abcdefghijklmnopqrstuvwxyz"
def lu (i:Int):Nat:=97+(i%26).toNat
theorem yH:letters.cps.toList=(List.range 26).map (97 + ·):=by decide +kernel
theorem Uj {i:Int} (h0:0≤i) (h1:i<26):atI letters.cps.toList i=some (97+i.toNat):=by
 have q:=atI_nat (xs:=letters.cps.toList) (j:=i.toNat) (v:=97+i.toNat) (by
  rw[yH,List.getElem?_map,List.getElem?_eq_getElem (by rw[List.length_range];omega),List.getElem_range];rfl)
 rwa [Int.toNat_of_nonneg h0] at q
theorem Mj (i:Int):lu i∈letters.cps.toList:=by
 rw[yH,List.mem_map]
 exact⟨(i%26).toNat,List.mem_range.mpr (by omega),rfl⟩
def iI (s:Str):Bool:=(decide (1≤(s.length:Int))&&decide ((s.length:Int)≤8))&&s.cps.toList.all fun c=>decide (c∈letters.cps.toList)
def mJ (n:Int):Int:=1+n/2%8
def g8 (n k:Int):Int:=if n%2=1 then 1+(mJ n+k)%8 else mJ n
def tW (n k:Int):List Nat:=(List.range (g8 n k).toNat).map fun(a:Nat)=>lu (n/7+(a:Int))
def mK (n k:Int):Int:=n/16%mJ n%g8 n k
def iH (n k:Int):List Nat:=(tW n k).set (mK n k).toNat (lu (n/128+k))
def nm (n k:Int):Str:=⟨(iH n k).toArray⟩
def fO (n:Int) (many:Nat):List Str:=(List.range many).map fun(k:Nat)=>nm n (k:Int)
theorem Km (n:Int):1≤mJ n∧mJ n≤8:=by unfold mJ;omega
theorem tE (n k:Int):1≤g8 n k∧g8 n k≤8:=by
 have:=Km n
 unfold g8
 split<;>omega
theorem Ko (n k:Int):0≤mK n k∧mK n k<g8 n k:=by
 have h:=tE n k
 exact⟨Int.emod_nonneg _ (by omega),Int.emod_lt_of_pos _ (by omega)⟩
theorem Kr (n k:Int):(tW n k).length=(g8 n k).toNat:=by unfold tW;simp
theorem yI (n k:Int):(iH n k).length=(g8 n k).toNat:=by unfold iH;rw[List.length_set,Kr]
theorem NQ (n k:Int):(nm n k).length=(g8 n k).toNat:=by
 show (iH n k).toArray.size=_
 rw[List.size_toArray,yI]
theorem vX (n k:Int):(nm n k).cps.toList=iH n k:=rfl
theorem Ey {n k:Int} {c:Nat} (h:c∈iH n k):c∈letters.cps.toList:=by
 unfold iH at h
 rcases List.mem_or_eq_of_mem_set h with h|rfl
 ·unfold tW at h
  rw[List.mem_map] at h
  obtain⟨a,_,rfl⟩:=h
  exact Mj _
 ·exact Mj _
theorem ZL (n k:Int):iI (nm n k)=true:=by
 have h:=tE n k
 unfold iI
 rw[NQ,vX,Bool.and_eq_true,Bool.and_eq_true,List.all_eq_true]
 exact⟨⟨decide_eq_true (by omega),decide_eq_true (by omega)⟩,fun c hc=>decide_eq_true (Ey hc)⟩
theorem O_ (n k:Int):(iH n k)[(mK n k).toNat]?=some (lu (n/128+k)):=by
 have h:=Ko n k
 unfold iH
 rw[List.getElem?_set,if_pos rfl,if_pos (by rw[Kr];omega)]
theorem tX {n k j:Int} (hk:0≤k∧k<26) (hj:0≤j∧j<26) (h:nm n k=nm n j):k=j:=by
 have hc:iH n k=iH n j:=by rw[← vX,← vX,h]
 have hl:g8 n k=g8 n j:=by
  have:=congrArg List.length hc
  rw[yI,yI] at this
  have a:=tE n k
  have b:=tE n j
  omega
 have hs:mK n k=mK n j:=by unfold mK;rw[hl]
 have h1:=O_ n k
 rw[hc,hs,O_] at h1
 have h2:=Option.some.inj h1
 unfold lu at h2
 omega
theorem Uk (n:Int) (m:Nat):(fO n m).length=m:=by unfold fO;simp
theorem Ks {n:Int} {m i:Nat} (h:i<m):(fO n m)[i]?=some (nm n i):=by
 unfold fO
 rw[List.getElem?_map,List.getElem?_eq_getElem (by simpa using h),List.getElem_range];rfl
theorem vG {n:Int} {m:Nat} {s:Str} (h:s∈fO n m):∃k:Nat,k<m∧s=nm n k:=by
 unfold fO at h
 rw[List.mem_map] at h
 obtain⟨k,hk,rfl⟩:=h
 exact⟨k,List.mem_range.mp hk,rfl⟩
theorem J9 (n:Int):∀{m:Nat},m≤26→(fO n m).Nodup
 | 0,_=>List.nodup_nil
 | m+1,hm=>by
  have e:fO n (m+1)=fO n m++[nm n (m:Int)]:=by unfold fO;rw[List.range_succ,List.map_append];rfl
  rw[e,List.nodup_append]
  refine⟨J9 n (by omega),by simp,fun a ha b hb=>?_⟩
  obtain⟨k,hk,rfl⟩:=vG ha
  rw[List.mem_singleton.mp hb]
  intro e
  have:=tX (k:=(k:Int)) (j:=(m:Int)) ⟨by omega,by omega⟩ ⟨by omega,by omega⟩ e
  omega
theorem Ub (n:Int) {m k:Nat} (h:k≤m):(fO n m).take k=fO n k:=by
 unfold fO
 rw[← List.map_take,List.take_range,Nat.min_eq_left h]
theorem KD:∀cs:List Nat,joinL [] (cs.map fun c=>[c])=cs
 | []=>rfl
 | [c]=>rfl
 | c::d::r=>by
  show [c]++([]++joinL [] ((d::r).map fun c=>[c]))=_
  rw[KD (d::r)];rfl
theorem Ul (cs:List Nat):Txt.join (Str.ofString "") (cs.map fun c=>(⟨#[c]⟩:Str))=⟨cs.toArray⟩:=by
 have h:tl (Txt.join (Str.ofString "") (cs.map fun c=>(⟨#[c]⟩:Str)))=cs:=by
  rw[join_eq,tl_join,List.map_map]
  have e1:tl (Str.ofString "")=[]:=by decide +kernel
  rw[e1]
  exact KD cs
 generalize Txt.join (Str.ofString "") (cs.map fun c=>(⟨#[c]⟩:Str))=x at h
 obtain⟨a⟩:=x
 have:a.toList=cs:=h
 rw[← this]
end DL
namespace AL
open PySem L2 DL PyProof.Rows
structure XD where
 C:Addr
 fs:List Str
 ds:List D
inductive R where
 | d (x:D)|o (n:Nat)|w (i:Nat)
inductive Ob where
 | lst (ds:List D)|bO (xs:List R)
 | aM (ks:List Key) (ds:List D)|cI (ks:List Key) (xs:List R)
 | dct (ks:List (List Key)) (ds:List D)
 | dn (w:World) (ks:List NestedKey) (xs:List R)
 | ins (C:Addr) (fs:List Str) (xs:List R)
 | cZ (ks:List Key) (ds:List D)|uV (ks:List (List Key)) (ds:List D)
 | uW (w:World) (ks:List NestedKey) (xs:List R)
 | jV (ks:List Key) (xs:List R)
inductive Sv where
 | no|v (r:R)|own (b:Ob)
structure ST where
 s:List Sv
 h:List Ob
abbrev bD (a b:List Addr):Prop:=∃t,b=a++t
theorem bD.refl (a:List Addr):bD a a:=⟨[],by simp⟩
theorem bD.trans {a b c:List Addr} (h:bD a b) (k:bD b c):bD a c:=by
 obtain⟨t,rfl⟩:=h;obtain⟨u,rfl⟩:=k;exact⟨t++u,by simp⟩
theorem bD.get {a b:List Addr} (h:bD a b) {n:Nat} {x:Addr} (e:a[n]?=some x):b[n]?=some x:=by
 obtain⟨t,rfl⟩:=h
 rw[List.getElem?_append_left (List.getElem?_eq_some_iff.mp e).1];exact e
theorem bD.mem {a b:List Addr} (h:bD a b) {x:Addr} (e:x∈a):x∈b:=by
 obtain⟨t,rfl⟩:=h;exact List.mem_append_left _ e
theorem bD.push (a:List Addr) (p:Addr):bD a (a++[p]):=⟨[p],rfl⟩
section
variable (K:PySem.W.Frag)
def RV (ι:List Addr) (Hb:Hp):R→V→Prop
 | .d x,v=>Rp K Hb x v
 | .o n,v=>∃a,ι[n]?=some a∧v=.ref a
 | .w _,_=>False
abbrev bx (ι:List Addr) (Hb:Hp):List R→List V→Prop:=Paired (RV K ι Hb)
def dF (ι:List Addr) (Hb:Hp):Ob→HO→Prop
 | .lst ds,u=>∃vs,u=.lst vs∧ak K Hb ds vs
 | .bO xs,u=>∃vs,u=.lst vs∧bx K ι Hb xs vs
 | .aM ks ds,u=>∃vs,u=.dK (ks.zip vs)∧ks.length=vs.length∧ak K Hb ds vs
 | .cI ks xs,u=>∃vs,u=.dK (ks.zip vs)∧ks.length=vs.length∧bx K ι Hb xs vs
 | .dct ks ds,u=>∃vs,u=.dT (ks.zip vs)∧ks.length=vs.length∧ak K Hb ds vs
 | .dn w ks xs,u=>∃(b:Addr) (vs:List V) (cU:List Addr),u=Je w b (ks.zip (cU.zip vs))∧ks.length=cU.length∧gG K Hb ks (cU.map V.ref)∧ks.length=vs.length∧bx K ι Hb xs vs
 | .uW w ks xs,u=>∃(od:Obj) (b:Addr) (vs:List V) (cU:List Addr),u=.frz od (Je w b (ks.zip (cU.zip vs)))∧ks.length=cU.length∧gG K Hb ks (cU.map V.ref)∧ks.length=vs.length∧bx K ι Hb xs vs
 | .ins C fs xs,u=>∃dx vs,u=.ins C dx (fs.zip vs)∧fs.length=vs.length∧bx K ι Hb xs vs
 | .cZ ks ds,u=>∃od vs,u=.frz od (.dK (ks.zip vs))∧ks.length=vs.length∧ak K Hb ds vs
 | .jV ks xs,u=>∃od vs,u=.frz od (.dK (ks.zip vs))∧ks.length=vs.length∧bx K ι Hb xs vs
 | .uV ks ds,u=>∃od vs,u=.frz od (.dT (ks.zip vs))∧ks.length=vs.length∧ak K Hb ds vs
variable {K}
theorem RV.mono {ι fL:List Addr} {Hb aZ:Hp} (p:bD ι fL) (r:Rl Hb aZ):∀{x:R} {v:V},RV K ι Hb x v→RV K fL aZ x v
 | .d x,v,h=>Rp.mono r x v h
 | .o n,v,⟨a,e,q⟩=>⟨a,p.get e,q⟩
 | .w i,v,h=>h.elim
theorem bx.mono {ι fL:List Addr} {Hb aZ:Hp} (p:bD ι fL) (r:Rl Hb aZ) {xs:List R} {vs:List V} (h:bx K ι Hb xs vs):bx K fL aZ xs vs:=L2.Paired.mapP h fun _ _ q=>q.mono p r
theorem dF.mono {ι fL:List Addr} {Hb aZ:Hp} (p:bD ι fL) (r:Rl Hb aZ):∀{b:Ob} {u:HO},dF K ι Hb b u→dF K fL aZ b u
 | .lst ds,u,⟨vs,e,q⟩=>⟨vs,e,ak.mono r _ _ q⟩
 | .bO xs,u,⟨vs,e,q⟩=>⟨vs,e,bx.mono p r q⟩
 | .aM ks ds,u,⟨vs,e,z,q⟩=>⟨vs,e,z,ak.mono r _ _ q⟩
 | .cI ks xs,u,⟨vs,e,z,q⟩=>⟨vs,e,z,bx.mono p r q⟩
 | .dct ks ds,u,⟨vs,e,z,q⟩=>⟨vs,e,z,ak.mono r _ _ q⟩
 | .dn w ks xs,u,⟨b,vs,cU,e,l,n,z,q⟩=>⟨b,vs,cU,e,l,gG.mono r _ _ n,z,bx.mono p r q⟩
 | .uW w ks xs,u,⟨od,b,vs,cU,e,l,n,z,q⟩=>⟨od,b,vs,cU,e,l,gG.mono r _ _ n,z,bx.mono p r q⟩
 | .ins C fs xs,u,⟨dx,vs,e,z,q⟩=>⟨dx,vs,e,z,bx.mono p r q⟩
 | .cZ ks ds,u,⟨od,vs,e,z,q⟩=>⟨od,vs,e,z,ak.mono r _ _ q⟩
 | .jV ks xs,u,⟨od,vs,e,z,q⟩=>⟨od,vs,e,z,bx.mono p r q⟩
 | .uV ks ds,u,⟨od,vs,e,z,q⟩=>⟨od,vs,e,z,ak.mono r _ _ q⟩
theorem dF.Rm {ι:List Addr} {Hb:Hp}:∀{b:Ob} {fs:List (Str×V)},¬dF K ι Hb b (.xd fs)
 | .lst ds,fs,⟨vs,e,_⟩=>nomatch e
 | .bO xs,fs,⟨vs,e,q⟩=>nomatch e
 | .aM ks ds,fs,⟨vs,e,_⟩=>nomatch e
 | .cI ks xs,fs,⟨vs,e,_⟩=>nomatch e
 | .dct ks ds,fs,⟨vs,e,_⟩=>nomatch e
 | .dn w ks xs,fs,⟨b,vs,cU,e,_⟩=>nomatch e
 | .uW w ks xs,fs,⟨od,b,vs,cU,e,_⟩=>nomatch e
 | .ins C fs' xs,fs,⟨dx,vs,e,_⟩=>nomatch e
 | .cZ ks ds,fs,⟨od,vs,e,_⟩=>nomatch e
 | .jV ks xs,fs,⟨od,vs,e,_⟩=>nomatch e
 | .uV ks ds,fs,⟨od,vs,e,_⟩=>nomatch e
end
def kJ:HO→Bool
 | .frz _ _=>true
 | _=>false
structure Tp where
 p:List Addr→Hp→Prop
 m:∀ι fL Hb aZ,bD ι fL→Rl Hb aZ→p ι Hb→p fL aZ
 l:∀ι fL Hb aZ,bD ι fL→p ι Hb→p fL aZ→p ι aZ
structure Ac where
 H:Hp
 B:Hp
 ι:List Addr
section
variable (K:PySem.W.Frag)
def Rt (σ:L2.St) (ι:List Addr) (Hb:Hp):R→V→Prop
 | .d x,v=>Rp K Hb x v
 | .o n,v=>∃a,ι[n]?=some a∧v=.ref a
 | .w i,v=>σ[i]?=some (some v)
def rt (σ:L2.St) (r:R) (v:V):Tp:=⟨fun ι Hb=>Rt K σ ι Hb r v,fun ι fL Hb aZ p rl h=>by
 cases r with
 | d x=>exact Rp.mono rl x v h
 | o n=>obtain⟨a,e,q⟩:=h;exact⟨a,p.get e,q⟩
 | w i=>exact h,fun ι fL Hb aZ p h h'=>by
 cases r with
 | d x=>exact h'
 | o n=>obtain⟨a,e,q⟩:=h;exact⟨a,e,q⟩
 | w i=>exact h⟩
structure aq (A:Ac) (st:ST) (σ:L2.St) (H:Hp) (ts:List Tp) (Hb:Hp) (ι:List Addr):Prop where
 keep:∀a o,A.H a=some o→(a∉A.ι∨kJ o=true)→H a=some o
 eB:Ex A.B Hb
 bH:Ex Hb H
 ap:∀a,A.B a=none→A.H a≠none→Hb a=none
 pre:bD A.ι ι
 hl:ι.length=st.h.length
 len:σ.length=st.s.length
 val:∀(i:Nat) r,st.s[i]?=some (.v r)→∃v,σ[i]?=some (some v)∧RV K ι Hb r v
 obj:∀(n:Nat) b,st.h[n]?=some b→∃a u,ι[n]?=some a∧H a=some u∧dF K ι Hb b u∧Hb a=none
 own:∀(i:Nat) b,st.s[i]?=some (.own b)→∃a u,σ[i]?=some (some (.ref a))∧H a=some u∧dF K ι Hb b u∧Hb a=none∧a∉ι∧A.H a=none∧kJ u=false
 inj:ι.Nodup
 new:∀a∈ι,a∈A.ι∨∀o,A.H a=some o→kJ o=true
 dsl:∀(i j:Nat) b c a,st.s[i]?=some (.own b)→st.s[j]?=some (.own c)→σ[i]?=some (some (.ref a))→σ[j]?=some (some (.ref a))→i=j
 tmp:∀p∈ts,p.p ι Hb
def Cf (A:Ac) (st:ST) (σ:L2.St) (H:Hp) (ts:List Tp):Prop:=∃Hb ι,aq K A st σ H ts Hb ι
def eU (A:Ac) (st:ST) (σ:L2.St) (H:Hp) (ts:List Tp) (b:Ob) (v:V):Prop:=
 ∃Hb ι a u,aq K A st σ H ts Hb ι∧v=.ref a∧H a=some u∧dF K ι Hb b u∧Hb a=none∧a∉ι∧A.H a=none∧kJ u=false∧∀(i:Nat) c,st.s[i]?=some (.own c)→σ[i]?≠some (some (.ref a))
def XO (A:Ac) (ts:List Tp) (x:XD) (st:ST) (cls:Value) (d:Option Addr) (σ:L2.St) (H:Hp):Prop:=
 ∃Hb ι dd vs,aq K A st σ H ts Hb ι∧cls=.ref x.C∧d=some dd∧H dd=some (.xd (x.fs.zip vs))∧x.fs.length=vs.length∧ak K Hb x.ds vs∧A.H dd=none∧Hb dd=none
end
section
variable {K:PySem.W.Frag} {A:Ac} {st st':ST} {σ:L2.St} {H H' Hb aZ:Hp} {ts ts':List Tp} {ι fL:List Addr}
theorem aq.temps (C:aq K A st σ H ts Hb ι) (ht:∀p∈ts',p.p ι Hb):aq K A st σ H ts' Hb ι:={C with tmp:=ht}
theorem Cf.temps (C:Cf K A st σ H ts) (h:∀p∈ts',p∈ts∨∀ι Hb,p.p ι Hb):Cf K A st σ H ts':=by
 obtain⟨Hb,ι,C⟩:=C
 exact⟨Hb,ι,C.temps fun p hp=>(h p hp).elim (C.tmp p) fun q=>q ι Hb⟩
theorem Cf.drop {p:Tp} (C:Cf K A st σ H (p::ts)):Cf K A st σ H ts:=C.temps fun q hq=>.inl (by simp[hq])
theorem aq.nX (C:aq K A st σ H ts Hb ι) {dd:Addr} {fs:List (Str×V)} (h:H dd=some (.xd fs)):dd∉ι∧∀(i:Nat) c,st.s[i]?=some (.own c)→σ[i]?≠some (some (.ref dd)):=by
 refine⟨fun hm=>?_,fun i c hc e=>?_⟩
 ·obtain⟨n,hn⟩:=List.getElem?_of_mem hm
  have hlt:n<st.h.length:=by rw[← C.hl];exact(List.getElem?_eq_some_iff.mp hn).1
  obtain⟨a,u,h1,h2,h3,_⟩:=C.obj n _ (List.getElem?_eq_getElem hlt)
  rw[hn] at h1;cases h1
  rw[h] at h2;cases h2
  exact dF.Rm h3
 ·obtain⟨a,u,h1,h2,h3,_⟩:=C.own i c hc
  rw[e] at h1;cases h1
  rw[h] at h2;cases h2
  exact dF.Rm h3
theorem aq.grow (C:aq K A st σ H ts Hb ι) (e:Ex H H') (eb:Ex Hb aZ) (bh:Ex aZ H') (fr:∀a,Hb a=none→aZ a≠none→H a=none) (ht:∀p∈ts',p.p ι aZ):aq K A st σ H' ts' aZ ι where
 keep:=fun a o h n=>e a o (C.keep a o h n)
 eB:=C.eB.trans eb
 bH:=bh
 ap:=fun a h1 h2=>Classical.byContradiction fun q=>by
  have h3:=fr a (C.ap a h1 h2) q
  by_cases hm:a∈A.ι
  ·obtain⟨n,hn⟩:=List.getElem?_of_mem hm
   have hn':=C.pre.get hn
   have hlt:n<st.h.length:=by rw[← C.hl];exact(List.getElem?_eq_some_iff.mp hn').1
   obtain⟨b,u,g1,g2,_⟩:=C.obj n _ (List.getElem?_eq_getElem hlt)
   rw[hn'] at g1;cases g1
   rw[h3] at g2;cases g2
  ·cases hA:A.H a with
   | none=>exact h2 hA
   | some o=>have:=C.keep a o hA (.inl hm);rw[h3] at this;cases this
 pre:=C.pre
 hl:=C.hl
 len:=C.len
 val:=fun i r h=>let ⟨v,a,b⟩:=C.val i r h;⟨v,a,b.mono (bD.refl _) eb.rl⟩
 obj:=fun n b h=>by
  obtain⟨a,u,h1,h2,h3,h4⟩:=C.obj n b h
  exact⟨a,u,h1,e _ _ h2,h3.mono (bD.refl _) eb.rl,(by refine Classical.byContradiction fun q=>?_;rw[fr a h4 q] at h2;cases h2)⟩
 own:=fun i b h=>by
  obtain⟨a,u,h1,h2,h3,h4,h5⟩:=C.own i b h
  exact⟨a,u,h1,e _ _ h2,h3.mono (bD.refl _) eb.rl,(by refine Classical.byContradiction fun q=>?_;rw[fr a h4 q] at h2;cases h2),h5⟩
 inj:=C.inj
 new:=C.new
 dsl:=C.dsl
 tmp:=ht
theorem aq.Hj (C:aq K A st σ H ts Hb ι) (e:Ex H H') (eb:Ex Hb aZ) (bh:Ex aZ H') (fr:∀a,Hb a=none→aZ a≠none→H a=none):aq K A st σ H' ts aZ ι:=
 C.grow e eb bh fr fun p hp=>p.m _ _ _ _ (bD.refl _) eb.rl (C.tmp p hp)
theorem aq.fresh (C:aq K A st σ H ts Hb ι) {p:Addr} (hp:H p=none):Hb p=none∧p∉ι∧A.H p=none∧∀(i:Nat) c,st.s[i]?=some (.own c)→σ[i]?≠some (some (.ref p)):=by
 have n1:p∉ι:=fun hm=>by
  obtain⟨n,hn⟩:=List.getElem?_of_mem hm
  have hlt:n<st.h.length:=by rw[← C.hl];exact(List.getElem?_eq_some_iff.mp hn).1
  obtain⟨a,u,h1,h2,_⟩:=C.obj n _ (List.getElem?_eq_getElem hlt)
  rw[hn] at h1;cases h1
  rw[hp] at h2;cases h2
 refine⟨C.bH.none hp,n1,?_,fun i c hc e=>?_⟩
 ·cases hA:A.H p with
  | none=>rfl
  | some o=>have:=C.keep p o hA (.inl fun z=>n1 (C.pre.mem z));rw[hp] at this;cases this
 ·obtain⟨a,u,h1,h2,_⟩:=C.own i c hc
  rw[e] at h1;cases h1
  rw[hp] at h2;cases h2
theorem aq.laid (C:aq K A st σ H ts Hb ι) {p:Addr} {o:HO} (hp:H p=none) (ht:∀q∈ts',q.p ι (upd Hb p o)):aq K A st σ (upd H p o) ts' (upd Hb p o) ι:=by
 have hb:Hb p=none:=C.bH.none hp
 refine C.grow (Ex.new hp) (Ex.new hb) (fun a u e=>?_) (fun a h1 h2=>?_) ht
 ·by_cases q:a=p
  ·subst q;rw[upd_same] at e ⊢;exact e
  ·rw[upd_ne q] at e ⊢;exact C.bH a u e
 ·by_cases q:a=p
  ·subst q;exact hp
  ·rw[upd_ne q] at h2;exact absurd h1 h2
theorem aq.made (C:aq K A st σ H ts Hb ι) {p:Addr} {o:HO} {b:Ob} (hp:H p=none) (hb:dF K ι Hb b o) (hz:kJ o=false:=by rfl):eU K A st σ (upd H p o) ts b (.ref p):=by
 obtain⟨f1,f2,f3,f4⟩:=C.fresh hp
 exact⟨Hb,ι,p,o,C.Hj (Ex.new hp) (Ex.refl _) (C.bH.trans (Ex.new hp)) (fun a h1 h2=>absurd h1 h2),rfl,upd_same,hb,f1,f2,f3,hz,f4⟩
theorem Fg:∀{l:List Addr} (hN:l.Nodup) {i j:Nat} {x:Addr} (a:l[i]?=some x) (b:l[j]?=some x),i=j:=fun {l} hN {i j x} a b=>by
 obtain⟨h1,e1⟩:=List.getElem?_eq_some_iff.mp a
 obtain⟨h2,e2⟩:=List.getElem?_eq_some_iff.mp b
 exact(List.getElem_inj hN).mp (e1.trans e2.symm)
theorem get_set {α:Type} {l:List α} {i j:Nat} {x y:α} (h:(l.set i x)[j]?=some y):(j=i∧y=x∧i<l.length)∨(j≠i∧l[j]?=some y):=by
 rw[List.getElem?_set] at h
 by_cases q:i=j
 ·subst q
  rw[if_pos rfl] at h
  by_cases z:i<l.length
  ·rw[if_pos z] at h;cases h;exact .inl ⟨rfl,rfl,z⟩
  ·rw[if_neg z] at h;cases h
 ·rw[if_neg q] at h;exact .inr ⟨fun z=>q z.symm,h⟩
theorem aq.uH (C:aq K A st σ H ts Hb ι) {v:V} {r:R} (hr:RV K ι Hb r v) (i:Nat):aq K A ⟨st.s.set i (.v r),st.h⟩ (σ.set i (some v)) H ts Hb ι:=
 {C with
  len:=by simp[C.len]
  val:=fun j r' h=>by
   rcases get_set h with ⟨rfl,e,z⟩|⟨n,h⟩
   ·cases e
    exact⟨v,by rw[List.getElem?_set,if_pos rfl,if_pos (by rw[C.len];exact z)],hr⟩
   ·obtain⟨u,a,b⟩:=C.val j r' h
    exact⟨u,by rw[List.getElem?_set,if_neg (fun z=>n z.symm)];exact a,b⟩
  own:=fun j b h=>by
   rcases get_set h with ⟨rfl,e,z⟩|⟨n,h⟩
   ·cases e
   ·obtain⟨a,u,h1,h2⟩:=C.own j b h
    exact⟨a,u,by rw[List.getElem?_set,if_neg (fun z=>n z.symm)];exact h1,h2⟩
  dsl:=fun j k b c a h1 h2 e1 e2=>by
   rcases get_set h1 with ⟨rfl,e,z⟩|⟨n1,h1⟩
   ·cases e
   ·rcases get_set h2 with ⟨rfl,e,z⟩|⟨n2,h2⟩
    ·cases e
    ·rw[List.getElem?_set,if_neg (fun z=>n1 z.symm)] at e1
     rw[List.getElem?_set,if_neg (fun z=>n2 z.symm)] at e2
     exact C.dsl j k b c a h1 h2 e1 e2}
theorem aq.Cd (C:aq K A st σ H ts Hb ι) (i:Nat) (o:Option V):aq K A ⟨st.s.set i .no,st.h⟩ (σ.set i o) H ts Hb ι:=
 {C with
  len:=by simp[C.len]
  val:=fun j r' h=>by
   rcases get_set h with ⟨rfl,e,z⟩|⟨n,h⟩
   ·cases e
   ·obtain⟨u,a,b⟩:=C.val j r' h
    exact⟨u,by rw[List.getElem?_set,if_neg (fun z=>n z.symm)];exact a,b⟩
  own:=fun j b h=>by
   rcases get_set h with ⟨rfl,e,z⟩|⟨n,h⟩
   ·cases e
   ·obtain⟨a,u,h1,h2⟩:=C.own j b h
    exact⟨a,u,by rw[List.getElem?_set,if_neg (fun z=>n z.symm)];exact h1,h2⟩
  dsl:=fun j k b c a h1 h2 e1 e2=>by
   rcases get_set h1 with ⟨rfl,e,z⟩|⟨n1,h1⟩
   ·cases e
   ·rcases get_set h2 with ⟨rfl,e,z⟩|⟨n2,h2⟩
    ·cases e
    ·rw[List.getElem?_set,if_neg (fun z=>n1 z.symm)] at e1
     rw[List.getElem?_set,if_neg (fun z=>n2 z.symm)] at e2
     exact C.dsl j k b c a h1 h2 e1 e2}
theorem eU.lO {b:Ob} {v:V} (C:eU K A st σ H ts b v) (i:Nat):Cf K A ⟨st.s.set i (.own b),st.h⟩ (σ.set i (some v)) H ts:=by
 obtain⟨Hb,ι,a,u,C,rfl,hu,hb,h1,h2,h3,hz,h4⟩:=C
 refine⟨Hb,ι,{C with len:=by simp[C.len],val:=fun j r' h=>?_,own:=fun j b' h=>?_,dsl:=fun j k b c x g1 g2 e1 e2=>?_}⟩
 ·rcases get_set h with ⟨rfl,e,z⟩|⟨n,h⟩
  ·cases e
  ·obtain⟨u,a,b⟩:=C.val j r' h
   exact⟨u,by rw[List.getElem?_set,if_neg (fun z=>n z.symm)];exact a,b⟩
 ·rcases get_set h with ⟨rfl,e,z⟩|⟨n,h⟩
  ·cases e
   exact⟨a,u,by rw[List.getElem?_set,if_pos rfl,if_pos (by rw[C.len];exact z)],hu,hb,h1,h2,h3,hz⟩
  ·obtain⟨a,u,h1,h2⟩:=C.own j b' h
   exact⟨a,u,by rw[List.getElem?_set,if_neg (fun z=>n z.symm)];exact h1,h2⟩
 ·rcases get_set g1 with ⟨rfl,e,z⟩|⟨n1,g1⟩
  ·rcases get_set g2 with ⟨rfl,e',z'⟩|⟨n2,g2⟩
   ·rfl
   ·rw[List.getElem?_set,if_pos rfl,if_pos (by rw[C.len];exact z)] at e1
    rw[List.getElem?_set,if_neg (fun z=>n2 z.symm)] at e2
    cases e1
    exact absurd e2 (h4 k c g2)
  ·rcases get_set g2 with ⟨rfl,e',z'⟩|⟨n2,g2⟩
   ·rw[List.getElem?_set,if_pos rfl,if_pos (by rw[C.len];exact z')] at e2
    rw[List.getElem?_set,if_neg (fun z=>n1 z.symm)] at e1
    cases e2
    exact absurd e1 (h4 j b (by assumption))
   ·rw[List.getElem?_set,if_neg (fun z=>n1 z.symm)] at e1
    rw[List.getElem?_set,if_neg (fun z=>n2 z.symm)] at e2
    exact C.dsl j k b c x g1 g2 e1 e2
theorem eU.Ie {b:Ob} {v:V} (C:eU K A st σ H ts b v):Cf K A ⟨st.s,st.h++[b]⟩ σ H (rt K σ (.o st.h.length) v::ts):=by
 obtain⟨Hb,ι,a,u,C,rfl,hu,hb,h1,h2,h3,hz,h4⟩:=C
 have pp:=bD.push ι a
 have nin:∀{x:Addr},x∉ι→x≠a→x∉ι++[a]:=fun n1 n2 hm=>(List.mem_append.mp hm).elim n1 fun z=>n2 (by simpa using z)
 refine⟨Hb,ι++[a],{C with pre:=C.pre.trans pp,hl:=by simp[C.hl],val:=fun i r h=>?_,obj:=fun n c h=>?_,own:=fun i c h=>?_,inj:=?_,new:=fun x hx=>?_,tmp:=fun p hp=>?_}⟩
 ·obtain⟨v,e,q⟩:=C.val i r h
  exact⟨v,e,q.mono pp (Rl.refl _)⟩
 ·by_cases hn:n<st.h.length
  ·rw[List.getElem?_append_left hn] at h
   obtain⟨x,w,e1,e2,e3,e4⟩:=C.obj n c h
   exact⟨x,w,pp.get e1,e2,e3.mono pp (Rl.refl _),e4⟩
  ·have e:n=st.h.length:=by
    have:=(List.getElem?_eq_some_iff.mp h).1
    simp at this;omega
   subst e
   rw[List.getElem?_append_right (Nat.le_refl _),Nat.sub_self] at h
   cases (show some b=some c from h)
   exact⟨a,u,by rw[← C.hl,List.getElem?_append_right (Nat.le_refl _),Nat.sub_self];rfl,hu,hb.mono pp (Rl.refl _),h1⟩
 ·obtain⟨x,w,e1,e2,e3,e4,e5,e6⟩:=C.own i c h
  exact⟨x,w,e1,e2,e3.mono pp (Rl.refl _),e4,nin e5 (fun z=>h4 i c h (by rw[e1,z])),e6⟩
 ·rw[List.nodup_append]
  exact⟨C.inj,by simp,fun x hx y hy=>by rw[List.mem_singleton] at hy;rintro rfl;exact h2 (hy▸hx)⟩
 ·rcases List.mem_append.mp hx with hx|hx
  ·exact C.new x hx
  ·rw[List.mem_singleton] at hx;rw[hx];exact .inr fun o e=>by rw[h3] at e;cases e
 ·rcases List.mem_cons.mp hp with rfl|hp
  ·exact⟨a,by rw[← C.hl,List.getElem?_append_right (Nat.le_refl _),Nat.sub_self];rfl,rfl⟩
  ·exact p.m _ _ _ _ pp (Rl.refl _) (C.tmp p hp)
theorem eU.frz {b:Ob} {v:V} {d:D} (C:eU K A st σ H ts b v) (hf:∀ι Hb a u,dF K ι Hb b u→Hb a=none→Rp K (upd Hb a u) d (.ref a)):Cf K A st σ H (rt K σ (.d d) v::ts):=by
 obtain⟨Hb,ι,a,u,C,rfl,hu,hb,h1,h2,h3,hz,h4⟩:=C
 have eb:Ex Hb (upd Hb a u):=Ex.new h1
 refine⟨upd Hb a u,ι,{C with eB:=C.eB.trans eb,bH:=fun x o e=>?_,ap:=fun x e1 e2=>?_,val:=fun i r h=>?_,obj:=fun n c h=>?_,own:=fun i c h=>?_,tmp:=fun p hp=>?_}⟩
 ·by_cases z:x=a
  ·subst z;rw[upd_same] at e;cases e;exact hu
  ·rw[upd_ne z] at e;exact C.bH x o e
 ·have z:x≠a:=fun z=>e2 (by rw[z];exact h3)
  rw[upd_ne z];exact C.ap x e1 e2
 ·obtain⟨v,e,q⟩:=C.val i r h
  exact⟨v,e,q.mono (bD.refl _) eb.rl⟩
 ·obtain⟨x,w,e1,e2,e3,e4⟩:=C.obj n c h
  have z:x≠a:=fun z=>h2 (by rw[← z];exact List.mem_of_getElem? e1)
  exact⟨x,w,e1,e2,e3.mono (bD.refl _) eb.rl,by rw[upd_ne z];exact e4⟩
 ·obtain⟨x,w,e1,e2,e3,e4,e5⟩:=C.own i c h
  have z:x≠a:=fun z=>h4 i c h (by rw[e1,z])
  exact⟨x,w,e1,e2,e3.mono (bD.refl _) eb.rl,by rw[upd_ne z];exact e4,e5⟩
 ·rcases List.mem_cons.mp hp with rfl|hp
  ·exact hf ι Hb a u hb h1
  ·exact p.m _ _ _ _ (bD.refl _) eb.rl (C.tmp p hp)
theorem aq.take (C:aq K A st σ H ts Hb ι) {i:Nat} {b:Ob} (h:st.s[i]?=some (.own b)):∃v,σ[i]?=some (some v)∧eU K A ⟨st.s.set i .no,st.h⟩ σ H ts b v:=by
 obtain⟨a,u,e1,e2,e3,e4,e5,e6,e7⟩:=C.own i b h
 refine⟨.ref a,e1,Hb,ι,a,u,{C with len:=by simp[C.len],val:=fun j r h'=>?_,own:=fun j c h'=>?_,dsl:=fun j k c1 c2 x h1 h2=>?_},rfl,e2,e3,e4,e5,e6,e7,fun j c h'=>?_⟩
 ·rcases get_set h' with ⟨rfl,e,z⟩|⟨n,h'⟩
  ·cases e
  ·exact C.val j r h'
 ·rcases get_set h' with ⟨rfl,e,z⟩|⟨n,h'⟩
  ·cases e
  ·exact C.own j c h'
 ·rcases get_set h1 with ⟨rfl,e,z⟩|⟨n1,h1⟩
  ·cases e
  ·rcases get_set h2 with ⟨rfl,e,z⟩|⟨n2,h2⟩
   ·cases e
   ·exact C.dsl j k c1 c2 x h1 h2
 ·rcases get_set h' with ⟨rfl,e,z⟩|⟨n,h'⟩
  ·cases e
  ·exact fun z=>n (C.dsl j i c b a h' h z e1)
theorem aq.aaW (C:aq K A st σ H ts Hb ι) {i:Nat} {b b':Ob} {a:Addr} {u':HO} (h:st.s[i]?=some (.own b)) (ea:σ[i]?=some (some (.ref a))) (hb:dF K ι Hb b' u') (hz:kJ u'=false):aq K A ⟨st.s.set i (.own b'),st.h⟩ σ (upd H a u') ts Hb ι:=by
 obtain⟨a',u,e1,e2,e3,e4,e5,e6,e7⟩:=C.own i b h
 rw[ea] at e1;cases e1
 have ne:∀{x:Addr},A.H x≠none→x≠a:=fun n z=>n (by rw[z];exact e6)
 refine {C with keep:=fun x o e n=>?_,bH:=fun x o e=>?_,len:=by simp[C.len],val:=fun j r h'=>?_,obj:=fun n c h'=>?_,own:=fun j c h'=>?_,dsl:=fun j k c1 c2 x h1 h2=>?_}
 ·rw[upd_ne (ne (by rw[e];exact fun z=>nomatch z))];exact C.keep x o e n
 ·have z:x≠a:=fun z=>by rw[z,e4] at e;cases e
  rw[upd_ne z];exact C.bH x o e
 ·rcases get_set h' with ⟨rfl,e,z⟩|⟨n,h'⟩
  ·cases e
  ·exact C.val j r h'
 ·obtain⟨x,w,g1,g2,g3,g4⟩:=C.obj n c h'
  have z:x≠a:=fun z=>e5 (by rw[← z];exact List.mem_of_getElem? g1)
  exact⟨x,w,g1,by rw[upd_ne z];exact g2,g3,g4⟩
 ·rcases get_set h' with ⟨rfl,e,z⟩|⟨n,h'⟩
  ·cases e
   exact⟨a,u',ea,upd_same,hb,e4,e5,e6,hz⟩
  ·obtain⟨x,w,g1,g2,g3⟩:=C.own j c h'
   have z:x≠a:=fun z=>n (C.dsl j i c b a h' h (by rw[g1,z]) ea)
   exact⟨x,w,g1,by rw[upd_ne z];exact g2,g3⟩
 ·rcases get_set h1 with ⟨rfl,e,z⟩|⟨n1,h1⟩
  ·rcases get_set h2 with ⟨rfl,e',z'⟩|⟨n2,h2⟩
   ·exact fun _ _=>rfl
   ·exact fun q1 q2=>C.dsl _ k b c2 x h h2 q1 q2
  ·rcases get_set h2 with ⟨rfl,e',z'⟩|⟨n2,h2⟩
   ·exact fun q1 q2=>C.dsl j _ c1 b x (by assumption) h q1 q2
   ·exact C.dsl j k c1 c2 x h1 h2
theorem aq.Ig (C:aq K A st σ H ts Hb ι) {n:Nat} {b b':Ob} {a:Addr} {u':HO} (h:st.h[n]?=some b) (ea:ι[n]?=some a) (hb:dF K ι Hb b' u') (hz:∀u,H a=some u→kJ u=false):aq K A ⟨st.s,st.h.set n b'⟩ σ (upd H a u') ts Hb ι:=by
 obtain⟨a',u,e1,e2,e3,e4⟩:=C.obj n b h
 rw[ea] at e1;cases e1
 have hm:a∈ι:=List.mem_of_getElem? ea
 refine {C with keep:=fun x o e nx=>?_,bH:=fun x o e=>?_,hl:=by simp[C.hl],obj:=fun m c h'=>?_,own:=fun j c h'=>?_}
 ·have z:x≠a:=fun z=>by
   subst z
   have q:kJ o=true:=nx.elim (fun nx=>(C.new x hm).elim (fun y=>absurd y nx) fun y=>y o e) id
   rw[hz o (C.keep x o e (.inr q))] at q;cases q
  rw[upd_ne z];exact C.keep x o e nx
 ·have z:x≠a:=fun z=>by rw[z,e4] at e;cases e
  rw[upd_ne z];exact C.bH x o e
 ·rcases get_set h' with ⟨rfl,e,z⟩|⟨nm,h'⟩
  ·cases e
   exact⟨a,u',ea,upd_same,hb,e4⟩
  ·obtain⟨x,w,g1,g2,g3,g4⟩:=C.obj m c h'
   have z:x≠a:=fun z=>nm (Fg C.inj g1 (by rw[z];exact ea))
   exact⟨x,w,g1,by rw[upd_ne z];exact g2,g3,g4⟩
 ·obtain⟨x,w,g1,g2,g3,g4,g5,g6⟩:=C.own j c h'
  have z:x≠a:=fun z=>g5 (by rw[z];exact hm)
  exact⟨x,w,g1,by rw[upd_ne z];exact g2,g3,g4,g5,g6⟩
end
inductive Rx (α:Type) where
 | ok (a:α) (st:ST)|ex (x:XD) (st:ST)
abbrev M (α:Type):=ST→Option (Rx α)
def M.bind {α β:Type} (f:M α) (g:α→M β):M β:=fun st=>match f st with
 | some (.ok a st')=>g a st'
 | some (.ex x st')=>some (.ex x st')
 | none=>none
def M.ret {α:Type} (a:α):M α:=fun st=>some (.ok a st)
def M.of {α β:Type} (f:M α) (g:ST→α→Option β):M β:=fun st=>match f st with
 | some (.ok a st')=>(g st' a).map fun b=>.ok b st'
 | some (.ex x st')=>some (.ex x st')
 | none=>none
section
variable {α β:Type} {f:M α} {g:α→M β} {k:ST→α→Option β} {st st':ST} {a:α} {x:XD}
theorem bQ (h:f st=some (.ok a st')):M.bind f g st=g a st':=by unfold M.bind;rw[h]
theorem cD {y:Rx β} (h:M.bind f g st=some y):(∃a st',f st=some (.ok a st')∧g a st'=some y)∨∃x st',f st=some (.ex x st')∧y=.ex x st':=by
 unfold M.bind at h
 cases q:f st with
 | none=>rw[q] at h;cases h
 | some z=>
  rw[q] at h
  cases z with
  | ok a s=>exact .inl ⟨a,s,rfl,h⟩
  | ex x s=>cases h;exact .inr ⟨x,s,rfl,rfl⟩
theorem ju {y:Rx β} (h:M.of f k st=some y):(∃a st' b,f st=some (.ok a st')∧k st' a=some b∧y=.ok b st')∨∃x st',f st=some (.ex x st')∧y=.ex x st':=by
 unfold M.of at h
 cases q:f st with
 | none=>rw[q] at h;cases h
 | some z=>
  rw[q] at h
  cases z with
  | ok a s=>
   cases e:k s a with
   | none=>simp only[e] at h;cases h
   | some b=>simp only[e] at h;cases h;exact .inl ⟨a,s,b,rfl,e,rfl⟩
  | ex x s=>cases h;exact .inr ⟨x,s,rfl,rfl⟩
end
theorem Pa {α β:Type} {F G Z:α→β→Prop} (k:∀a b,F a b→G a b→Z a b):∀{l:List α} {m:List β},Paired F l m→Paired G l m→Paired Z l m
 | [],_,.nil,_=>.nil
 | _::_,_,.cons a b,.cons a' b'=>.cons (k _ _ a a') (Pa k b b')
section
variable (K:PySem.W.Frag) (W:WX)
def Jj (A:Ac) (σ:L2.St) (ts:List Tp) (Q:VK):Rx R→Prop
 | .ok r st=>∀v H2,Cf K A st σ H2 (rt K σ r v::ts)→Q v H2
 | .ex x st=>∀cls d H2,XO K A ts x st cls d σ H2→W cls d σ H2
def PoN (A:Ac) (σ:L2.St) (ts:List Tp) (Q:VK):Rx Ob→Prop
 | .ok b st=>∀v H2,eU K A st σ H2 ts b v→Q v H2
 | .ex x st=>∀cls d H2,XO K A ts x st cls d σ H2→W cls d σ H2
def PoT (A:Ac) (σ:L2.St) (ts:List Tp) (Q:Bool→Hp→Prop):Rx Bool→Prop
 | .ok b st=>∀H2,Cf K A st σ H2 ts→Q b H2
 | .ex x st=>∀cls d H2,XO K A ts x st cls d σ H2→W cls d σ H2
def iT (σ:L2.St) (rs:List R) (vs:List V):Tp:=⟨fun ι Hb=>Paired (fun r v=>Rt K σ ι Hb r v) rs vs,fun ι fL Hb aZ p rl h=>L2.Paired.mapP h fun r v q=>(rt K σ r v).m _ _ _ _ p rl q,fun ι fL Hb aZ p h h'=>Pa (fun r v q q'=>(rt K σ r v).l _ _ _ _ p q q') h h'⟩
def PoA (A:Ac) (σ:L2.St) (ts:List Tp) (Q:List V→Hp→Prop):Rx (List R)→Prop
 | .ok rs st=>∀vs H2,Cf K A st σ H2 (iT K σ rs vs::ts)→Q vs H2
 | .ex x st=>∀cls d H2,XO K A ts x st cls d σ H2→W cls d σ H2
def XE (te:TE) (f:M R):Prop:=∀A st σ H ts,Cf K A st σ H ts→∀Q y,f st=some y→Jj K W A σ ts Q y→te σ H Q
def XN (te:TE) (f:M Ob):Prop:=∀A st σ H ts,Cf K A st σ H ts→∀Q y,f st=some y→PoN K W A σ ts Q y→te σ H Q
def XT (tt:TT) (f:M Bool):Prop:=∀A st σ H ts,Cf K A st σ H ts→∀Q y,f st=some y→PoT K W A σ ts Q y→tt σ H Q
def XA (ta:TA) (f:M (List R)):Prop:=∀A st σ H ts,Cf K A st σ H ts→∀Q y,f st=some y→PoA K W A σ ts Q y→ta σ H Q
end
section
variable {K:PySem.W.Frag} {W:WX} {A:Ac} {st st':ST} {σ:L2.St} {H H' Hb:Hp} {ts ts':List Tp} {ι:List Addr} {x:XD} {cls:Value} {d:Option Addr}
theorem XO.temps (X:XO K A ts x st cls d σ H) (h:∀p∈ts',p∈ts):XO K A ts' x st cls d σ H:=by
 obtain⟨Hb,ι,dd,vs,C,r⟩:=X
 exact⟨Hb,ι,dd,vs,C.temps fun p hp=>C.tmp p (h p hp),r⟩
theorem XO.drop {p:Tp} (X:XO K A (p::ts) x st cls d σ H):XO K A ts x st cls d σ H:=X.temps fun q hq=>by simp[hq]
def cQ:List R→Option (List D)
 | []=>some []
 | .d x::rs=>(cQ rs).map (x::·)
 | _::_=>none
def fY:Ob→Option D
 | .lst ds=>some (.lst ds)
 | .bO xs=>(cQ xs).map .lst
 | .aM ks ds=>some (.aM ks ds)
 | .cI ks xs=>(cQ xs).map (.aM ks)
 | .dct ks ds=>some (.dct ks ds)
 | .dn w ks xs=>(cQ xs).map (.lg w ks)
 | .uW w ks xs=>(cQ xs).map (.lg w ks)
 | .ins C fs xs=>(cQ xs).map (.ins C fs)
 | .cZ ks ds=>some (.aM ks ds)
 | .jV ks xs=>(cQ xs).map (.aM ks)
 | .uV ks ds=>some (.dct ks ds)
theorem pZ:∀{rs:List R} {ds:List D} {vs:List V},cQ rs=some ds→bx K ι Hb rs vs→ak K Hb ds vs
 | [],ds,vs,h,r=>by cases h;cases r;exact ak.nil
 | .d x::rs,ds,vs,h,r=>by
  unfold cQ at h
  cases q:cQ rs with
  | none=>rw[q] at h;cases h
  | some es=>
   rw[q] at h;cases h
   cases r with
   | cons a b=>exact ak.cons a (pZ q b)
 | .o _::_,ds,vs,h,r=>by cases h
 | .w _::_,ds,vs,h,r=>by cases h
theorem G6:∀{b:Ob} {d:D} {u:HO} {a:Addr} {G:Hp},fY b=some d→dF K ι Hb b u→Rl Hb G→G a=some u→Rp K G d (.ref a)
 | .lst ds,d,u,a,G,h,⟨vs,e,q⟩,rl,hG=>by cases h;subst e;unfold Rp;exact⟨a,vs,rfl,.inl hG,ak.mono rl _ _ q⟩
 | .bO xs,d,u,a,G,h,⟨vs,e,q⟩,rl,hG=>by
  subst e
  simp only[fY] at h
  cases z:cQ xs with
  | none=>rw[z] at h;cases h
  | some ds=>rw[z] at h;cases h;unfold Rp;exact⟨a,vs,rfl,.inl hG,ak.mono rl _ _ (pZ z q)⟩
 | .aM ks ds,d,u,a,G,h,⟨vs,e,l,q⟩,rl,hG=>by cases h;subst e;unfold Rp;exact⟨a,vs,rfl,.inl hG,l,ak.mono rl _ _ q⟩
 | .cI ks xs,d,u,a,G,h,⟨vs,e,l,q⟩,rl,hG=>by
  subst e
  simp only[fY] at h
  cases z:cQ xs with
  | none=>rw[z] at h;cases h
  | some ds=>rw[z] at h;cases h;unfold Rp;exact⟨a,vs,rfl,.inl hG,l,ak.mono rl _ _ (pZ z q)⟩
 | .dct ks ds,d,u,a,G,h,⟨vs,e,l,q⟩,rl,hG=>by cases h;subst e;unfold Rp;exact⟨a,vs,rfl,.inl hG,l,ak.mono rl _ _ q⟩
 | .dn w ks xs,d,u,a,G,h,⟨b,vs,cU,e,l,n,l2,q⟩,rl,hG=>by
  subst e
  simp only[fY] at h
  cases z:cQ xs with
  | none=>rw[z] at h;cases h
  | some ds=>rw[z] at h;cases h;unfold Rp;exact⟨a,b,vs,cU,rfl,.inl hG,l,gG.mono rl _ _ n,l2,ak.mono rl _ _ (pZ z q)⟩
 | .uW w ks xs,d,u,a,G,h,⟨od,b,vs,cU,e,l,n,l2,q⟩,rl,hG=>by
  subst e
  simp only[fY] at h
  cases z:cQ xs with
  | none=>rw[z] at h;cases h
  | some ds=>rw[z] at h;cases h;unfold Rp;exact⟨a,b,vs,cU,rfl,.inr ⟨od,hG⟩,l,gG.mono rl _ _ n,l2,ak.mono rl _ _ (pZ z q)⟩
 | .ins C fs xs,d,u,a,G,h,⟨dx,vs,e,l,q⟩,rl,hG=>by
  subst e
  simp only[fY] at h
  cases z:cQ xs with
  | none=>rw[z] at h;cases h
  | some ds=>rw[z] at h;cases h;unfold Rp;exact⟨a,dx,vs,rfl,hG,l,ak.mono rl _ _ (pZ z q)⟩
 | .cZ ks ds,d,u,a,G,h,⟨od,vs,e,l,q⟩,rl,hG=>by cases h;subst e;unfold Rp;exact⟨a,vs,rfl,.inr ⟨od,hG⟩,l,ak.mono rl _ _ q⟩
 | .jV ks xs,d,u,a,G,h,⟨od,vs,e,l,q⟩,rl,hG=>by
  subst e
  simp only[fY] at h
  cases z:cQ xs with
  | none=>rw[z] at h;cases h
  | some ds=>rw[z] at h;cases h;unfold Rp;exact⟨a,vs,rfl,.inr ⟨od,hG⟩,l,ak.mono rl _ _ (pZ z q)⟩
 | .uV ks ds,d,u,a,G,h,⟨od,vs,e,l,q⟩,rl,hG=>by cases h;subst e;unfold Rp;exact⟨a,vs,rfl,.inr ⟨od,hG⟩,l,ak.mono rl _ _ q⟩
def aU (st:ST):R→Option Ob
 | .d _=>none
 | .o n=>st.h[n]?
 | .w i=>match st.s[i]? with
  | some (.own b)=>some b
  | _=>none
def snap (st:ST):R→Option D
 | .d x=>some x
 | r=>(aU st r).bind fY
theorem aq.at (C:aq K A st σ H ts Hb ι) {r:R} {v:V} {b:Ob} (hr:Rt K σ ι Hb r v) (h:aU st r=some b):∃a u,v=.ref a∧H a=some u∧dF K ι Hb b u∧Hb a=none:=by
 cases r with
 | d x=>cases h
 | o n=>
  obtain⟨a,e,rfl⟩:=hr
  obtain⟨a',u,h1,h2,h3,h4⟩:=C.obj n b h
  rw[e] at h1;cases h1
  exact⟨a,u,rfl,h2,h3,h4⟩
 | w i=>
  simp only[aU] at h
  cases q:st.s[i]? with
  | none=>rw[q] at h;cases h
  | some sv=>
   rw[q] at h
   cases sv with
   | no=>cases h
   | v r=>cases h
   | own c=>
    cases h
    obtain⟨a,u,h1,h2,h3,h4,_⟩:=C.own i _ q
    have hr:σ[i]?=some (some v):=hr
    rw[h1] at hr;cases hr
    exact⟨a,u,rfl,h2,h3,h4⟩
theorem aq.snap (C:aq K A st σ H ts Hb ι) {r:R} {v:V} {d:D} (hr:Rt K σ ι Hb r v) (h:snap st r=some d):Rp K H d v:=by
 have key:(∃b,aU st r=some b∧fY b=some d)→Rp K H d v:=fun⟨b,h1,h2⟩=>by
  obtain⟨a,u,rfl,g1,g2,_⟩:=C.at hr h1
  exact G6 h2 g2 C.bH.rl g1
 cases r with
 | d x=>cases h;exact Rp.mono C.bH.rl _ _ hr
 | o n=>exact key (Option.bind_eq_some_iff.mp h)
 | w i=>exact key (Option.bind_eq_some_iff.mp h)
end
def eV (i:Nat):M R:=fun st=>match st.s[i]? with
 | some (.v r)=>some (.ok r st)
 | some (.own _)=>some (.ok (.w i) st)
 | _=>none
def eC (x:D):M R:=fun st=>some (.ok (.d x) st)
def aN:M (List R):=fun st=>some (.ok [] st)
def aC (f:M R) (g:M (List R)):M (List R):=f.bind fun r=>g.bind fun rs st=>some (.ok (r::rs) st)
section
variable {K:PySem.W.Frag} {W:WX} {te ta tb:TE} {tr:TA} {f g:M R} {fr:M (List R)}
theorem qN {ι:List Addr} {Hb:Hp} {σ:L2.St} {r:R} {v:V} (h:RV K ι Hb r v):Rt K σ ι Hb r v:=by
 cases r with
 | d x=>exact h
 | o n=>exact h
 | w i=>exact h.elim
theorem aj {i:Nat}:XE K W (tVar i) (eV i):=fun A st σ H ts ⟨Hb,ι,C⟩ Q y hf p=>by
 unfold eV at hf
 split at hf
 ·rename_i r hr
  cases hf
  obtain⟨v,e,q⟩:=C.val i _ hr
  exact⟨v,e,p v H ⟨Hb,ι,C.temps fun z hz=>(List.mem_cons.mp hz).elim (fun e=>by rw[e];exact qN q) (C.tmp z)⟩⟩
 ·rename_i b hb
  cases hf
  obtain⟨a,u,h1,_⟩:=C.own i _ hb
  exact⟨_,h1,p _ H ⟨Hb,ι,C.temps fun z hz=>(List.mem_cons.mp hz).elim (fun e=>by rw[e];exact h1) (C.tmp z)⟩⟩
 ·cases hf
theorem xK {x:D} {v:V} (h:∀Hb,Rp K Hb x v):XE K W (tC v) (eC x):=fun A st σ H ts C Q y hf p=>by
 cases hf
 exact p v H (C.temps fun z hz=>(List.mem_cons.mp hz).elim (fun e=>.inr fun ι Hb=>by rw[e];exact h Hb) .inl)
theorem aQ {i:Int}:XE K W (tC (.int i)) (eC (.int i)):=xK fun _=>by unfold Rp;rfl
theorem qO {i:Str}:XE K W (tC (.str i)) (eC (.str i)):=xK fun _=>by unfold Rp;rfl
theorem lQ {i:Bool}:XE K W (tC (.bl i)) (eC (.bl i)):=xK fun _=>by unfold Rp;rfl
theorem Pb:XE K W (tC .non) (eC .non):=xK fun _=>by unfold Rp;rfl
theorem QF {i:String}:XE K W (tC (.ty i)) (eC (.ty i)):=xK fun _=>by unfold Rp;rfl
theorem aW:XA K W tNil aN:=fun A st σ H ts C Q y hf p=>by
 cases hf
 exact p [] H (C.temps fun z hz=>(List.mem_cons.mp hz).elim (fun e=>.inr fun ι Hb=>by rw[e];exact .nil) .inl)
theorem aH (hf:XE K W te f) (hg:XA K W tr fr):XA K W (tCons te tr) (aC f fr):=fun A st σ H ts C Q y hy p=>by
 rcases cD hy with ⟨r,s1,h1,h2⟩|⟨x,s1,h1,rfl⟩
 ·refine hf A st σ H ts C _ _ h1 fun v H1 C1=>?_
  rcases cD h2 with ⟨rs,s2,h3,h4⟩|⟨x,s2,h3,rfl⟩
  ·cases h4
   refine hg A s1 σ H1 _ C1 _ _ h3 fun vs H2 C2=>p (v::vs) H2 ?_
   obtain⟨Hb,ι,C2⟩:=C2
   exact⟨Hb,ι,C2.temps fun z hz=>(List.mem_cons.mp hz).elim (fun e=>by rw[e];exact .cons (C2.tmp (rt K σ r v) (by simp)) (C2.tmp (iT K σ rs vs) (by simp))) fun hz=>C2.tmp z (by simp[hz])⟩
  ·exact hg A s1 σ H1 _ C1 _ _ h3 fun cls d H2 X=>p cls d H2 X.drop
 ·exact hf A st σ H ts C _ _ h1 fun cls d H2 X=>p cls d H2 X
def aR (K:PySem.W.Frag) (r:R2) (g:ST→R→R→Option R):Prop:=∀A st σ H ts Hb ι x y z v u (Q:VK),aq K A st σ H ts Hb ι→Rt K σ ι Hb x v→Rt K σ ι Hb y u→g st x y=some z→(∀w H2,Cf K A st σ H2 (rt K σ z w::ts)→Q w H2)→r v u H Q
def eB (k:ST→R→R→Option R) (f g:M R):M R:=f.bind fun x=>g.bind fun y=>fun st=>(k st x y).map fun z=>.ok z st
theorem aF {r:R2} {k:ST→R→R→Option R} (hk:aR K r k) (hf:XE K W ta f) (hg:XE K W tb g):XE K W (tOp r ta tb) (eB k f g):=fun A st σ H ts C Q y hy p=>by
 rcases cD hy with ⟨x,s1,h1,h2⟩|⟨x,s1,h1,rfl⟩
 ·refine hf A st σ H ts C _ _ h1 fun v H1 C1=>?_
  rcases cD h2 with ⟨z,s2,h3,h4⟩|⟨x,s2,h3,rfl⟩
  ·refine hg A s1 σ H1 _ C1 _ _ h3 fun u H2 C2=>?_
   obtain⟨Hb,ι,C2⟩:=C2
   cases e:k s2 x z with
   | none=>rw[e] at h4;cases h4
   | some w=>
    rw[e] at h4;cases h4
    exact hk A s2 σ H2 ts Hb ι x z w v u Q (C2.temps fun q hq=>C2.tmp q (by simp[hq])) (C2.tmp (rt K σ x v) (by simp)) (C2.tmp (rt K σ z u) (by simp)) e p
  ·exact hg A s1 σ H1 _ C1 _ _ h3 fun cls d H2 X=>p cls d H2 X.drop
 ·exact hf A st σ H ts C _ _ h1 fun cls d H2 X=>p cls d H2 X
def aK (k:D→D→Option D):ST→R→R→Option R:=fun st x y=>(snap st x).bind fun a=>(snap st y).bind fun b=>(k a b).map .d
theorem jc {r:R2} {k:D→D→Option D} (hk:∀x y z,k x y=some z→fK K r x y z):aR K r (aK k):=fun A st σ H ts Hb ι x y z v u Q C hx hy e p=>by
 obtain⟨a,ha,e⟩:=Option.bind_eq_some_iff.mp e
 obtain⟨b,hb,e⟩:=Option.bind_eq_some_iff.mp e
 obtain⟨c,hc,rfl⟩:=Option.map_eq_some_iff.mp e
 exact hk a b c hc H H v u Q (Ex.refl _) (C.snap hx ha) (C.snap hy hb) fun w hw=>p w H ⟨Hb,ι,C.temps fun q hq=>(List.mem_cons.mp hq).elim (fun e=>by rw[e];exact hw Hb) (C.tmp q)⟩
end
def bT (st:ST):R→Option (List D)
 | .d (.lst ds)=>some ds
 | .d _=>none
 | r=>match aU st r with
  | some (.lst ds)=>some ds
  | _=>none
def eX (st:ST):R→Option (List Key×List D)
 | .d (.aM ks ds)=>some (ks,ds)
 | .d _=>none
 | r=>match aU st r with
  | some (.aM ks ds)=>some (ks,ds)
  | some (.cZ ks ds)=>some (ks,ds)
  | _=>none
def inV (st:ST):R→Option (Addr×List Str×List R)
 | .d (.ins C fs xs)=>some (C,fs,xs.map .d)
 | .d _=>none
 | r=>match aU st r with
  | some (.ins C fs xs)=>some (C,fs,xs)
  | _=>none
section
variable {K:PySem.W.Frag} {A:Ac} {st:ST} {σ:L2.St} {H Hb:Hp} {ts:List Tp} {ι:List Addr} {r:R} {v:V}
theorem vN:∀{ds:List D} {vs:List V},ak K Hb ds vs→bx K ι Hb (ds.map .d) vs
 | [],vs,h=>by rw[ak.mX h];exact .nil
 | d::ds,vs,h=>by
  obtain⟨v,t,rfl,p,q⟩:=ak.mU h
  exact .cons p (vN q)
theorem aq.bT (C:aq K A st σ H ts Hb ι) {ds:List D} (hr:Rt K σ ι Hb r v) (h:bT st r=some ds):∃a vs,v=.ref a∧Rd H a (.lst vs)∧ak K Hb ds vs:=by
 have key:(∃b,aU st r=some b∧b=.lst ds)→∃a vs,v=.ref a∧Rd H a (.lst vs)∧ak K Hb ds vs:=by
  rintro⟨b,hb,rfl⟩;obtain⟨a,u,rfl,h1,⟨vs,rfl,q⟩,_⟩:=C.at hr hb;exact⟨a,vs,rfl,.inl h1,q⟩
 have key2:(match aU st r with|some (.lst ds)=>some ds|_=>none)=some ds→∃b,aU st r=some b∧b=.lst ds:=fun h=>by
  cases q:aU st r with
  | none=>rw[q] at h;cases h
  | some b=>rw[q] at h;cases b<;>first|cases h;done|(cases h;exact⟨_,rfl,rfl⟩)
 cases r with
 | d x=>
  cases x<;>first|cases h;done|skip
  cases h
  have hr:Rp K Hb (.lst ds) v:=hr
  unfold Rp at hr
  obtain⟨a,vs,rfl,s,q⟩:=hr
  exact⟨a,vs,rfl,C.bH.rl.ls s,q⟩
 | o n=>exact key (key2 h)
 | w i=>exact key (key2 h)
theorem aq.eX (C:aq K A st σ H ts Hb ι) {p:List Key×List D} (hr:Rt K σ ι Hb r v) (h:eX st r=some p):∃a vs,v=.ref a∧Rd H a (.dK (p.1.zip vs))∧p.1.length=vs.length∧ak K Hb p.2 vs:=by
 have key:(∃b,aU st r=some b∧(b=.aM p.1 p.2∨b=.cZ p.1 p.2))→∃a vs,v=.ref a∧Rd H a (.dK (p.1.zip vs))∧p.1.length=vs.length∧ak K Hb p.2 vs:=by
  rintro⟨b,hb,rfl|rfl⟩
  ·obtain⟨a,u,rfl,h1,⟨vs,rfl,l,q⟩,_⟩:=C.at hr hb;exact⟨a,vs,rfl,.inl h1,l,q⟩
  ·obtain⟨a,u,rfl,h1,⟨od,vs,rfl,l,q⟩,_⟩:=C.at hr hb;exact⟨a,vs,rfl,.inr ⟨od,h1⟩,l,q⟩
 have key2:(match aU st r with|some (.aM ks ds)=>some (ks,ds)|some (.cZ ks ds)=>some (ks,ds)|_=>none)=some p→∃b,aU st r=some b∧(b=.aM p.1 p.2∨b=.cZ p.1 p.2):=fun h=>by
  cases q:aU st r with
  | none=>rw[q] at h;cases h
  | some b=>rw[q] at h;cases b<;>first|cases h;done|(cases h;exact⟨_,rfl,.inl rfl⟩)|(cases h;exact⟨_,rfl,.inr rfl⟩)
 cases r with
 | d x=>
  cases x<;>first|cases h;done|skip
  cases h
  have hr:Rp K Hb (.aM _ _) v:=hr
  unfold Rp at hr
  obtain⟨a,vs,rfl,s,l,q⟩:=hr
  exact⟨a,vs,rfl,C.bH.rl.k s,l,q⟩
 | o n=>exact key (key2 h)
 | w i=>exact key (key2 h)
theorem aq.inV (C:aq K A st σ H ts Hb ι) {p:Addr×List Str×List R} (hr:Rt K σ ι Hb r v) (h:inV st r=some p):∃a dx vs,v=.ref a∧H a=some (.ins p.1 dx (p.2.1.zip vs))∧p.2.1.length=vs.length∧bx K ι Hb p.2.2 vs:=by
 have key:(∃b,aU st r=some b∧b=.ins p.1 p.2.1 p.2.2)→∃a dx vs,v=.ref a∧H a=some (.ins p.1 dx (p.2.1.zip vs))∧p.2.1.length=vs.length∧bx K ι Hb p.2.2 vs:=by
  rintro⟨b,hb,rfl⟩
  obtain⟨a,u,rfl,h1,⟨dx,vs,rfl,l,q⟩,_⟩:=C.at hr hb;exact⟨a,dx,vs,rfl,h1,l,q⟩
 have key2:(match aU st r with|some (.ins C fs xs)=>some (C,fs,xs)|_=>none)=some p→∃b,aU st r=some b∧b=.ins p.1 p.2.1 p.2.2:=fun h=>by
  cases q:aU st r with
  | none=>rw[q] at h;cases h
  | some b=>rw[q] at h;cases b<;>first|cases h;done|(cases h;exact⟨_,rfl,rfl⟩)
 cases r with
 | d x=>
  cases x<;>first|cases h;done|skip
  cases h
  have hr:Rp K Hb (.ins _ _ _) v:=hr
  unfold Rp at hr
  obtain⟨a,dx,vs,rfl,s,l,q⟩:=hr
  exact⟨a,dx,vs,rfl,C.bH _ _ s,l,vN q⟩
 | o n=>exact key (key2 h)
 | w i=>exact key (key2 h)
end
def kI (f:Int→Int→D):D→D→Option D
 | .int i,.int j=>some (f i j)
 | _,_=>none
instance abA (i j:Int):Decidable (CMul i j):=by unfold CMul;infer_instance
instance abB (i j:Int):Decidable (CDiv i j):=by unfold CDiv;infer_instance
instance abC (i j:Int):Decidable (CPow i j):=by unfold CPow;infer_instance
def uX (C:Int→Int→Prop) [∀i j,Decidable (C i j)] (f:Int→Int→D):D→D→Option D
 | .int i,.int j=>if C i j then some (f i j) else none
 | _,_=>none
def uI:=kI fun i j=>.int (i-j)
def jB:=uX CMul fun i j=>.int (i*j)
def fj:=uX (fun _ j=>0<j) fun i j=>.int (i%j)
def lU:=uX CDiv fun i j=>.int (i/j)
def wN:=uX CPow fun i j=>.int (i ^ j.toNat)
def kLt:=kI fun i j=>.bl (decide (i<j))
def o7:=kI fun i j=>.bl (decide (i≤j))
def Jk:=kI fun i j=>.bl (decide (j<i))
def Ce:=kI fun i j=>.bl (decide (j≤i))
mutual
def dN:D→D→Bool
 | .non,.non=>true
 | .bl a,.bl b=>a == b
 | .bl a,.int j=>(if a then 1 else 0) == j
 | .int i,.bl b=>i == (if b then 1 else 0)
 | .int i,.int j=>i == j
 | .str x,.str y=>x == y
 | .lst xs,.lst ys=>kY xs ys
 | .tup xs,.tup ys=>kY xs ys
 | _,_=>false
def kY:List D→List D→Bool
 | [],[]=>true
 | x::xs,y::ys=>dN x y&&kY xs ys
 | _,_=>false
end
mutual
theorem zL:∀x y:D,bA x=true→bA y=true→PyData.eqv (toPy x) (toPy y)=dN x y
 | x,y,hx,hy=>by
  cases x<;>cases y<;>first
   | (simp[bA] at hx;done)|(simp[bA] at hy;done)
   | (simp only[toPy,dN,PyData.eqv];done)
   | (simp only[toPy,dN,PyData.eqv];simp only[bA] at hx hy;exact Ml _ _ hx hy)
theorem Ml:∀xs ys:List D,fP xs=true→fP ys=true→PyData.eqvAll (dG xs) (dG ys)=kY xs ys
 | [],[],_,_=>by simp only[dG,kY,PyData.eqvAll]
 | [],y::ys,_,_=>by simp only[dG,kY,PyData.eqvAll]
 | x::xs,[],_,_=>by simp only[dG,kY,PyData.eqvAll]
 | x::xs,y::ys,hx,hy=>by
  simp only[fP,Bool.and_eq_true] at hx hy
  simp only[dG,kY,PyData.eqvAll]
  rw[zL x y hx.1 hy.1,Ml xs ys hx.2 hy.2]
end
def cX:D→Bool
 | .non=>true|.bl _=>true|.int _=>true|.str _=>true|_=>false
def fu (x:D):Bool:=bA x&&decide (dep x≤64)
def kEq (neg:Bool):D→D→Option D:=fun x y=>if (cX x&&cX y) || (fu x&&fu y) then some (.bl (if neg then !dN x y else dN x y)) else none
section
variable {K:PySem.W.Frag}
theorem uY {g:Int→Int→V} {f:Int→Int→D} (h:∀i j Hb,Rp K Hb (f i j) (g i j)):∀x y z,kI f x y=some z→fK K (rI0 g) x y z:=fun x y z e=>by
 cases x<;>first|cases e;done|skip
 cases y<;>first|cases e;done|skip
 cases e
 exact Zk (h _ _)
theorem Bp {C:Int→Int→Prop} [∀i j,Decidable (C i j)] {g:Int→Int→V} {f:Int→Int→D} (h:∀i j Hb,Rp K Hb (f i j) (g i j)):∀x y z,uX C f x y=some z→fK K (rI C g) x y z:=fun x y z e=>by
 cases x<;>first|cases e;done|skip
 cases y<;>first|cases e;done|skip
 rename_i i j
 simp only[uX] at e
 by_cases q:C i j
 ·rw[if_pos q] at e;cases e;exact aaK q (h _ _)
 ·rw[if_neg q] at e;cases e
theorem wA:aR K Hz (aK uI):=jc (uY fun i j Hb=>by unfold Rp;rfl)
theorem uo:aR K HF (aK jB):=jc (Bp fun i j Hb=>by unfold Rp;rfl)
theorem g_:aR K HJ (aK fj):=jc (Bp fun i j Hb=>by unfold Rp;rfl)
theorem qP:aR K HS (aK lU):=jc (Bp fun i j Hb=>by unfold Rp;rfl)
theorem Pg:aR K HW (aK wN):=jc (Bp fun i j Hb=>by unfold Rp;rfl)
theorem x_lt:aR K Jf (aK kLt):=jc (uY fun i j Hb=>by unfold Rp;rfl)
theorem uJ:aR K Rh (aK o7):=jc (uY fun i j Hb=>by unfold Rp;rfl)
theorem aaX:aR K Jg (aK Jk):=jc (uY fun i j Hb=>by unfold Rp;rfl)
theorem x_ge:aR K BX (aK Ce):=jc (uY fun i j Hb=>by unfold Rp;rfl)
theorem iY {x:D} (h:fu x=true):bA x=true∧dep x≤64:=by
 unfold fu at h;rw[Bool.and_eq_true] at h;exact⟨h.1,of_decide_eq_true h.2⟩
theorem k_eq:∀x y z,kEq false x y=some z→fK K (rJ K) x y z:=fun x y z e=>by
 unfold kEq at e
 by_cases h2:(fu x&&fu y)=true
 ·rw[Bool.and_eq_true] at h2
  have h3:((cX x&&cX y) || (fu x&&fu y))=true:=by rw[h2.1,h2.2];simp
  rw[if_pos h3] at e
  cases e
  have:=ZJ (K:=K) (iY h2.1).1 (iY h2.2).1 (iY h2.1).2 (iY h2.2).2
  rw[zL x y (iY h2.1).1 (iY h2.2).1] at this
  exact this
 ·by_cases h1:(cX x&&cX y)=true
  ·rw[if_pos (by rw[h1];rfl)] at e
   cases e
   refine fK.inl fun Hb H v u Q ex hv hu q=>?_
   cases x<;>cases y<;>first|(simp[cX] at h1;done)|(exfalso;simp[fu,bA,dep] at h2;done)|skip
   ·cases (show v=.non from hv);cases (Rp.dD hu);exact⟨rfl,q _ fun aZ=>by unfold Rp;rfl⟩
   ·cases (Rp.jU hv);cases (Rp.dD hu);exact⟨rfl,q _ fun aZ=>by unfold Rp;rfl⟩
   ·cases (Rp.jA hv);cases (Rp.dD hu);exact⟨rfl,q _ fun aZ=>by unfold Rp;rfl⟩
   ·cases (Rp.dD hv);cases (show u=.non from hu);exact⟨rfl,q _ fun aZ=>by unfold Rp;rfl⟩
   ·cases (Rp.dD hv);cases (Rp.jU hu);exact⟨rfl,q _ fun aZ=>by unfold Rp;rfl⟩
   ·cases (Rp.dD hv);cases (Rp.jA hu);exact⟨rfl,q _ fun aZ=>by unfold Rp;rfl⟩
   ·cases (Rp.dD hv);cases (Rp.dD hu);exact⟨rfl,q _ fun aZ=>by unfold Rp;rw[L2.dec_str];simp[dN]⟩
  ·rw[if_neg (by simp only[Bool.or_eq_true];exact fun z=>z.elim h1 h2)] at e;cases e
theorem k_ne:∀x y z,kEq true x y=some z→fK K (uU K) x y z:=fun x y z e=>by
 unfold kEq at e
 by_cases h2:(fu x&&fu y)=true
 ·rw[Bool.and_eq_true] at h2
  have h3:((cX x&&cX y) || (fu x&&fu y))=true:=by rw[h2.1,h2.2];simp
  rw[if_pos h3] at e
  cases e
  have:=ZK (K:=K) (iY h2.1).1 (iY h2.2).1 (iY h2.1).2 (iY h2.2).2
  rw[zL x y (iY h2.1).1 (iY h2.2).1] at this
  exact this
 ·by_cases h1:(cX x&&cX y)=true
  ·rw[if_pos (by rw[h1];rfl)] at e
   cases e
   refine fK.inl fun Hb H v u Q ex hv hu q=>?_
   cases x<;>cases y<;>first|(simp[cX] at h1;done)|(exfalso;simp[fu,bA,dep] at h2;done)|skip
   ·cases (show v=.non from hv);cases (Rp.dD hu);exact⟨rfl,q _ fun aZ=>by unfold Rp;rfl⟩
   ·cases (Rp.jU hv);cases (Rp.dD hu);exact⟨rfl,q _ fun aZ=>by unfold Rp;rfl⟩
   ·cases (Rp.jA hv);cases (Rp.dD hu);exact⟨rfl,q _ fun aZ=>by unfold Rp;rfl⟩
   ·cases (Rp.dD hv);cases (show u=.non from hu);exact⟨rfl,q _ fun aZ=>by unfold Rp;rfl⟩
   ·cases (Rp.dD hv);cases (Rp.jU hu);exact⟨rfl,q _ fun aZ=>by unfold Rp;rfl⟩
   ·cases (Rp.dD hv);cases (Rp.jA hu);exact⟨rfl,q _ fun aZ=>by unfold Rp;rfl⟩
   ·cases (Rp.dD hv);cases (Rp.dD hu);exact⟨rfl,q _ fun aZ=>by unfold Rp;rw[L2.dec_str];simp[dN]⟩
  ·rw[if_neg (by simp only[Bool.or_eq_true];exact fun z=>z.elim h1 h2)] at e;cases e
theorem x_eq:aR K (rJ K) (aK (kEq false)):=jc k_eq
theorem uK:aR K (uU K) (aK (kEq true)):=jc k_ne
end
end AL
namespace AL
open PySem L2 DL PyProof.Rows
abbrev K2:=ST→R→R→Option R
def K2.or (k l:K2):K2:=fun st x y=>(k st x y).or (l st x y)
section
variable {K:PySem.W.Frag} {r r':R2} {k l:K2}
theorem aR.or (h:aR K r k) (h':aR K r l):aR K r (k.or l):=fun A st σ H ts Hb ι x y z v u Q C hx hy e p=>by
 unfold K2.or at e
 cases q:k st x y with
 | some w=>rw[q] at e;cases e;exact h A st σ H ts Hb ι x y _ v u Q C hx hy q p
 | none=>rw[q] at e;exact h' A st σ H ts Hb ι x y z v u Q C hx hy e p
theorem aR.inl (h:aR K r k):aR K (gH r r') k:=fun A st σ H ts Hb ι x y z v u Q C hx hy e p=>.inl (h A st σ H ts Hb ι x y z v u Q C hx hy e p)
theorem aR.inr (h:aR K r' k):aR K (gH r r') k:=fun A st σ H ts Hb ι x y z v u Q C hx hy e p=>.inr (h A st σ H ts Hb ι x y z v u Q C hx hy e p)
end
def Ph:K2:=aK (kI fun i j=>.int (i+j))
def Pj:K2:=aK fun x y=>match x,y with
 | .str s,.str t=>if s.length+t.length≤16000000 then some (.str (s++t)) else none
 | _,_=>none
def Pk:K2:=fun st x y=>(bT st x).bind fun xs=>(bT st y).bind fun ys=>if xs.length+ys.length≤16000000 then some (.d (.lst (xs++ys))) else none
def Hl:K2:=fun _ x y=>match x,y with
 | .d (.tup xs),.d (.tup ys)=>if xs.length+ys.length≤16000000 then some (.d (.tup (xs++ys))) else none
 | _,_=>none
def eO:K2:=Ph.or (Pj.or (Hl.or Pk))
section
variable {K:PySem.W.Frag} {A:Ac} {st:ST} {σ:L2.St} {H Hb:Hp} {ts:List Tp} {ι:List Addr} {r:R} {v:V}
theorem aq.one (C:aq K A st σ H ts Hb ι) {r:R} {v:V} (h:Rt K σ ι Hb r v):Cf K A st σ H (rt K σ r v::ts):=⟨Hb,ι,C.temps fun q hq=>(List.mem_cons.mp hq).elim (fun e=>by rw[e];exact h) (C.tmp q)⟩
theorem aq.fB (C:aq K A st σ H ts Hb ι) {x:D} {v:V} (h:Rp K Hb x v):Cf K A st σ H (rt K σ (.d x) v::ts):=C.one (r:=.d x) h
theorem aq.newL (C:aq K A st σ H ts Hb ι) {p:Addr} {ds:List D} {vs:List V} (hp:H p=none) (r:ak K Hb ds vs):Cf K A st σ (upd H p (.lst vs)) (rt K σ (.d (.lst ds)) (.ref p)::ts):=by
 have hb:Hb p=none:=C.bH.none hp
 refine⟨_,ι,C.laid hp fun q hq=>?_⟩
 rcases List.mem_cons.mp hq with rfl|hq
 ·show Rp K _ _ _
  unfold Rp;exact⟨p,vs,rfl,.inl upd_same,ak.mono (Ex.new hb).rl _ _ r⟩
 ·exact q.m _ _ _ _ (bD.refl _) (Ex.new hb).rl (C.tmp q hq)
theorem aq.newT (C:aq K A st σ H ts Hb ι) {p:Addr} {ds:List D} {vs:List V} (hp:H p=none) (r:ak K Hb ds vs):Cf K A st σ (upd H p (.tup vs)) (rt K σ (.d (.tup ds)) (.ref p)::ts):=by
 have hb:Hb p=none:=C.bH.none hp
 refine⟨_,ι,C.laid hp fun q hq=>?_⟩
 rcases List.mem_cons.mp hq with rfl|hq
 ·show Rp K _ _ _
  unfold Rp;exact⟨p,vs,rfl,.inl (.inl upd_same),ak.mono (Ex.new hb).rl _ _ r⟩
 ·exact q.m _ _ _ _ (bD.refl _) (Ex.new hb).rl (C.tmp q hq)
theorem ite_some {α:Type} {c:Prop} [Decidable c] {a b:α} (h:(if c then some a else none)=some b):c∧a=b:=by
 by_cases q:c
 ·rw[if_pos q] at h;exact⟨q,Option.some.inj h⟩
 ·rw[if_neg q] at h;cases h
theorem ig:aR K (Bo K) eO:=by
 refine aR.or (aR.inl (jc (uY fun i j Hb=>by unfold Rp;rfl))) (aR.or (aR.inr (aR.inl (jc fun x y z e Hb H v u Q ex hv hu q=>?_))) (aR.or (aR.inr (aR.inr (aR.inr ?_))) (aR.inr (aR.inr (aR.inl ?_)))))
 ·cases x<;>first|cases e;done|skip
  cases y<;>first|cases e;done|skip
  obtain⟨hl,rfl⟩:=ite_some e
  exact⟨_,_,hv,hu,by rw[sizeLine_eq];omega,q _ fun _=>by unfold Rp;rfl⟩
 ·intro A st σ H ts Hb ι x y z v u Q C hx hy e p
  unfold Hl at e
  cases x with
  | d x=>
   cases x<;>first|cases e;done|skip
   cases y with
   | d y=>
    cases y<;>first|cases e;done|skip
    rename_i xs ys
    obtain⟨hl,rfl⟩:=ite_some e
    have hx:Rp K Hb (.tup xs) v:=hx
    have hy:Rp K Hb (.tup ys) u:=hy
    have hx':=hx
    have hy':=hy
    unfold Rp at hx hy
    obtain⟨a,vs,rfl,s1,r1⟩:=hx
    obtain⟨b,us,rfl,s2,r2⟩:=hy
    refine⟨a,b,vs,us,rfl,rfl,C.bH.rl.t s1,C.bH.rl.t s2,by rw[← r1.len,← r2.len,sizeLine_eq];omega,fun e=>p _ _ (C.fB ?_),fun _ e=>p _ _ (C.fB ?_),fun _ _ q hq=>p _ _ (C.newT hq (r1.app r2))⟩
    ·have:xs=[]:=List.eq_nil_of_length_eq_zero (by rw[r1.len,e];rfl)
     rw[this];exact hy'
    ·have:ys=[]:=List.eq_nil_of_length_eq_zero (by rw[r2.len,e];rfl)
     rw[this,List.append_nil];exact hx'
   | o n=>cases e
   | w i=>cases e
  | o n=>cases e
  | w i=>cases e
 ·intro A st σ H ts Hb ι x y z v u Q C hx hy e p
  obtain⟨xs,h1,e⟩:=Option.bind_eq_some_iff.mp e
  obtain⟨ys,h2,e⟩:=Option.bind_eq_some_iff.mp e
  obtain⟨hl,rfl⟩:=ite_some e
  obtain⟨a,vs,rfl,s1,r1⟩:=C.bT hx h1
  obtain⟨b,us,rfl,s2,r2⟩:=C.bT hy h2
  exact⟨a,b,vs,us,rfl,rfl,s1,s2,by rw[← r1.len,← r2.len,sizeLine_eq];omega,fun q hq=>p _ _ (C.newL hq (r1.app r2))⟩
end
def keyD:D→Option Key
 | .int i=>some (.inl i)
 | .str s=>some (.inr s)
 | _=>none
def jP:K2:=fun _ x y=>match x,y with
 | .d (.tup ds),.d (.int i)=>(atI ds i).map .d
 | .d (.str s),.d (.int i)=>if s.length≤16000000 then(atI s.cps.toList i).map fun c=>.d (.str ⟨#[c]⟩) else none
 | .d (.cM ns),.d (.int i)=>(atI ns i).map fun n=>.d (.int n)
 | _,_=>none
def lV:K2:=fun st x y=>match y with
 | .d (.int i)=>(bT st x).bind fun ds=>(atI ds i).map .d
 | _=>none
def m9:K2:=fun st x y=>match y with
 | .d y=>(eX st x).bind fun p=>(keyD y).bind fun k=>(dget p.1 p.2 k).map .d
 | _=>none
def bO (st:ST) (x:R):Option (List R):=match aU st x with
 | some (.bO xs)=>some xs
 | _=>none
def cI (st:ST) (x:R):Option (List Key×List R):=match aU st x with
 | some (.cI ks xs)=>some (ks,xs)
 | some (.jV ks xs)=>some (ks,xs)
 | _=>none
def qX:K2:=fun st x y=>match y with
 | .d (.int i)=>(bO st x).bind fun xs=>atI xs i
 | _=>none
def wO (ks:List Key) (xs:List R) (k:Key):Option R:=((ks.zip xs).find? fun kv=>decide (kv.1=k)).map (·.2)
def wQ:K2:=fun st x y=>match y with
 | .d y=>(cI st x).bind fun p=>(keyD y).bind fun k=>wO p.1 p.2 k
 | _=>none
def bF:K2:=jP.or (lV.or (m9.or (qX.or wQ)))
section
variable {K:PySem.W.Frag} {A:Ac} {st:ST} {σ:L2.St} {H Hb:Hp} {ts:List Tp} {ι:List Addr} {r:R} {v:V}
theorem mH {y:D} {k:Key} (h:keyD y=some k):y=kD k:=by cases y<;>first|cases h;done|(cases h;rfl)
theorem bx.get {xs:List R} {vs:List V}:∀{n:Nat} {x:R},bx K ι Hb xs vs→xs[n]?=some x→∃v,vs[n]?=some v∧RV K ι Hb x v:=fun {n x} r e=>by
 induction r generalizing n with
 | nil=>simp at e
 | cons a b ih=>
  cases n with
  | zero=>simp at e;subst e;exact⟨_,rfl,a⟩
  | succ n=>obtain⟨v,h1,h2⟩:=ih (n:=n) (by simpa using e);exact⟨v,by simpa using h1,h2⟩
theorem bx.atI {xs:List R} {vs:List V} {i:Int} {x:R} (r:bx K ι Hb xs vs) (h:L2.atI xs i=some x):∃v,L2.atI vs i=some v∧RV K ι Hb x v:=by
 unfold L2.atI at h ⊢
 have hl:xs.length=vs.length:=Paired.length r
 rw[← hl]
 cases q:ixN xs.length i with
 | none=>rw[q] at h;cases h
 | some j=>
  rw[q,Option.bind_some] at h
  rw[Option.bind_some]
  exact r.get h
theorem Mp {k:Key}:∀{ks:List Key} {xs:List R} {vs:List V} {x:R},ks.length=vs.length→bx K ι Hb xs vs→wO ks xs k=some x→∃v,valV (ks.zip vs) k=some v∧RV K ι Hb x v
 | [],xs,vs,x,_,_,h=>by simp[wO] at h
 | q::ks,[],vs,x,hl,r,h=>by simp[wO] at h
 | q::ks,e::ds,vs,x,hl,r,h=>by
  cases r with
  | cons rv rt=>
   have ih:=Mp (k:=k) (ks:=ks) (x:=x) (by simpa using hl) rt
   unfold wO at h ih
   unfold valV at ih ⊢
   simp only[List.zip_cons_cons,List.find?_cons] at h ⊢
   by_cases z:q=k
   ·simp only[z,decide_true,Option.map_some] at h ⊢
    cases h
    exact⟨_,rfl,rv⟩
   ·simp only[z,decide_false] at h ⊢
    exact ih h
theorem aq.bO (C:aq K A st σ H ts Hb ι) {xs:List R} (hr:Rt K σ ι Hb r v) (h:bO st r=some xs):∃a vs,v=.ref a∧H a=some (.lst vs)∧bx K ι Hb xs vs:=by
 unfold AL.bO at h
 cases q:aU st r with
 | none=>rw[q] at h;cases h
 | some b=>
  rw[q] at h
  cases b<;>first|cases h;done|skip
  cases h
  obtain⟨a,u,rfl,h1,⟨vs,rfl,q⟩,_⟩:=C.at hr q
  exact⟨a,vs,rfl,h1,q⟩
theorem aq.cI (C:aq K A st σ H ts Hb ι) {p:List Key×List R} (hr:Rt K σ ι Hb r v) (h:cI st r=some p):∃a vs,v=.ref a∧Rd H a (.dK (p.1.zip vs))∧p.1.length=vs.length∧bx K ι Hb p.2 vs:=by
 unfold AL.cI at h
 cases q:aU st r with
 | none=>rw[q] at h;cases h
 | some b=>
  rw[q] at h
  cases b<;>first|cases h;done|skip
  all_goals cases h
  ·obtain⟨a,u,rfl,h1,⟨vs,rfl,l,q⟩,_⟩:=C.at hr q
   exact⟨a,vs,rfl,.inl h1,l,q⟩
  ·obtain⟨a,u,rfl,h1,⟨od,vs,rfl,l,q⟩,_⟩:=C.at hr q
   exact⟨a,vs,rfl,.inr ⟨od,h1⟩,l,q⟩
theorem zm {α β:Type} (f:α→β) (l:List α) (i:Int):atI (l.map f) i=(atI l i).map f:=by
 unfold atI
 rw[List.length_map]
 cases ixN l.length i with
 | none=>rfl
 | some j=>simp
theorem cH:aR K (BZ K) bF:=by
 refine aR.or ?_ (aR.or (aR.inl ?_) (aR.or (aR.inr (aR.inr (aR.inr ?_))) (aR.or (aR.inl ?_) (aR.inr (aR.inr (aR.inr ?_))))))
 ·intro A st σ H ts Hb ι x y z v u Q C hx hy e p
  unfold jP at e
  cases x with
  | d x=>
   cases y with
   | d y=>
    cases x<;>cases y<;>first|cases e;done|skip
    ·rename_i s i
     have e:(if s.length≤16000000 then(atI s.cps.toList i).map fun c=>R.d (.str ⟨#[c]⟩) else none)=some z:=e
     by_cases hl:s.length≤16000000
     ·rw[if_pos hl] at e
      obtain⟨c,hc,rfl⟩:=Option.map_eq_some_iff.mp e
      exact .inr (.inr (.inl ⟨s,i,c,hx,hy,by rw[sizeLine_eq];omega,hc,p _ _ (C.fB (by unfold Rp;rfl))⟩))
     ·rw[if_neg hl] at e;cases e
    ·rename_i ds i
     obtain⟨c,hc,rfl⟩:=Option.map_eq_some_iff.mp e
     have hx:Rp K Hb (.tup ds) v:=hx
     unfold Rp at hx
     obtain⟨a,vs,rfl,s,r⟩:=hx
     obtain⟨w,hw,rw'⟩:=Mf r hc
     exact .inr (.inl ⟨a,vs,i,w,rfl,hy,C.bH.rl.t s,hw,p _ _ (C.fB rw')⟩)
    ·rename_i ns i
     obtain⟨c,hc,rfl⟩:=Option.map_eq_some_iff.mp e
     have hx:Rp K Hb (.cM ns) v:=hx
     unfold Rp at hx
     obtain⟨a,rfl,s⟩:=hx
     exact .inl ⟨a,_,i,.int c,rfl,hy,C.bH.rl.l s,by rw[zm,hc];rfl,p _ _ (C.fB (by unfold Rp;rfl))⟩
   | o n=>cases x<;>cases e
   | w i=>cases x<;>cases e
  | o n=>cases e
  | w i=>cases e
 ·intro A st σ H ts Hb ι x y z v u Q C hx hy e p
  unfold lV at e
  cases y with
  | d y=>
   cases y<;>first|cases e;done|skip
   rename_i i
   obtain⟨ds,h1,e⟩:=Option.bind_eq_some_iff.mp e
   obtain⟨c,hc,rfl⟩:=Option.map_eq_some_iff.mp e
   obtain⟨a,vs,rfl,s,r⟩:=C.bT hx h1
   obtain⟨w,hw,rw'⟩:=Mf r hc
   exact⟨a,vs,i,w,rfl,hy,.inl s,hw,p _ _ (C.fB rw')⟩
  | o n=>cases e
  | w i=>cases e
 ·intro A st σ H ts Hb ι x y z v u Q C hx hy e p
  unfold m9 at e
  cases y with
  | d y=>
   obtain⟨q,h1,e⟩:=Option.bind_eq_some_iff.mp e
   obtain⟨k,h2,e⟩:=Option.bind_eq_some_iff.mp e
   obtain⟨c,hc,rfl⟩:=Option.map_eq_some_iff.mp e
   obtain⟨a,vs,rfl,s,l,r⟩:=C.eX hx h1
   obtain⟨w,hw,rw'⟩:=(Mh (k:=k) l r).1 c hc
   have hy:Rp K Hb y u:=hy
   rw[mH h2] at hy
   exact⟨a,w,rfl,.inl ⟨_,k,s,oO hy,hw.symm⟩,p _ _ (C.fB rw')⟩
  | o n=>cases e
  | w i=>cases e
 ·intro A st σ H ts Hb ι x y z v u Q C hx hy e p
  unfold qX at e
  cases y with
  | d y=>
   cases y<;>first|cases e;done|skip
   rename_i i
   obtain⟨ds,h1,hc⟩:=Option.bind_eq_some_iff.mp e
   obtain⟨a,vs,rfl,s,r⟩:=C.bO hx h1
   obtain⟨w,hw,rw'⟩:=r.atI hc
   exact⟨a,vs,i,w,rfl,hy,.inl (.inl s),hw,p _ _ (C.one (qN rw'))⟩
  | o n=>cases e
  | w i=>cases e
 ·intro A st σ H ts Hb ι x y z v u Q C hx hy e p
  unfold wQ at e
  cases y with
  | d y=>
   obtain⟨q,h1,e⟩:=Option.bind_eq_some_iff.mp e
   obtain⟨k,h2,hc⟩:=Option.bind_eq_some_iff.mp e
   obtain⟨a,vs,rfl,s,l,r⟩:=C.cI hx h1
   obtain⟨w,hw,rw'⟩:=Mp (k:=k) l r hc
   have hy:Rp K Hb y u:=hy
   rw[mH h2] at hy
   exact⟨a,w,rfl,.inl ⟨_,k,s,oO hy,hw.symm⟩,p _ _ (C.one (qN rw'))⟩
  | o n=>cases e
  | w i=>cases e
end
def jd (st:ST):R→Option (List D)
 | .d (.tup ds)=>some ds
 | r=>bT st r
def Bq (neg:Bool):K2:=fun st x y=>(snap st x).bind fun a=>(jd st y).bind fun ds=>if cX a&&ds.all cX then some (.d (.bl (if neg then !ds.any (fun z=>dN z a) else ds.any (fun z=>dN z a)))) else none
def QG (neg:Bool):K2:=fun st x y=>(snap st x).bind fun a=>(snap st y).bind fun b=>match b with
 | .lst ds=>if fu a&&fu (.lst ds) then some (.d (.bl (if neg then !ds.any (fun z=>dN z a) else ds.any (fun z=>dN z a)))) else none
 | _=>none
def wR (neg:Bool):K2:=fun st x y=>match x with
 | .d a=>(keyD a).bind fun k=>(eX st y).bind fun p=>some (.d (.bl (if neg then !decide (k∈p.1) else decide (k∈p.1))))
 | _=>none
def Ih (neg:Bool):K2:=fun st x y=>match x with
 | .d a=>(keyD a).bind fun k=>(cI st y).bind fun p=>some (.d (.bl (if neg then !decide (k∈p.1) else decide (k∈p.1))))
 | _=>none
def Ii (s:Str):Option Nat:=match s.cps.toList with
 | [c]=>some c
 | _=>none
def wU (neg:Bool):K2:=aK fun x y=>match x,y with
 | .str s,.str t=>(Ii s).map fun c=>.bl (if neg then !decide (c∈t.cps.toList) else decide (c∈t.cps.toList))
 | _,_=>none
def kIn (neg:Bool):K2:=(wU neg).or ((Bq neg).or ((wR neg).or ((QG neg).or (Ih neg))))
section
variable {K:PySem.W.Frag} {A:Ac} {st:ST} {σ:L2.St} {H Hb:Hp} {ts:List Tp} {ι:List Addr} {r:R} {v:V}
theorem Mq {x:D} {v:V} (h:cX x=true) (hr:Rp K Hb x v):flatV v=true:=by
 cases x<;>first|(simp[cX] at h;done)|skip
 ·cases (show v=.non from hr);rfl
 ·cases (Rp.jU hr);rfl
 ·cases (Rp.jA hr);rfl
 ·cases (Rp.dD hr);rfl
theorem Xy {x y:D} {v u:V} (hx:cX x=true) (hy:cX y=true) (rx:Rp K Hb x v) (ry:Rp K H y u):L2.eqV v u=dN x y:=by
 cases x<;>first|(simp[cX] at hx;done)|skip
 all_goals
  cases y<;>first|(simp[cX] at hy;done)|skip
 all_goals
  first
  | (cases (show v=.non from rx))
  | (cases (Rp.jU rx))
  | (cases (Rp.jA rx))
  | (cases (Rp.dD rx))
 all_goals
  first
  | (cases (show u=.non from ry))
  | (cases (Rp.jU ry))
  | (cases (Rp.jA ry))
  | (cases (Rp.dD ry))
 all_goals rfl
theorem La:∀{ds:List D} {vs:List V},ds.all cX=true→ak K Hb ds vs→vs.all flatV=true
 | [],vs,_,r=>by rw[ak.mX r];rfl
 | d::ds,vs,h,r=>by
  obtain⟨v,t,rfl,p,q⟩:=ak.mU r
  rw[List.all_cons,Bool.and_eq_true] at h
  rw[List.all_cons,Mq h.1 p,La h.2 q];rfl
theorem Ld {x:D} {u:V} (hx:cX x=true) (rx:Rp K H x u):∀{ds:List D} {vs:List V},ds.all cX=true→ak K Hb ds vs→L2.inV u vs=ds.any (fun z=>dN z x)
 | [],vs,_,r=>by rw[ak.mX r];rfl
 | d::ds,vs,h,r=>by
  obtain⟨v,t,rfl,p,q⟩:=ak.mU r
  rw[List.all_cons,Bool.and_eq_true] at h
  have ih:=Ld hx rx h.2 q
  unfold L2.inV at ih ⊢
  rw[List.any_cons,List.any_cons,ih,Xy h.1 hx p rx]
theorem Fx {x:D} (hx:bA x=true):∀{ds:List D},fP ds=true→((dG ds).any fun z=>PyData.eqv z (toPy x))=ds.any (fun z=>dN z x)
 | [],_=>by unfold dG;rfl
 | d::ds,h=>by
  simp only[fP,Bool.and_eq_true] at h
  simp only[dG,List.any_cons]
  rw[zL d x h.1 hx,Fx hx h.2]
theorem aq.jd (C:aq K A st σ H ts Hb ι) {ds:List D} (hr:Rt K σ ι Hb r v) (h:jd st r=some ds):∃a vs,v=.ref a∧(SqL K H a vs∨SqT K H a vs)∧ak K Hb ds vs:=by
 have key:AL.bT st r=some ds→∃a vs,v=.ref a∧(SqL K H a vs∨SqT K H a vs)∧ak K Hb ds vs:=fun h=>by
  obtain⟨a,vs,e,s,q⟩:=C.bT hr h
  exact⟨a,vs,e,.inl (.inl s),q⟩
 cases r with
 | d x=>
  cases x<;>first|exact key h|skip
  cases h
  have hr:Rp K Hb (.tup ds) v:=hr
  unfold Rp at hr
  obtain⟨a,vs,rfl,s,q⟩:=hr
  exact⟨a,vs,rfl,.inr (C.bH.rl.t s),q⟩
 | o n=>exact key h
 | w i=>exact key h
theorem Mr {ks:List Key} {vs:List V} {k:Key} (hl:ks.length=vs.length):(valV (ks.zip vs) k).isSome=decide (k∈ks):=by
 induction ks generalizing vs with
 | nil=>simp[valV]
 | cons q ks ih=>
  cases vs with
  | nil=>simp at hl
  | cons w vs=>
   have ih:=ih (vs:=vs) (by simpa using hl)
   unfold valV at ih ⊢
   simp only[List.zip_cons_cons,List.find?_cons,List.mem_cons]
   by_cases z:q=k
   ·simp[z]
   ·have z':¬k=q:=fun e=>z e.symm
    simp only[z,decide_false,z',false_or]
    exact ih
theorem ZM {neg:Bool}:aR K (rSIn neg) (wU neg):=jc fun x y z e Hb H v u Q ex hv hu q=>by
 cases x<;>first|cases e;done|skip
 cases y<;>first|cases e;done|skip
 rename_i s t
 obtain⟨c,hc,rfl⟩:=Option.map_eq_some_iff.mp e
 have es:s=⟨#[c]⟩:=by
  unfold Ii at hc
  obtain⟨⟨l⟩⟩:=s
  match l,hc with
  | [c'],hc=>cases hc;rfl
 subst es
 exact⟨c,t,hv,hu,q _ fun _=>by unfold Rp;rfl⟩
theorem ZP {neg:Bool}:aR K (rIn K neg) (Bq neg):=fun A st σ H ts Hb ι x y z v u Q C hx hy e p=>by
 obtain⟨a,h1,e⟩:=Option.bind_eq_some_iff.mp e
 obtain⟨ds,h2,e⟩:=Option.bind_eq_some_iff.mp e
 obtain⟨hc,rfl⟩:=ite_some e
 rw[Bool.and_eq_true] at hc
 have hv:=C.snap hx h1
 obtain⟨q,vs,rfl,s,r⟩:=C.jd hy h2
 refine⟨q,vs,rfl,s,Mq hc.1 hv,La hc.2 r,p _ _ (C.fB ?_)⟩
 unfold Rp;rw[Ld hc.1 hv hc.2 r]
theorem ZQ {neg:Bool}:aR K (wJ neg) (wR neg):=fun A st σ H ts Hb ι x y z v u Q C hx hy e p=>by
 unfold wR at e
 cases x with
 | d a=>
  obtain⟨k,h1,e⟩:=Option.bind_eq_some_iff.mp e
  obtain⟨q,h2,e⟩:=Option.bind_eq_some_iff.mp e
  cases e
  obtain⟨a',vs,rfl,s,l,r⟩:=C.eX hy h2
  have hx:Rp K Hb a v:=hx
  rw[mH h1] at hx
  refine⟨a',valV (q.1.zip vs) k,rfl,.inl ⟨_,k,s,oO hx,rfl⟩,p _ _ (C.fB ?_)⟩
  rw[Mr l]
  unfold Rp;rfl
 | o n=>cases e
 | w i=>cases e
theorem ZR {neg:Bool}:aR K (wJ neg) (Ih neg):=fun A st σ H ts Hb ι x y z v u Q C hx hy e p=>by
 unfold Ih at e
 cases x with
 | d a=>
  obtain⟨k,h1,e⟩:=Option.bind_eq_some_iff.mp e
  obtain⟨q,h2,e⟩:=Option.bind_eq_some_iff.mp e
  cases e
  obtain⟨a',vs,rfl,s,l,r⟩:=C.cI hy h2
  have hx:Rp K Hb a v:=hx
  rw[mH h1] at hx
  refine⟨a',valV (q.1.zip vs) k,rfl,.inl ⟨_,k,s,oO hx,rfl⟩,p _ _ (C.fB ?_)⟩
  rw[Mr l]
  unfold Rp;rfl
 | o n=>cases e
 | w i=>cases e
theorem ZS {neg:Bool}:aR K (O2 K neg) (QG neg):=fun A st σ H ts Hb ι x y z v u Q C hx hy e p=>by
 obtain⟨a,h1,e⟩:=Option.bind_eq_some_iff.mp e
 obtain⟨b,h2,e⟩:=Option.bind_eq_some_iff.mp e
 cases b<;>first|cases e;done|skip
 rename_i ds
 obtain⟨hc,rfl⟩:=ite_some e
 rw[Bool.and_eq_true] at hc
 have ha:=iY hc.1
 have hb:=iY hc.2
 have d1:=qM a v ha.1 (C.snap hx h1)
 have d2:=qM (.lst ds) u hb.1 (C.snap hy h2)
 have e2:toPy (.lst ds)=.list (dG ds):=by simp only[toPy]
 have s2:=pP hb.1 hb.2
 rw[e2] at d2 s2
 have hb':fP ds=true:=by have:=hb.1;simp only[bA] at this;exact this
 cases neg with
 | false=>
  refine⟨toPy a,dG ds,d1,d2,pP ha.1 ha.2,s2,p _ _ (C.fB ?_)⟩
  unfold Rp;rw[Fx ha.1 hb'];rfl
 | true=>
  refine⟨toPy a,dG ds,d1,d2,pP ha.1 ha.2,s2,p _ _ (C.fB ?_)⟩
  unfold Rp;rw[Fx ha.1 hb'];rfl
theorem Br {neg:Bool}:aR K (rK K neg) (kIn neg):=
 aR.or (aR.inr (aR.inr (aR.inl ZM))) (aR.or (aR.inl ZP) (aR.or (aR.inr (aR.inl ZQ)) (aR.or (aR.inr (aR.inr (aR.inr ZS))) (aR.inr (aR.inl ZR)))))
end
def QH:R→Option Bool
 | .d (.bl b)=>some b
 | _=>none
def tF (f:M R):M Bool:=f.of fun _ r=>QH r
def rN (st:ST):R→Option Bool
 | .d .non=>some false
 | .d (.bl b)=>some b
 | .d (.int i)=>some (i != 0)
 | .d (.str s)=>if s.length≤16000000 then some ((s.length:Int) != 0) else none
 | r=>(jd st r).map fun ds=>!ds.isEmpty
def tR (f:M R):M Bool:=f.of rN
def jE (f g:M Bool):M Bool:=f.bind fun b=>if b then M.ret true else g
def jW (f:M Bool):M Bool:=f.bind fun b=>M.ret (!b)
def xM (f g:M R):M R:=(tF f).bind fun b=>if b then g else M.ret (.d (.bl false))
def Cg (f:M R):M R:=(tF f).bind fun b=>M.ret (.d (.bl (!b)))
def o8 (k l:K2) (f g h:M R):M R:=f.bind fun x=>g.bind fun y=>fun st=>match k st x y with
 | some (.d (.bl true))=>(h.bind fun w st'=>(l st' y w).map fun z=>.ok z st') st
 | some (.d (.bl false))=>some (.ok (.d (.bl false)) st)
 | _=>none
section
variable {K:PySem.W.Frag} {W:WX} {te ta tb tc:TE} {tt tu:TT} {f g h:M R} {t u:M Bool}
theorem Xz {σ:L2.St} {ι:List Addr} {Hb:Hp} {r:R} {b:Bool} {v:V} (h:QH r=some b) (hr:Rt K σ ι Hb r v):v=.bl b:=by
 cases r with
 | d x=>cases x<;>first|cases h;done|(cases h;exact hr)
 | o n=>cases h
 | w i=>cases h
theorem dB (hf:XE K W te f):XT K W (tTest te) (tF f):=fun A st σ H ts C Q y hy p=>by
 rcases ju hy with ⟨r,s1,b,h1,h2,rfl⟩|⟨x,s1,h1,rfl⟩
 ·refine hf A st σ H ts C _ _ h1 fun v H1 ⟨Hb,ι,C1⟩=>⟨b,Xz h2 (C1.tmp (rt K σ r v) (by simp)),p H1 ⟨Hb,ι,C1.temps fun q hq=>C1.tmp q (by simp[hq])⟩⟩
 ·exact hf A st σ H ts C _ _ h1 p
theorem aq.rN {A:Ac} {st:ST} {σ:L2.St} {H Hb:Hp} {ts:List Tp} {ι:List Addr} {r:R} {v:V} {b:Bool} (C:aq K A st σ H ts Hb ι) (hr:Rt K σ ι Hb r v) (h:rN st r=some b):TruV K v H b:=by
 have key:(AL.jd st r).map (fun ds=>!ds.isEmpty)=some b→TruV K v H b:=fun h=>by
  obtain⟨ds,hd,rfl⟩:=Option.map_eq_some_iff.mp h
  obtain⟨a,vs,rfl,s,q⟩:=C.jd hr hd
  have e:(!ds.isEmpty)=!vs.isEmpty:=by
   have:=q.len
   cases ds<;>cases vs<;>first|rfl|(simp at this)
  rw[e]
  rcases s with s|s
  ·exact .inl ⟨vs,s,rfl⟩
  ·exact .inr (.inl ⟨vs,s,rfl⟩)
 cases r with
 | d x=>
  cases x<;>first|exact key h|skip
  ·cases h;cases (show v=.non from hr);rfl
  ·cases h;cases (Rp.jU (K:=K) (H:=Hb) hr);rfl
  ·cases h;cases (Rp.jA (K:=K) (H:=Hb) hr);rfl
  ·obtain⟨hl,rfl⟩:=ite_some h
   cases (Rp.dD (K:=K) (H:=Hb) hr)
   exact⟨by rw[sizeLine_eq];omega,rfl⟩
 | o n=>exact key h
 | w i=>exact key h
theorem vY (hf:XE K W te f):XT K W (tTru K te) (tR f):=fun A st σ H ts C Q y hy p=>by
 rcases ju hy with ⟨r,s1,b,h1,h2,rfl⟩|⟨x,s1,h1,rfl⟩
 ·refine hf A st σ H ts C _ _ h1 fun v H1 ⟨Hb,ι,C1⟩=>⟨b,C1.rN (C1.tmp (rt K σ r v) (by simp)) h2,p H1 ⟨Hb,ι,C1.temps fun q hq=>C1.tmp q (by simp[hq])⟩⟩
 ·exact hf A st σ H ts C _ _ h1 p
theorem uw (ht:XT K W tt t) (hu:XT K W tu u):XT K W (tOr tt tu) (jE t u):=fun A st σ H ts C Q y hy p=>by
 rcases cD hy with ⟨b,s1,h1,h2⟩|⟨x,s1,h1,rfl⟩
 ·refine ht A st σ H ts C _ _ h1 fun H1 C1=>?_
  cases b with
  | true=>rw[if_pos rfl] at h2 ⊢;cases h2;exact p H1 C1
  | false=>rw[if_neg Bool.false_ne_true] at h2 ⊢;exact hu A s1 σ H1 ts C1 Q _ h2 p
 ·exact ht A st σ H ts C _ _ h1 p
theorem oA (ht:XT K W tt t):XT K W (tNot tt) (jW t):=fun A st σ H ts C Q y hy p=>by
 rcases cD hy with ⟨b,s1,h1,h2⟩|⟨x,s1,h1,rfl⟩
 ·cases h2
  exact ht A st σ H ts C _ _ h1 fun H1 C1=>p H1 C1
 ·exact ht A st σ H ts C _ _ h1 p
theorem zM:XT K W tYes (M.ret true):=fun A st σ H ts C Q y hy p=>by cases hy;exact p H C
theorem Cf.bl {A:Ac} {st:ST} {σ:L2.St} {H:Hp} {ts:List Tp} {b:Bool} (C:Cf K A st σ H ts):Cf K A st σ H (rt K σ (.d (.bl b)) (.bl b)::ts):=C.temps fun q hq=>(List.mem_cons.mp hq).elim (fun e=>.inr fun ι Hb=>by rw[e];show Rp K Hb _ _;unfold Rp;rfl) .inl
theorem XC (hf:XE K W ta f) (hg:XE K W tb g):XE K W (tAndV ta tb) (xM f g):=fun A st σ H ts C Q y hy p=>by
 rcases cD hy with ⟨b,s1,h1,h2⟩|⟨x,s1,h1,rfl⟩
 ·refine dB hf A st σ H ts C (fun b H1=>if b=true then tb σ H1 Q else Q (.bl false) H1) _ h1 fun H1 C1=>?_
  cases b with
  | true=>rw[if_pos rfl] at h2 ⊢;exact hg A s1 σ H1 ts C1 Q _ h2 p
  | false=>rw[if_neg Bool.false_ne_true] at h2 ⊢;cases h2;exact p _ H1 C1.bl
 ·exact dB hf A st σ H ts C (fun b H1=>if b=true then tb σ H1 Q else Q (.bl false) H1) _ h1 p
theorem XF (hf:XE K W ta f):XE K W (tNotV ta) (Cg f):=fun A st σ H ts C Q y hy p=>by
 rcases cD hy with ⟨b,s1,h1,h2⟩|⟨x,s1,h1,rfl⟩
 ·cases h2
  exact dB hf A st σ H ts C (fun b H1=>Q (.bl (!b)) H1) _ h1 fun H1 C1=>p _ H1 C1.bl
 ·exact dB hf A st σ H ts C (fun b H1=>Q (.bl (!b)) H1) _ h1 p
theorem zp {r r':R2} {k l:K2} (hk:aR K r k) (hl:aR K r' l) (hf:XE K W ta f) (hg:XE K W tb g) (hh:XE K W tc h):XE K W (tChain r r' ta tb tc) (o8 k l f g h):=fun A st σ H ts C Q y hy p=>by
 rcases cD hy with ⟨x,s1,h1,h2⟩|⟨x,s1,h1,rfl⟩
 ·refine hf A st σ H ts C _ _ h1 fun v H1 C1=>?_
  rcases cD h2 with ⟨z,s2,h3,h4⟩|⟨x,s2,h3,rfl⟩
  ·refine hg A s1 σ H1 _ C1 _ _ h3 fun u H2 C2=>?_
   obtain⟨Hb,ι,C2⟩:=C2
   have go:∀b,k s2 x z=some (.d (.bl b))→(∀H3,Cf K A s2 σ H3 (rt K σ z u::ts)→if b=true then tc σ H3 fun w' H4=>r' u w' H4 Q else Q (.bl false) H3)→
     r v u H2 fun z H3=>∃k,z=.bl k∧(if k=true then tc σ H3 fun w' H4=>r' u w' H4 Q else Q (.bl false) H3):=fun b e q=>
    hk A s2 σ H2 (rt K σ z u::ts) Hb ι x z _ v u _ (C2.temps fun q hq=>C2.tmp q (by rcases List.mem_cons.mp hq with h|h<;>simp[h])) (C2.tmp (rt K σ x v) (by simp)) (C2.tmp (rt K σ z u) (by simp)) e fun w H3 C3=>by
     obtain⟨iU,ji,C3⟩:=C3
     have:w=.bl b:=C3.tmp (rt K σ (.d (.bl b)) w) (by simp)
     exact⟨b,this,q H3 ⟨iU,ji,C3.temps fun q hq=>C3.tmp q (by simp[hq])⟩⟩
   cases e:k s2 x z with
   | none=>rw[e] at h4;cases h4
   | some w=>
    rw[e] at h4
    cases w with
    | o n=>cases h4
    | w i=>cases h4
    | d dd=>
     cases dd<;>first|cases h4;done|skip
     rename_i b
     cases b with
     | false=>
      cases h4
      refine go false e fun H3 C3=>?_
      rw[if_neg Bool.false_ne_true]
      exact p _ H3 C3.drop.bl
     | true=>
      refine go true e fun H3 C3=>?_
      rw[if_pos rfl]
      rcases cD (show (h.bind fun w st'=>(l st' z w).map fun z=>Rx.ok z st') s2=some y from h4) with ⟨w,s3,h5,h6⟩|⟨x,s3,h5,rfl⟩
      ·refine hh A s2 σ H3 _ C3 _ _ h5 fun w' H4 C4=>?_
       obtain⟨Hb4,ι4,C4⟩:=C4
       cases e2:l s3 z w with
       | none=>rw[e2] at h6;cases h6
       | some o=>
        rw[e2] at h6;cases h6
        exact hl A s3 σ H4 ts Hb4 ι4 z w o u w' Q (C4.temps fun q hq=>C4.tmp q (by simp[hq])) (C4.tmp (rt K σ z u) (by simp)) (C4.tmp (rt K σ w w') (by simp)) e2 p
      ·exact hh A s2 σ H3 _ C3 _ _ h5 fun cls d H4 X=>p cls d H4 X.drop
  ·exact hg A s1 σ H1 _ C1 _ _ h3 fun cls d H2 X=>p cls d H2 X.drop
 ·exact hf A st σ H ts C _ _ h1 p
end
def dZ:R→Bool
 | .w _=>false
 | _=>true
def wV (rs:List R):Option Ob:=match cQ rs with
 | some ds=>some (.lst ds)
 | none=>if rs.all dZ then some (.bO rs) else none
def qY (f:M (List R)):M R:=f.of fun _ rs=>(cQ rs).bind fun ds=>if ds.length≤16000000 then some (.d (.tup ds)) else none
def kZ (f:M (List R)):M Ob:=f.of fun _ rs=>if rs.length≤16000000 then wV rs else none
def lZ (f:M Ob):M R:=f.of fun _ b=>(fY b).map .d
def o_ (f:M Ob):M R:=f.bind fun b st=>some (.ok (.o st.h.length) ⟨st.s,st.h++[b]⟩)
section
variable {K:PySem.W.Frag} {W:WX} {A:Ac} {st:ST} {σ:L2.St} {H Hb:Hp} {ts:List Tp} {ι:List Addr} {te ta tb:TE} {tar:TA} {f g:M R} {fa:M (List R)} {n:M Ob}
theorem Gf:∀{rs:List R} {ds:List D} {vs:List V},cQ rs=some ds→Paired (fun r v=>Rt K σ ι Hb r v) rs vs→ak K Hb ds vs
 | [],ds,vs,h,r=>by cases h;cases r;exact ak.nil
 | .d x::rs,ds,vs,h,r=>by
  unfold cQ at h
  cases q:cQ rs with
  | none=>rw[q] at h;cases h
  | some es=>
   rw[q] at h;cases h
   cases r with
   | cons a b=>exact ak.cons a (Gf q b)
 | .o _::_,ds,vs,h,r=>by cases h
 | .w _::_,ds,vs,h,r=>by cases h
theorem Gg:∀{rs:List R} {vs:List V},rs.all dZ=true→Paired (fun r v=>Rt K σ ι Hb r v) rs vs→bx K ι Hb rs vs
 | [],vs,h,r=>by cases r;exact .nil
 | x::rs,vs,h,r=>by
  cases r with
  | cons a b=>
   rw[List.all_cons,Bool.and_eq_true] at h
   refine .cons ?_ (Gg h.2 b)
   cases x with
   | d x=>exact a
   | o n=>exact a
   | w i=>exact absurd h.1 Bool.false_ne_true
theorem Ao (hf:XA K W tar fa):XE K W (tTup tar) (qY fa):=fun A st σ H ts C Q y hy p=>by
 rcases ju hy with ⟨rs,s1,b,h1,h2,rfl⟩|⟨x,s1,h1,rfl⟩
 ·obtain⟨ds,h3,h4⟩:=Option.bind_eq_some_iff.mp h2
  obtain⟨hl,rfl⟩:=ite_some h4
  refine hf A st σ H ts C _ _ h1 fun vs H1 ⟨Hb,ι,C1⟩=>?_
  have r:=Gf h3 (C1.tmp (iT K σ rs vs) (by simp))
  exact⟨by rw[← r.len,sizeLine_eq];omega,fun q hq=>p _ _ ((C1.temps fun q hq=>C1.tmp q (by simp[hq])).newT hq r)⟩
 ·exact hf A st σ H ts C _ _ h1 p
theorem qF (hf:XA K W tar fa):XN K W (tLst tar) (kZ fa):=fun A st σ H ts C Q y hy p=>by
 rcases ju hy with ⟨rs,s1,b,h1,h2,rfl⟩|⟨x,s1,h1,rfl⟩
 ·refine hf A st σ H ts C _ _ h1 fun vs H1 ⟨Hb,ι,C1⟩=>?_
  have r:Paired (fun r v=>Rt K σ ι Hb r v) rs vs:=C1.tmp (iT K σ rs vs) (by simp)
  have C2:aq K A s1 σ H1 ts Hb ι:=C1.temps fun q hq=>C1.tmp q (by simp[hq])
  have h2:(if rs.length≤16000000 then wV rs else none)=some b:=h2
  by_cases hl:rs.length≤16000000
  ·rw[if_pos hl] at h2
   have hlen:=Paired.length r
   refine⟨by rw[← hlen,sizeLine_eq];omega,fun q hq=>p _ _ ?_⟩
   unfold wV at h2
   cases e:cQ rs with
   | some ds=>rw[e] at h2;cases h2;exact C2.made hq ⟨vs,rfl,Gf e r⟩
   | none=>
    rw[e] at h2
    obtain⟨hw,rfl⟩:=ite_some h2
    exact C2.made hq ⟨vs,rfl,Gg hw r⟩
  ·rw[if_neg hl] at h2;cases h2
 ·exact hf A st σ H ts C _ _ h1 p
theorem qZ (hn:XN K W te n):XE K W te (lZ n):=fun A st σ H ts C Q y hy p=>by
 rcases ju hy with ⟨b,s1,r,h1,h2,rfl⟩|⟨x,s1,h1,rfl⟩
 ·obtain⟨d,hd,rfl⟩:=Option.map_eq_some_iff.mp h2
  exact hn A st σ H ts C _ _ h1 fun v H1 C1=>p v H1 (C1.frz fun ι Hb a u hu hb=>G6 hd hu (Ex.new hb).rl upd_same)
 ·exact hn A st σ H ts C _ _ h1 p
theorem wW (hn:XN K W te n):XE K W te (o_ n):=fun A st σ H ts C Q y hy p=>by
 rcases cD hy with ⟨b,s1,h1,h2⟩|⟨x,s1,h1,rfl⟩
 ·cases h2
  exact hn A st σ H ts C _ _ h1 fun v H1 C1=>p v H1 C1.Ie
 ·exact hn A st σ H ts C _ _ h1 p
def Bs:M Ob:=M.ret (.aM [] [])
theorem NT:XN K W tDNewK Bs:=fun A st σ H ts C Q y hy p=>by
 cases hy
 obtain⟨Hb,ι,C⟩:=C
 exact fun q hq=>p _ _ (C.made hq ⟨[],rfl,rfl,ak.nil⟩)
def rO (K:PySem.W.Frag) (r:List V→Hp→VK→Prop) (g:ST→List R→Option R):Prop:=∀A st σ H ts Hb ι xs z vs (Q:VK),aq K A st σ H ts Hb ι→Paired (fun r v=>Rt K σ ι Hb r v) xs vs→g st xs=some z→(∀w H2,Cf K A st σ H2 (rt K σ z w::ts)→Q w H2)→r vs H Q
def Ro (K:PySem.W.Frag) (r:List V→Hp→VK→Prop) (g:ST→List R→Option Ob):Prop:=∀A st σ H ts Hb ι xs z vs (Q:VK),aq K A st σ H ts Hb ι→Paired (fun r v=>Rt K σ ι Hb r v) xs vs→g st xs=some z→(∀w H2,eU K A st σ H2 ts z w→Q w H2)→r vs H Q
theorem dJ {r:List V→Hp→VK→Prop} {k:ST→List R→Option R} (hk:rO K r k) (hf:XA K W tar fa):XE K W (tCB r tar) (fa.of k):=fun A st σ H ts C Q y hy p=>by
 rcases ju hy with ⟨rs,s1,b,h1,h2,rfl⟩|⟨x,s1,h1,rfl⟩
 ·exact hf A st σ H ts C _ _ h1 fun vs H1 ⟨Hb,ι,C1⟩=>hk A s1 σ H1 ts Hb ι rs b vs Q (C1.temps fun q hq=>C1.tmp q (by simp[hq])) (C1.tmp (iT K σ rs vs) (by simp)) h2 p
 ·exact hf A st σ H ts C _ _ h1 p
theorem Ho {r:List V→Hp→VK→Prop} {k:ST→List R→Option Ob} (hk:Ro K r k) (hf:XA K W tar fa):XN K W (tCB r tar) (fa.of k):=fun A st σ H ts C Q y hy p=>by
 rcases ju hy with ⟨rs,s1,b,h1,h2,rfl⟩|⟨x,s1,h1,rfl⟩
 ·exact hf A st σ H ts C _ _ h1 fun vs H1 ⟨Hb,ι,C1⟩=>hk A s1 σ H1 ts Hb ι rs b vs Q (C1.temps fun q hq=>C1.tmp q (by simp[hq])) (C1.tmp (iT K σ rs vs) (by simp)) h2 p
 ·exact hf A st σ H ts C _ _ h1 p
def Ij:D→Option Nat
 | .lst ds=>some ds.length
 | .tup ds=>some ds.length
 | .cM ns=>some ns.length
 | .str s=>if s.length≤16000000 then some s.length else none
 | .aM ks _=>some ks.length
 | _=>none
def kLen:ST→List R→Option R:=fun st xs=>match xs with
 | [x]=>((snap st x).bind Ij).map fun(n:Nat)=>R.d (.int (n:Int))
 | _=>none
def Hq:ST→List R→Option R:=fun st xs=>match xs with
 | [x]=>(bO st x).map fun ys=>R.d (.int (ys.length:Int))
 | _=>none
def iw:ST→List R→Option R:=fun st xs=>(kLen st xs).or (Hq st xs)
def fD:ST→List R→Option R:=fun _ xs=>match xs with
 | [.d (.int i)]=>some (.d (.int i))
 | [.d (.bl b)]=>some (.d (.int (if b then 1 else 0)))
 | _=>none
def tys:List String:=["int","bool","str","list","tuple","dict","NoneType"]
def isT (n m:String):Option Bool:=if tys.contains n&&tys.contains m then some (n == m || (n == "bool"&&m == "int")) else none
def uL:ST→List R→Option R:=fun st xs=>match xs with
 | [x,.d (.ty m)]=>(snap st x).bind fun a=>(Ca a).bind fun n=>(isT n m).map fun b=>.d (.bl b)
 | _=>none
theorem mV {F:R→V→Prop} {x:R} {vs:List V} (h:Paired F [x] vs):∃v,vs=[v]∧F x v:=by
 cases h with
 | cons a b=>cases b;exact⟨_,rfl,a⟩
theorem ZV {F:R→V→Prop} {x y:R} {vs:List V} (h:Paired F [x,y] vs):∃v u,vs=[v,u]∧F x v∧F y u:=by
 cases h with
 | cons a b=>obtain⟨u,rfl,c⟩:=mV b;exact⟨_,u,rfl,a,c⟩
theorem XH:rO K (uE K) kLen:=fun A st σ H ts Hb ι xs z vs Q C r e p=>by
 unfold kLen at e
 split at e
 ·rename_i x
  obtain⟨v,rfl,hr⟩:=mV r
  obtain⟨n,e1,rfl⟩:=Option.map_eq_some_iff.mp e
  clear e
  obtain⟨a,ha,e⟩:=Option.bind_eq_some_iff.mp e1
  have hv:=C.snap hr ha
  have fin:∀m:Nat,m=n→Q (.int m) H:=fun m hm=>by subst hm;exact p _ _ (C.fB (by unfold Rp;rfl))
  cases a<;>first|cases e;done|skip
  ·obtain⟨hl,rfl⟩:=ite_some e
   cases (Rp.dD hv)
   exact .inl ⟨_,_,rfl,⟨by rw[sizeLine_eq];omega,rfl⟩,fin _ rfl⟩
  ·cases e
   unfold Rp at hv
   obtain⟨a,us,rfl,s,rr⟩:=hv
   exact .inl ⟨_,_,rfl,.inl ⟨us,.inl s,rr.len⟩,fin _ rfl⟩
  ·cases e
   unfold Rp at hv
   obtain⟨a,us,rfl,s,rr⟩:=hv
   exact .inl ⟨_,_,rfl,.inr ⟨us,s,rr.len⟩,fin _ rfl⟩
  ·cases e
   unfold Rp at hv
   obtain⟨a,rfl,s⟩:=hv
   exact .inl ⟨_,_,rfl,.inl ⟨_,s,(List.length_map _).symm⟩,fin _ rfl⟩
  ·cases e
   unfold Rp at hv
   obtain⟨a,us,rfl,s,hl,rr⟩:=hv
   exact .inr ⟨a,_,rfl,s,fin _ (by rw[List.length_zip,← hl,Nat.min_self])⟩
 ·cases e
theorem XJ:rO K (uE K) Hq:=fun A st σ H ts Hb ι xs z vs Q C r e p=>by
 unfold Hq at e
 split at e
 ·rename_i x
  obtain⟨v,rfl,hr⟩:=mV r
  obtain⟨ys,e1,rfl⟩:=Option.map_eq_some_iff.mp e
  obtain⟨a,us,rfl,s,rr⟩:=C.bO hr e1
  exact .inl ⟨_,ys.length,rfl,.inl ⟨us,.inl (.inl s),Paired.length rr⟩,p _ _ (C.fB (by unfold Rp;rfl))⟩
 ·cases e
theorem x_len:rO K (uE K) iw:=fun A st σ H ts Hb ι xs z vs Q C r e p=>by
 unfold iw at e
 cases q:kLen st xs with
 | some w=>rw[q] at e;cases e;exact XH A st σ H ts Hb ι xs _ vs Q C r q p
 | none=>rw[q] at e;exact XJ A st σ H ts Hb ι xs z vs Q C r e p
theorem gR:rO K HX fD:=fun A st σ H ts Hb ι xs z vs Q C r e p=>by
 unfold fD at e
 split at e
 ·cases e
  obtain⟨v,rfl,hr⟩:=mV r
  cases (Rp.jA (K:=K) (H:=Hb) hr)
  exact .inl ⟨_,rfl,p _ _ (C.fB (by unfold Rp;rfl))⟩
 ·cases e
  obtain⟨v,rfl,hr⟩:=mV r
  cases (Rp.jU (K:=K) (H:=Hb) hr)
  exact .inr ⟨_,rfl,p _ _ (C.fB (by unfold Rp;rfl))⟩
 ·cases e
theorem V_:∀n∈tys,∀m∈tys,kitB n m=some (n == m || (n == "bool"&&m == "int")):=by decide +kernel
theorem Pn:rO K (rIsi K) uL:=fun A st σ H ts Hb ι xs z vs Q C r e p=>by
 unfold uL at e
 split at e
 ·rename_i x m
  obtain⟨v,u,rfl,hv,hu⟩:=ZV r
  cases (show u=.ty m from hu)
  obtain⟨a,ha,e⟩:=Option.bind_eq_some_iff.mp e
  obtain⟨n,hn,e⟩:=Option.bind_eq_some_iff.mp e
  obtain⟨b,hb,rfl⟩:=Option.map_eq_some_iff.mp e
  have hq:=C.snap hv ha
  unfold isT at hb
  obtain⟨hc,rfl⟩:=ite_some hb
  rw[Bool.and_eq_true,List.contains_iff_mem,List.contains_iff_mem] at hc
  exact⟨v,.ty m,.type n,.type m,_,rfl,.ty m,Xx (Ex.refl _) hn hq,kit_ty (V_ n hc.1 m hc.2),p _ _ (C.fB (by unfold Rp;rfl))⟩
 ·cases e
def kList:ST→List R→Option Ob:=fun st xs=>match xs with
 | [x]=>match jd st x with
  | some ds=>some (.lst ds)
  | none=>(eX st x).map fun p=>.lst (p.1.map kD)
 | _=>none
theorem Gh:Ro K (Hi K) kList:=fun A st σ H ts Hb ι xs z vs Q C r e p=>by
 unfold kList at e
 split at e
 ·rename_i x
  obtain⟨v,rfl,hv⟩:=mV r
  split at e
  ·rename_i ds hds
   cases e
   obtain⟨a,us,rfl,s,q⟩:=C.jd hv hds
   exact .inl ⟨a,us,rfl,s,fun l hl=>p _ _ (C.made hl ⟨us,rfl,q⟩)⟩
  ·obtain⟨q,hq,rfl⟩:=Option.map_eq_some_iff.mp e
   obtain⟨a,us,rfl,s,hl,rr⟩:=C.eX hv hq
   exact .inr ⟨a,_,rfl,s,fun l hh=>p _ _ (C.made hh ⟨_,rfl,Mi hl⟩)⟩
 ·cases e
def kTuple:ST→List R→Option R:=fun st xs=>match xs with
 | [x]=>(jd st x).map fun ds=>.d (.tup ds)
 | _=>none
def oN:M (Option Int):=M.ret none
def oS (f:M R):M (Option Int):=f.of fun _ r=>match r with
 | .d (.int i)=>some (some i)
 | _=>none
def PoO (K:PySem.W.Frag) (W:WX) (A:Ac) (σ:L2.St) (ts:List Tp) (Q:Option Int→Hp→Prop):Rx (Option Int)→Prop
 | .ok b st=>∀H2,Cf K A st σ H2 ts→Q b H2
 | .ex x st=>∀cls d H2,XO K A ts x st cls d σ H2→W cls d σ H2
def XP (K:PySem.W.Frag) (W:WX) (to:TO) (f:M (Option Int)):Prop:=∀A st σ H ts,Cf K A st σ H ts→∀Q y,f st=some y→PoO K W A σ ts Q y→to σ H Q
theorem zq:XP K W tNoPart oN:=fun A st σ H ts C Q y hy p=>by cases hy;exact p H C
theorem zu (hf:XE K W te f):XP K W (tPart te) (oS f):=fun A st σ H ts C Q y hy p=>by
 rcases ju hy with ⟨r,s1,b,h1,h2,rfl⟩|⟨x,s1,h1,rfl⟩
 ·cases r with
  | o n=>cases h2
  | w i=>cases h2
  | d x=>
   cases x<;>first|cases h2;done|skip
   rename_i i
   cases h2
   refine hf A st σ H ts C _ _ h1 fun v H1 C1=>?_
   obtain⟨Hb,ι,C1⟩:=C1
   exact⟨i,C1.tmp (rt K σ (.d (.int i)) v) (by simp),p H1 ⟨Hb,ι,C1.temps fun q hq=>C1.tmp q (by simp[hq])⟩⟩
 ·exact hf A st σ H ts C _ _ h1 p
def Ci (K:PySem.W.Frag):V→Option Int→Option Int→Hp→VK→Prop:=fun x lo hi H Q=>rSlL K x lo hi H Q∨rSlA K x lo hi H Q
theorem ZW {X:Cx}:SlR X (Ci X.K):=SlR.or sl_list sl_tupA
def Jl (st:ST) (x:R) (lo hi:Option Int):Option R:=match x with
 | .d (.tup ds)=>some (.d (.tup (DL.cutD ds lo hi)))
 | x=>(bT st x).map fun ds=>.d (.lst (DL.cutD ds lo hi))
def rP (f:M R) (l h:M (Option Int)):M R:=f.bind fun x=>l.bind fun lo=>h.bind fun hi=>fun st=>(Jl st x lo hi).map fun z=>.ok z st
theorem Vl {ds:List D} {lo hi:Option Int} (h1:HT.sIx ds.length 0 lo=0) (h2:HT.sIx ds.length ds.length hi=ds.length):DL.cutD ds lo hi=ds:=by
 unfold DL.cutD;rw[h1,h2];simp
theorem Bt {tl th:TO} {l h:M (Option Int)} (hf:XE K W te f) (hl:XP K W tl l) (hh:XP K W th h):XE K W (tSl (Ci K) te tl th) (rP f l h):=fun A st σ H ts C Q y hy p=>by
 rcases cD hy with ⟨x,s1,h1,h2⟩|⟨x,s1,h1,rfl⟩
 ·refine hf A st σ H ts C _ _ h1 fun v H1 C1=>?_
  rcases cD h2 with ⟨lo,s2,h3,h4⟩|⟨x,s2,h3,rfl⟩
  ·refine hl A s1 σ H1 _ C1 _ _ h3 fun H2 C2=>?_
   rcases cD h4 with ⟨hi,s3,h5,h6⟩|⟨x,s3,h5,rfl⟩
   ·refine hh A s2 σ H2 _ C2 _ _ h5 fun H3 C3=>?_
    obtain⟨Hb,ι,C3⟩:=C3
    have hx:Rt K σ ι Hb x v:=C3.tmp (rt K σ x v) (by simp)
    have C4:aq K A s3 σ H3 ts Hb ι:=C3.temps fun q hq=>C3.tmp q (by simp[hq])
    cases e:Jl s3 x lo hi with
    | none=>rw[e] at h6;cases h6
    | some z=>
     rw[e] at h6;cases h6
     have go:(AL.bT s3 x).map (fun ds=>R.d (.lst (DL.cutD ds lo hi)))=some z→Ci K v lo hi H3 Q:=fun e=>by
      obtain⟨ds,hd,rfl⟩:=Option.map_eq_some_iff.mp e
      obtain⟨a,vs,rfl,s,r⟩:=C4.bT hx hd
      exact .inl ⟨a,vs,rfl,.inl s,fun q hq=>p _ _ (C4.newL hq (NP r))⟩
     cases x with
     | d x=>
      cases x<;>first|exact go e|skip
      rename_i ds
      cases e
      have hx:Rp K Hb (.tup ds) v:=hx
      have hx':=hx
      unfold Rp at hx
      obtain⟨a,vs,rfl,s,r⟩:=hx
      refine .inr ⟨a,vs,rfl,C4.bH.rl.t s,fun hq=>p _ _ (C4.fB ?_),fun _ q hq=>p _ _ (C4.newT hq (NP r))⟩
      rw[← r.len] at hq
      rw[Vl hq.1 hq.2];exact hx'
     | o n=>exact go e
     | w i=>exact go e
   ·exact hh A s2 σ H2 _ C2 _ _ h5 fun cls d H2 X=>p cls d H2 X.drop
  ·exact hl A s1 σ H1 _ C1 _ _ h3 fun cls d H2 X=>p cls d H2 X.drop
 ·exact hf A st σ H ts C _ _ h1 p
def fget (fs:List Str) (xs:List R) (f:Str):Option R:=(fs.zip xs).lookup f
def lW (Cs:List Addr) (nm:Str) (f:M R):M R:=f.of fun st r=>(inV st r).bind fun p=>if p.1∈Cs then fget p.2.1 p.2.2 nm else none
theorem Gi {nm:Str}:∀{fs:List Str} {xs:List R} {vs:List V} {x:R},fs.length=vs.length→bx K ι Hb xs vs→fget fs xs nm=some x→∃v,(fs.zip vs).lookup nm=some v∧RV K ι Hb x v
 | [],xs,vs,x,_,_,h=>by simp[fget] at h
 | q::fs,[],vs,x,hl,r,h=>by simp[fget] at h
 | q::fs,e::ds,vs,x,hl,r,h=>by
  cases r with
  | cons rv rt=>
   unfold fget at h
   simp only[List.zip_cons_cons,List.lookup] at h ⊢
   cases z:(nm == q) with
   | true=>rw[z] at h;cases h;exact⟨_,rfl,rv⟩
   | false=>rw[z] at h;exact Gi (by simpa using hl) rt h
theorem qQ {Cs:List Addr} {nm:Str} (hC:∀C∈Cs,Cls K C∧NoAttr K C nm) (hf:XE K W te f):XE K W (tFld K te nm) (lW Cs nm f):=fun A st σ H ts C Q y hy p=>by
 rcases ju hy with ⟨r,s1,b,h1,h2,rfl⟩|⟨x,s1,h1,rfl⟩
 ·refine hf A st σ H ts C _ _ h1 fun v H1 ⟨Hb,ι,C1⟩=>?_
  have C2:aq K A s1 σ H1 ts Hb ι:=C1.temps fun q hq=>C1.tmp q (by simp[hq])
  obtain⟨q,hq,h3⟩:=Option.bind_eq_some_iff.mp h2
  obtain⟨a,dx,vs,rfl,ha,hl,rr⟩:=C2.inV (C1.tmp (rt K σ r v) (by simp)) hq
  by_cases hm:q.1∈Cs
  ·rw[if_pos hm] at h3
   obtain⟨u,hu,ru⟩:=Gi hl rr h3
   exact⟨a,q.1,dx,_,u,rfl,ha,(hC _ hm).1,(hC _ hm).2,hu,p _ _ (C2.one (qN ru))⟩
  ·rw[if_neg hm] at h3;cases h3
 ·exact hf A st σ H ts C _ _ h1 p
end
inductive Rs where
 | nx (st:ST)|rt (r:R) (st:ST)|rn (b:Ob) (st:ST)|bk (st:ST)|ct (st:ST)|ex (x:XD) (st:ST)
abbrev S:=ST→Option Rs
section
variable (K:PySem.W.Frag) (W:WX)
def jX (A:Ac) (fs:List Tp) (T:Ends):Rs→Prop
 | .nx st=>∀σ H,Cf K A st σ H fs→T.nx σ H
 | .bk st=>∀σ H,Cf K A st σ H fs→T.bk σ H
 | .ct st=>∀σ H,Cf K A st σ H fs→T.ct σ H
 | .rt r st=>∀σ v H,Cf K A st σ H (rt K σ r v::fs)→T.rt v H
 | .rn b st=>∀σ v H,eU K A st σ H fs b v→T.rt v H
 | .ex x st=>∀cls d σ H,XO K A fs x st cls d σ H→W cls d σ H
def XS (ts:TS) (g:S):Prop:=∀A st σ H fs,Cf K A st σ H fs→∀T y,g st=some y→jX K W A fs T y→ts T σ H
def PoG (A:Ac) (σ:L2.St) (ts:List Tp) (Q:L2.St→Hp→Prop):Rx Unit→Prop
 | .ok _ st=>∀σ2 H2,Cf K A st σ2 H2 ts→Q σ2 H2
 | .ex x st=>∀cls d H2,XO K A ts x st cls d σ H2→W cls d σ H2
abbrev G:=R→M Unit
def XG (g:TG) (k:G):Prop:=∀A st σ H ts r v,Cf K A st σ H (rt K σ r v::ts)→∀Q y,k r st=some y→PoG K W A σ ts Q y→g v σ H Q
end
def aP:S:=fun st=>some (.nx st)
def au (a b:S):S:=fun st=>match a st with
 | some (.nx st')=>b st'
 | o=>o
def bY (t:M Bool) (a b:S):S:=fun st=>match t st with
 | some (.ok true st')=>a st'
 | some (.ok false st')=>b st'
 | some (.ex x st')=>some (.ex x st')
 | none=>none
def lK (f:M R):S:=fun st=>match f st with
 | some (.ok _ st')=>some (.nx st')
 | some (.ex x st')=>some (.ex x st')
 | none=>none
def cJ (f:M R):S:=fun st=>match f st with
 | some (.ok r st')=>some (.rt r st')
 | some (.ex x st')=>some (.ex x st')
 | none=>none
def bB (f:M R) (k:G):S:=fun st=>match f st with
 | some (.ok r st1)=>(match k r st1 with
  | some (.ok _ st2)=>some (.nx st2)
  | some (.ex x s)=>some (.ex x s)
  | none=>none)
 | some (.ex x s)=>some (.ex x s)
 | none=>none
def ni (i:Nat) (f:M Ob):S:=fun st=>match f st with
 | some (.ok b st')=>some (.nx ⟨st'.s.set i (.own b),st'.h⟩)
 | some (.ex x st')=>some (.ex x st')
 | none=>none
section
variable {K:PySem.W.Frag} {W:WX} {t1 t2:TS} {g1 g2:S} {tt:TT} {t:M Bool} {te to ti:TE} {f fo fi:M R} {n:M Ob} {g:TG} {k:G} {i:Nat}
theorem aV:XS K W tNext aP:=fun A st σ H fs C T y h p=>by cases h;exact p σ H C
theorem aD (h1:XS K W t1 g1) (h2:XS K W t2 g2):XS K W (tSeq t1 t2) (au g1 g2):=fun A st σ H fs C T y h p=>by
 unfold au at h
 cases e:g1 st with
 | none=>rw[e] at h;cases h
 | some z=>
  rw[e] at h
  refine h1 A st σ H fs C {T with nx:=t2 T} z e ?_
  cases z with
  | nx st'=>exact fun σ' H' C'=>h2 A st' σ' H' fs C' T y h p
  | rt r st'=>cases h;exact p
  | rn r st'=>cases h;exact p
  | bk st'=>cases h;exact p
  | ct st'=>cases h;exact p
  | ex x st'=>cases h;exact p
theorem eY (ht:XT K W tt t) (h1:XS K W t1 g1) (h2:XS K W t2 g2):XS K W (tIfS tt t1 t2) (bY t g1 g2):=fun A st σ H fs C T y h p=>by
 unfold bY at h
 cases e:t st with
 | none=>rw[e] at h;cases h
 | some z=>
  rw[e] at h
  cases z with
  | ex x st'=>cases h;exact ht A st σ H fs C _ _ e fun cls d H2 X=>p cls d σ H2 X
  | ok b st'=>
   refine ht A st σ H fs C _ _ e fun H1 C1=>?_
   cases b with
   | true=>rw[if_pos rfl];exact h1 A st' σ H1 fs C1 T y h p
   | false=>rw[if_neg Bool.false_ne_true];exact h2 A st' σ H1 fs C1 T y h p
theorem Gj (hf:XE K W te f):XS K W (tDrop te) (lK f):=fun A st σ H fs C T y h p=>by
 unfold lK at h
 cases e:f st with
 | none=>rw[e] at h;cases h
 | some z=>
  rw[e] at h
  cases z with
  | ex x st'=>cases h;exact hf A st σ H fs C _ _ e fun cls d H2 X=>p cls d σ H2 X
  | ok r st'=>cases h;exact hf A st σ H fs C _ _ e fun v H1 C1=>p σ H1 C1.drop
theorem d9 (hf:XE K W te f):XS K W (tRet te) (cJ f):=fun A st σ H fs C T y h p=>by
 unfold cJ at h
 cases e:f st with
 | none=>rw[e] at h;cases h
 | some z=>
  rw[e] at h
  cases z with
  | ex x st'=>cases h;exact hf A st σ H fs C _ _ e fun cls d H2 X=>p cls d σ H2 X
  | ok r st'=>cases h;exact hf A st σ H fs C _ _ e fun v H1 C1=>p σ v H1 C1
theorem bM (hf:XE K W te f) (hg:XG K W g k):XS K W (tAsg te g) (bB f k):=fun A st σ H fs C T y h p=>by
 unfold bB at h
 cases e:f st with
 | none=>rw[e] at h;cases h
 | some z=>
  rw[e] at h
  cases z with
  | ex x st'=>cases h;exact hf A st σ H fs C _ _ e fun cls d H2 X=>p cls d σ H2 X
  | ok r st'=>
   refine hf A st σ H fs C _ _ e fun v H1 C1=>?_
   cases e2:k r st' with
   | none=>simp only[e2] at h;cases h
   | some z=>
    simp only[e2] at h
    cases z with
    | ex x s=>cases h;exact hg A st' σ H1 fs r v C1 _ _ e2 fun cls d H2 X=>p cls d σ H2 X
    | ok _ s=>cases h;exact hg A st' σ H1 fs r v C1 _ _ e2 fun σ2 H2 C2=>p σ2 H2 C2
theorem zN (hn:XN K W te n):XS K W (tAsg te (gName i)) (ni i n):=fun A st σ H fs C T y h p=>by
 unfold ni at h
 cases e:n st with
 | none=>rw[e] at h;cases h
 | some z=>
  rw[e] at h
  cases z with
  | ex x st'=>cases h;exact hn A st σ H fs C _ _ e fun cls d H2 X=>p cls d σ H2 X
  | ok b st'=>cases h;exact hn A st σ H fs C _ _ e fun v H1 C1=>p _ H1 (C1.lO i)
def gN (i:Nat):G:=fun r st=>match r with
 | .w _=>none
 | r=>some (.ok () ⟨st.s.set i (.v r),st.h⟩)
theorem bW:XG K W (gName i) (gN i):=fun A st σ H ts r v ⟨Hb,ι,C⟩ Q y h p=>by
 have hr:Rt K σ ι Hb r v:=C.tmp (rt K σ r v) (by simp)
 have C2:aq K A st σ H ts Hb ι:=C.temps fun q hq=>C.tmp q (by simp[hq])
 cases r with
 | w j=>cases h
 | d x=>cases h;exact p _ H ⟨Hb,ι,C2.uH (r:=.d x) hr i⟩
 | o n=>cases h;exact p _ H ⟨Hb,ι,C2.uH (r:=.o n) hr i⟩
def Jm (K:PySem.W.Frag) (ds:List D) (vs:List V):Tp:=⟨fun ι Hb=>ak K Hb ds vs,fun _ _ _ _ _ rl h=>ak.mono rl _ _ h,fun _ _ _ _ _ _ h=>h⟩
def Cj (K:PySem.W.Frag) (g:TG) (k:G):Prop:=∀A st σ H ts r v,Cf K A st σ H (rt K σ r v::ts)→∀(Q:L2.St→Hp→Prop) st',k r st=some (.ok () st')→(∀σ2 H2,Cf K A st' σ2 H2 ts→Q σ2 H2)→g v σ H Q
theorem lF:Cj K (gName i) (gN i):=fun A st σ H ts r v C Q st' h p=>bW (W:=fun _ _ _ _=>True) A st σ H ts r v C Q _ h p
end
def jx (st:ST) (r:R) (b:Ob):ST:=match r with
 | .o n=>⟨st.s,st.h.set n b⟩
 | .w i=>⟨st.s.set i (.own b),st.h⟩
 | .d _=>st
section
variable {K:PySem.W.Frag} {W:WX} {A:Ac} {st:ST} {σ:L2.St} {H Hb:Hp} {ts:List Tp} {ι:List Addr} {r:R} {v:V} {b b':Ob} {u':HO} {te to ti tv:TE} {ta:TA} {f g fo fi fv:M R} {fa:M (List R)}
theorem aq.put (C:aq K A st σ H ts Hb ι) {a:Addr} (hr:Rt K σ ι Hb r (.ref a)) (h:aU st r=some b) (hu:dF K ι Hb b' u') (hz:∀u,H a=some u→kJ u=false) (hz':kJ u'=false:=by rfl):aq K A (jx st r b') σ (upd H a u') ts Hb ι:=by
 cases r with
 | d x=>cases h
 | o n=>
  obtain⟨a',e,z⟩:=hr
  cases z
  exact C.Ig h e hu hz
 | w i=>
  simp only[aU] at h
  cases q:st.s[i]? with
  | none=>rw[q] at h;cases h
  | some sv=>
   rw[q] at h
   cases sv with
   | no=>cases h
   | v r=>cases h
   | own c=>exact C.aaW q hr hu hz'
def QJ:Ob→R→Option Ob
 | .lst ds,.d x=>if ds.length<16000000 then some (.lst (ds++[x])) else none
 | .lst [],.o n=>some (.bO [.o n])
 | .bO xs,.d x=>if xs.length<16000000 then some (.bO (xs++[.d x])) else none
 | .bO xs,.o n=>if xs.length<16000000 then some (.bO (xs++[.o n])) else none
 | _,_=>none
def uM (st:ST) (r:R):Bool:=match aU st r with
 | some (.lst _)=>true
 | some (.bO _)=>true
 | _=>false
def uZ (f:M R) (fa:M (List R)) (k:ST→R→List R→Option (R×ST)):M R:=f.bind fun t st1=>if uM st1 t then(fa.bind fun rs st=>(k st t rs).map fun p=>.ok p.1 p.2) st1 else none
def rA:ST→R→List R→Option (R×ST):=fun st t rs=>match rs with
 | [r]=>(aU st t).bind fun b=>(QJ b r).map fun b'=>(.d .non,jx st t b')
 | _=>none
theorem Paired.Aq {xs:List R} {vs:List V} {x:R} {v:V} (h:bx K ι Hb xs vs) (hx:RV K ι Hb x v):bx K ι Hb (xs++[x]) (vs++[v]):=Paired.snoc h hx
theorem Wb {A:Ac} {st:ST} {σ:L2.St} {H Hb:Hp} {ts:List Tp} {ι:List Addr} {t:R} {v:V} (C:aq K A st σ H ts Hb ι) (hr:Rt K σ ι Hb t v) (h:uM st t=true):tyV K "list" v H:=by
 unfold uM at h
 cases q:aU st t with
 | none=>rw[q] at h;cases h
 | some b=>
  rw[q] at h
  obtain⟨a,u,rfl,h1,h2,_⟩:=C.at hr q
  cases b<;>first|cases h;done|(obtain⟨vs,rfl,_⟩:=h2;exact .inl ⟨rfl,vs,.inl (.inl h1)⟩)
def Rq (K:PySem.W.Frag) (r:V→List V→Hp→VK→Prop) (k:ST→R→List R→Option (R×ST)):Prop:=∀A st σ H ts Hb ι t rs z v vs (Q:VK),aq K A st σ H ts Hb ι→Rt K σ ι Hb t v→Paired (fun r v=>Rt K σ ι Hb r v) rs vs→k st t rs=some z→(∀w H2,Cf K A z.2 σ H2 (rt K σ z.1 w::ts)→Q w H2)→r v vs H Q
theorem QK {rr:V→List V→Hp→VK→Prop} {k:ST→R→List R→Option (R×ST)} (hk:Rq K rr k) (hf:XE K W to f) (ha:XA K W ta fa):XE K W (tBM K "list" rr to ta) (uZ f fa k):=fun A st σ H ts C Q y hy p=>by
 rcases cD hy with ⟨t,s1,h1,h2⟩|⟨x,s1,h1,rfl⟩
 ·refine hf A st σ H ts C _ _ h1 fun v H1 C1=>?_
  obtain⟨jj,jk,rQ⟩:=id C1
  cases q:uM s1 t with
  | false=>simp only[q] at h2;cases h2
  | true=>
   simp only[q,if_true] at h2
   refine⟨Wb rQ (rQ.tmp (rt K σ t v) (by simp)) q,?_⟩
   rcases cD h2 with ⟨rs,s2,h3,h4⟩|⟨x,s2,h3,rfl⟩
   ·refine ha A s1 σ H1 _ C1 _ _ h3 fun vs H2 ⟨Hb,ι,C2⟩=>?_
    cases e:k s2 t rs with
    | none=>simp only[e] at h4;cases h4
    | some z=>
     simp only[e] at h4
     cases h4
     exact hk A s2 σ H2 ts Hb ι t rs z v vs Q (C2.temps fun q hq=>C2.tmp q (by simp[hq])) (C2.tmp (rt K σ t v) (by simp)) (C2.tmp (iT K σ rs vs) (by simp)) e p
   ·exact ha A s1 σ H1 _ C1 _ _ h3 fun cls d H2 X=>p cls d H2 X.drop
 ·exact hf A st σ H ts C _ _ h1 p
theorem Cf.non {A:Ac} {st:ST} {σ:L2.St} {H:Hp} {ts:List Tp} (C:Cf K A st σ H ts):Cf K A st σ H (rt K σ (.d .non) .non::ts):=C.temps fun q hq=>(List.mem_cons.mp hq).elim (fun e=>.inr fun ι Hb=>by rw[e];show Rp K Hb _ _;unfold Rp;rfl) .inl
theorem Pq:Rq K rAppend rA:=fun A st σ H ts Hb ι t rs z v vs Q C ht hr e p=>by
 unfold rA at e
 split at e
 ·rename_i r
  obtain⟨u,rfl,hu⟩:=mV hr
  obtain⟨b,hb,e⟩:=Option.bind_eq_some_iff.mp e
  obtain⟨b',hb',rfl⟩:=Option.map_eq_some_iff.mp e
  obtain⟨a,u0,rfl,h1,h2,_⟩:=C.at ht hb
  have go:∀{xs:List V},u0=.lst xs→xs.length<sizeLine→dF K ι Hb b' (.lst (xs++[u]))→rAppend (.ref a) [u] H Q:=fun {xs} e0 hl ho=>
   ⟨a,xs,u,rfl,rfl,by rw[← e0];exact h1,hl,p _ _ (Cf.non ⟨Hb,ι,C.put ht hb ho fun z hz=>by rw[h1,e0] at hz;cases hz;rfl⟩)⟩
  cases b with
  | lst ds=>
   obtain⟨xs,e0,q⟩:=h2
   cases r with
   | d x=>
    obtain⟨hl,rfl⟩:=ite_some hb'
    exact go e0 (by rw[← q.len,sizeLine_eq];omega) ⟨_,rfl,q.app (ak.one hu)⟩
   | o n=>
    cases ds with
    | nil=>cases hb';rw[ak.mX q] at e0;exact go e0 (by rw[sizeLine_eq];decide) ⟨_,rfl,.cons hu .nil⟩
    | cons d ds=>cases hb'
   | w i=>cases ds<;>cases hb'
  | bO ys=>
   obtain⟨xs,e0,q⟩:=h2
   cases r with
   | d x=>
    obtain⟨hl,rfl⟩:=ite_some hb'
    exact go e0 (by rw[← Paired.length q,sizeLine_eq];omega) ⟨_,rfl,Paired.Aq q hu⟩
   | o n=>
    obtain⟨hl,rfl⟩:=ite_some hb'
    exact go e0 (by rw[← Paired.length q,sizeLine_eq];omega) ⟨_,rfl,Paired.Aq q hu⟩
   | w i=>cases hb'
  | _=>cases r<;>cases hb'
 ·cases e
def wX:TSet:=fun o i v H Q=>rSetL o i v H Q∨rSetD o i v H Q
theorem PSet.or {X:Cx} {t t':TSet} (h:PSet X t) (h':PSet X t'):PSet X (fun o i v H Q=>t o i v H Q∨t' o i v H Q):=fun pins s σ H o i v ov iv u Q I r1 r2 r3 q=>q.elim (h pins s σ H o i v ov iv u Q I r1 r2 r3) (h' pins s σ H o i v ov iv u Q I r1 r2 r3)
theorem qb {X:Cx} {k:Nat} (hr:Room k X.A):PSet X wX:=PSet.or set_list (set_dict (hu_of hr))
def wY (ks:List Key) (xs:List R) (k:Key) (r:R):List R:=if k∈ks then List.zipWith (fun k' x'=>if k'=k then r else x') ks xs else xs++[r]
def lO (b:Ob) (i r:R):Option Ob:=match b,i,r with
 | .lst ds,.d (.int k),.d x=>(ixN ds.length k).map fun j=>.lst (ds.set j x)
 | .bO xs,.d (.int k),.o n=>(ixN xs.length k).map fun j=>.bO (xs.set j (.o n))
 | .bO xs,.d (.int k),.d x=>(ixN xs.length k).map fun j=>.bO (xs.set j (.d x))
 | .aM ks ds,.d y,.d x=>(keyD y).bind fun k=>if ks.length<16000000 then some (.aM (jN ks k) (ug ks ds k x)) else none
 | .aM ks ds,.d y,.o n=>(keyD y).bind fun k=>if ks.length<16000000 then some (.cI (jN ks k) (wY ks (ds.map .d) k (.o n))) else none
 | .cI ks xs,.d y,.d x=>(keyD y).bind fun k=>if ks.length<16000000 then some (.cI (jN ks k) (wY ks xs k (.d x))) else none
 | .cI ks xs,.d y,.o n=>(keyD y).bind fun k=>if ks.length<16000000 then some (.cI (jN ks k) (wY ks xs k (.o n))) else none
 | _,_,_=>none
def gS (fo fi:M R):G:=fun r=>fo.bind fun o=>fi.bind fun i st=>(aU st o).bind fun b=>(lO b i r).map fun b'=>.ok () (jx st o b')
theorem bx.set {xs:List R} {vs:List V} {x:R} {v:V} (h:bx K ι Hb xs vs) (hx:RV K ι Hb x v):∀j,bx K ι Hb (xs.set j x) (vs.set j v):=by
 induction h with
 | nil=>intro j;exact .nil
 | cons a b ih=>
  intro j
  cases j with
  | zero=>exact .cons hx b
  | succ j=>exact .cons a (ih j)
theorem Wc {ks:List Key} {k:Key} {d:D} {v:V} (hd:Rp K Hb d v):∀{ds:List D} {vs:List V},ak K Hb ds vs→ak K Hb (List.zipWith (fun k' d'=>if k'=k then d else d') ks ds) (List.zipWith (fun k' v'=>if k'=k then v else v') ks vs):=by
 induction ks with
 | nil=>intro ds vs _;simp;exact ak.nil
 | cons q ks ih=>
  intro ds vs r
  cases ds with
  | nil=>rw[ak.mX r];simp;exact ak.nil
  | cons e ds=>
   obtain⟨w,t,rfl,p,q'⟩:=ak.mU r
   simp only[List.zipWith_cons_cons]
   refine ak.cons ?_ (ih q')
   by_cases z:q=k
   ·rw[if_pos z,if_pos z];exact hd
   ·rw[if_neg z,if_neg z];exact p
theorem Wd {ks:List Key} {k:Key} {x:R} {v:V} (hd:RV K ι Hb x v):∀{xs:List R} {vs:List V},bx K ι Hb xs vs→bx K ι Hb (List.zipWith (fun k' d'=>if k'=k then x else d') ks xs) (List.zipWith (fun k' v'=>if k'=k then v else v') ks vs):=by
 induction ks with
 | nil=>intro xs vs _;simp;exact .nil
 | cons q ks ih=>
  intro xs vs r
  cases r with
  | nil=>simp;exact .nil
  | cons a b=>
   simp only[List.zipWith_cons_cons]
   refine .cons ?_ (ih b)
   by_cases z:q=k
   ·rw[if_pos z,if_pos z];exact hd
   ·rw[if_neg z,if_neg z];exact a
theorem Gk {ks:List Key} {k:Key} {xs:List R} {vs:List V} {x:R} {v:V} (r:bx K ι Hb xs vs) (hx:RV K ι Hb x v):bx K ι Hb (wY ks xs k x) (if k∈ks then List.zipWith (fun k' v'=>if k'=k then v else v') ks vs else vs++[v]):=by
 unfold wY
 by_cases z:k∈ks
 ·rw[if_pos z,if_pos z];exact Wd hx r
 ·rw[if_neg z,if_neg z];exact Paired.Aq r hx
theorem Wf {ks:List Key} {k:Key} {ds:List D} {vs:List V} {x:D} {v:V} (r:ak K Hb ds vs) (hx:Rp K Hb x v):ak K Hb (ug ks ds k x) (if k∈ks then List.zipWith (fun k' v'=>if k'=k then v else v') ks vs else vs++[v]):=by
 unfold ug
 by_cases z:k∈ks
 ·rw[if_pos z,if_pos z];exact Wc hx r
 ·rw[if_neg z,if_neg z];exact r.app (ak.one hx)
theorem yS {ks:List Key} {k:Key} {vs:List V} {v:V} (hl:ks.length=vs.length):(jN ks k).length=(if k∈ks then List.zipWith (fun k' v'=>if k'=k then v else v') ks vs else vs++[v]).length:=by
 unfold jN
 by_cases z:k∈ks
 ·rw[if_pos z,if_pos z,List.length_zipWith,← hl,Nat.min_self]
 ·rw[if_neg z,if_neg z];simp[hl]
theorem XM {A:Ac} {st:ST} {σ:L2.St} {H Hb:Hp} {ts:List Tp} {ι:List Addr} {o i r:R} {vo vi vr:V} {b b':Ob} {Q:Hp→Prop} (C:aq K A st σ H ts Hb ι) (ho:Rt K σ ι Hb o vo) (hi:Rt K σ ι Hb i vi) (hr:Rt K σ ι Hb r vr)
  (hb:aU st o=some b) (hs:lO b i r=some b') (p:∀H2,Cf K A (jx st o b') σ H2 ts→Q H2):wX vo vi vr H Q:=by
 obtain⟨a,u0,rfl,h1,h2,_⟩:=C.at ho hb
 have lst:∀{xs:List V} {k:Int} {j:Nat},u0=.lst xs→vi=.int k→ixN xs.length k=some j→dF K ι Hb b' (.lst (xs.set j vr))→wX (.ref a) vi vr H Q:=fun {xs k j} e0 e1 hj hu=>
  .inl ⟨a,xs,k,j,rfl,e1,by rw[← e0];exact h1,hj,p _ ⟨Hb,ι,C.put ho hb hu fun z hz=>by rw[h1,e0] at hz;cases hz;rfl⟩⟩
 have aM:∀{ks:List Key} {vs:List V} {k:Key},u0=.dK (ks.zip vs)→ks.length=vs.length→vi=kV k→ks.length<16000000→dF K ι Hb b' (.dK ((jN ks k).zip (if k∈ks then List.zipWith (fun k' v'=>if k'=k then vr else v') ks vs else vs++[vr])))→wX (.ref a) vi vr H Q:=fun {ks vs k} e0 hl e1 hz hu=>
  .inr ⟨a,_,rfl,.inl ⟨_,k,by rw[← e0];exact h1,e1,by rw[List.length_zip,← hl,Nat.min_self,sizeLine_eq];omega,rfl⟩,p _ ⟨Hb,ι,by rw[Vk hl];exact C.put ho hb hu fun z hz=>by rw[h1,e0] at hz;cases hz;rfl⟩⟩
 unfold lO at hs
 split at hs
 ·obtain⟨j,hj,rfl⟩:=Option.map_eq_some_iff.mp hs
  obtain⟨xs,e0,q⟩:=h2
  exact lst e0 hi (by rw[← q.len];exact hj) ⟨_,rfl,q.set j hr⟩
 ·obtain⟨j,hj,rfl⟩:=Option.map_eq_some_iff.mp hs
  obtain⟨xs,e0,q⟩:=h2
  exact lst e0 hi (by rw[← Paired.length q];exact hj) ⟨_,rfl,bx.set (x:=.o _) q hr j⟩
 ·obtain⟨j,hj,rfl⟩:=Option.map_eq_some_iff.mp hs
  obtain⟨xs,e0,q⟩:=h2
  exact lst e0 hi (by rw[← Paired.length q];exact hj) ⟨_,rfl,bx.set (x:=.d _) q hr j⟩
 ·obtain⟨k,hk,hs⟩:=Option.bind_eq_some_iff.mp hs
  obtain⟨hz,rfl⟩:=ite_some hs
  obtain⟨vs,e0,hl,q⟩:=h2
  have hi:Rp K Hb _ vi:=hi
  rw[mH hk] at hi
  exact aM e0 hl (oO hi) hz ⟨_,rfl,yS hl,Wf q hr⟩
 ·obtain⟨k,hk,hs⟩:=Option.bind_eq_some_iff.mp hs
  obtain⟨hz,rfl⟩:=ite_some hs
  obtain⟨vs,e0,hl,q⟩:=h2
  have hi:Rp K Hb _ vi:=hi
  rw[mH hk] at hi
  exact aM e0 hl (oO hi) hz ⟨_,rfl,yS hl,Gk (vN q) hr⟩
 ·obtain⟨k,hk,hs⟩:=Option.bind_eq_some_iff.mp hs
  obtain⟨hz,rfl⟩:=ite_some hs
  obtain⟨vs,e0,hl,q⟩:=h2
  have hi:Rp K Hb _ vi:=hi
  rw[mH hk] at hi
  exact aM e0 hl (oO hi) hz ⟨_,rfl,yS hl,Gk q hr⟩
 ·obtain⟨k,hk,hs⟩:=Option.bind_eq_some_iff.mp hs
  obtain⟨hz,rfl⟩:=ite_some hs
  obtain⟨vs,e0,hl,q⟩:=h2
  have hi:Rp K Hb _ vi:=hi
  rw[mH hk] at hi
  exact aM e0 hl (oO hi) hz ⟨_,rfl,yS hl,Gk q hr⟩
 ·cases hs
theorem qG (ho:XE K W to fo) (hi:XE K W ti fi):XG K W (gSub to ti wX) (gS fo fi):=fun A st σ H ts r v C Q y hy p=>by
 rcases cD hy with ⟨o,s1,h1,h2⟩|⟨x,s1,h1,rfl⟩
 ·refine ho A st σ H _ C _ _ h1 fun vo H1 C1=>?_
  rcases cD h2 with ⟨i,s2,h3,h4⟩|⟨x,s2,h3,rfl⟩
  ·refine hi A s1 σ H1 _ C1 _ _ h3 fun vi H2 ⟨Hb,ι,C2⟩=>?_
   obtain⟨b,hb,h5⟩:=Option.bind_eq_some_iff.mp h4
   obtain⟨b',hb',rfl⟩:=Option.map_eq_some_iff.mp h5
   exact XM (C2.temps (ts':=ts) fun q hq=>C2.tmp q (by simp[hq])) (C2.tmp (rt K σ o vo) (by simp)) (C2.tmp (rt K σ i vi) (by simp)) (C2.tmp (rt K σ r v) (by simp)) hb hb' fun H3 C3=>p σ H3 C3
  ·exact hi A s1 σ H1 _ C1 _ _ h3 fun cls d H2 X=>p cls d H2 X.drop.drop
 ·exact ho A st σ H _ C _ _ h1 fun cls d H2 X=>p cls d H2 X.drop
def rB (i:Nat):M R:=fun st=>match st.s[i]? with
 | some (.own b)=>(fY b).map fun x=>.ok (.d x) ⟨st.s.set i (.v (.d x)),st.h⟩
 | some (.v r)=>some (.ok r st)
 | _=>none
def wZ (i:Nat):M R:=fun st=>match st.s[i]? with
 | some (.own b)=>some (.ok (.o st.h.length) ⟨st.s.set i (.v (.o st.h.length)),st.h++[b]⟩)
 | some (.v r)=>some (.ok r st)
 | _=>none
theorem Cf.reset {A:Ac} {s:List Sv} {h:List Ob} {σ:L2.St} {H:Hp} {ts:List Tp} {i:Nat} {r:R} {v:V} (hn:∀j,r≠.w j) (e:σ[i]?=some (some v)) (C:Cf K A ⟨s.set i .no,h⟩ σ H (rt K σ r v::ts)):Cf K A ⟨s.set i (.v r),h⟩ σ H (rt K σ r v::ts):=by
 obtain⟨Hb,ι,C⟩:=C
 have hr:RV K ι Hb r v:=by
  have q:Rt K σ ι Hb r v:=C.tmp (rt K σ r v) (by simp)
  cases r with
  | d x=>exact q
  | o n=>exact q
  | w j=>exact absurd rfl (hn j)
 have C2:=C.uH hr i
 have e1:σ.set i (some v)=σ:=by
  refine List.ext_getElem? fun j=>?_
  rw[List.getElem?_set]
  by_cases z:i=j
  ·subst z
   rw[if_pos rfl,if_pos (List.getElem?_eq_some_iff.mp e).1,e]
  ·rw[if_neg z]
 rw[e1] at C2
 simp only[List.set_set] at C2
 exact⟨Hb,ι,C2⟩
theorem Pr {i:Nat}:XE K W (tVar i) (rB i):=fun A st σ H ts C Q y hf p=>by
 unfold rB at hf
 cases q:st.s[i]? with
 | none=>rw[q] at hf;cases hf
 | some sv=>
  rw[q] at hf
  cases sv with
  | no=>cases hf
  | v r=>
   refine aj A st σ H ts C Q y ?_ p
   unfold eV;rw[q];exact hf
  | own b=>
   obtain⟨x,hx,rfl⟩:=Option.map_eq_some_iff.mp hf
   obtain⟨Hb,ι,C⟩:=C
   obtain⟨v,e,CO⟩:=C.take q
   exact⟨v,e,p v H (Cf.reset (fun j z=>nomatch z) e (CO.frz fun ι Hb a u hu hb=>G6 hx hu (Ex.new hb).rl upd_same))⟩
theorem ZX {i:Nat}:XE K W (tVar i) (wZ i):=fun A st σ H ts C Q y hf p=>by
 unfold wZ at hf
 cases q:st.s[i]? with
 | none=>rw[q] at hf;cases hf
 | some sv=>
  rw[q] at hf
  cases sv with
  | no=>cases hf
  | v r=>
   refine aj A st σ H ts C Q y ?_ p
   unfold eV;rw[q];exact hf
  | own b=>
   cases hf
   obtain⟨Hb,ι,C⟩:=C
   obtain⟨v,e,CO⟩:=C.take q
   exact⟨v,e,p v H (Cf.reset (fun j z=>nomatch z) e CO.Ie)⟩
def qR (fs:List Str) (f:Str):List Str:=if f∈fs then fs else fs++[f]
def wB (fs:List Str) (xs:List R) (f:Str) (r:R):List R:=if f∈fs then List.zipWith (fun g x=>if g=f then r else x) fs xs else xs++[r]
def u6 (Cs:List Addr) (nm:Str) (fo fv:M R):S:=fun st=>match (fv.bind fun r=>fo.bind fun o st=>(aU st o).bind fun b=>match b with
  | .ins C fs xs=>if C∈Cs∧dZ r=true∧fs.length<900∧fs.Nodup then some (Rx.ok () (jx st o (.ins C (qR fs nm) (wB fs xs nm r)))) else none
  | _=>none) st with
 | some (.ok _ st')=>some (.nx st')
 | some (.ex x st')=>some (.ex x st')
 | none=>none
theorem Le {f:Str} {v:V}:∀{fs:List Str} {vs:List V},fs.Nodup→fs.length=vs.length→putF f v (fs.zip vs)=(qR fs f).zip (if f∈fs then List.zipWith (fun g x=>if g=f then v else x) fs vs else vs++[v])
 | [],[],_,_=>rfl
 | [],_::_,_,h=>by simp at h
 | _::_,[],_,h=>by simp at h
 | q::fs,w::vs,hn,h=>by
  have h':fs.length=vs.length:=by simpa using h
  obtain⟨n1,n2⟩:=List.nodup_cons.mp hn
  have ih:=Le (f:=f) (v:=v) n2 h'
  show (if q=f then(q,v)::fs.zip vs else(q,w)::putF f v (fs.zip vs))=_
  unfold qR at ih ⊢
  by_cases z:q=f
  ·subst z
   rw[if_pos rfl,if_pos (List.mem_cons_self ..),if_pos (List.mem_cons_self ..)]
   simp only[List.zipWith_cons_cons,if_true,List.zip_cons_cons]
   congr 1
   have:List.zipWith (fun g x=>if g=q then v else x) fs vs=vs:=by
    clear ih hn n2 h
    induction fs generalizing vs with
    | nil=>cases vs with|nil=>rfl|cons _ _=>simp at h'
    | cons g fs ih=>
     cases vs with
     | nil=>simp at h'
     | cons u vs=>
      simp only[List.zipWith_cons_cons]
      rw[if_neg (fun z=>n1 (by simp[z])),ih _ (by simpa using h') (fun z=>n1 (by simp[z]))]
   rw[this]
  ·rw[if_neg z,ih]
   by_cases m:f∈fs
   ·rw[if_pos m,if_pos m,if_pos (List.mem_cons_of_mem _ m),if_pos (List.mem_cons_of_mem _ m)]
    simp only[List.zipWith_cons_cons,if_neg z,List.zip_cons_cons]
   ·have m':f∉q::fs:=fun y=>(List.mem_cons.mp y).elim (fun e=>z e.symm) m
    rw[if_neg m,if_neg m,if_neg m',if_neg m']
    rfl
theorem Wg {fs:List Str} {f:Str} {x:R} {v:V} (hd:RV K ι Hb x v):∀{xs:List R} {vs:List V},bx K ι Hb xs vs→bx K ι Hb (List.zipWith (fun k' d'=>if k'=f then x else d') fs xs) (List.zipWith (fun k' v'=>if k'=f then v else v') fs vs):=by
 induction fs with
 | nil=>intro xs vs _;simp;exact .nil
 | cons q ks ih=>
  intro xs vs r
  cases r with
  | nil=>simp;exact .nil
  | cons a b=>
   simp only[List.zipWith_cons_cons]
   refine .cons ?_ (ih b)
   by_cases z:q=f
   ·rw[if_pos z,if_pos z];exact hd
   ·rw[if_neg z,if_neg z];exact a
theorem NZ {Cs:List Addr} {nm:Str} (hC:∀C∈Cs,Cls K C∧NoAttr K C nm) (ho:XE K W to fo) (hv:XE K W tv fv):XS K W (sFld K to tv nm) (u6 Cs nm fo fv):=fun A st σ H ts C T y hy p=>by
 unfold u6 at hy
 cases e:(fv.bind fun r=>fo.bind fun o st=>(aU st o).bind fun b=>match b with
  | .ins C fs xs=>if C∈Cs∧dZ r=true∧fs.length<900∧fs.Nodup then some (Rx.ok () (jx st o (.ins C (qR fs nm) (wB fs xs nm r)))) else none
  | _=>none) st with
 | none=>rw[e] at hy;cases hy
 | some z=>
  rw[e] at hy
  rcases cD e with ⟨r,s1,h1,h2⟩|⟨x,s1,h1,rfl⟩
  ·refine hv A st σ H ts C _ _ h1 fun v H1 C1=>?_
   rcases cD h2 with ⟨o,s2,h3,h4⟩|⟨x,s2,h3,rfl⟩
   ·refine ho A s1 σ H1 _ C1 _ _ h3 fun vo H2 ⟨Hb,ι,C2⟩=>?_
    obtain⟨b,hb,h5⟩:=Option.bind_eq_some_iff.mp h4
    cases b with
    | ins C0 fs xs=>
     obtain⟨⟨hc,hw,hl,hn⟩,rfl⟩:=ite_some h5
     cases hy
     have hr:Rt K σ ι Hb r v:=C2.tmp (rt K σ r v) (by simp)
     have hr':RV K ι Hb r v:=by
      cases r with
      | d x=>exact hr
      | o n=>exact hr
      | w j=>exact absurd hw Bool.false_ne_true
     have ho':Rt K σ ι Hb o vo:=C2.tmp (rt K σ o vo) (by simp)
     obtain⟨a,u0,rfl,g1,⟨dx,vs,rfl,hlen,q⟩,_⟩:=C2.at ho' hb
     refine⟨a,C0,dx,_,rfl,g1,(hC _ hc).1,(hC _ hc).2,by rw[List.length_zip,← hlen,Nat.min_self];omega,p σ _ ⟨Hb,ι,?_⟩⟩
     rw[Le hn hlen]
     refine(C2.temps (ts':=ts) fun q hq=>C2.tmp q (by simp[hq])).put ho' hb ⟨dx,_,rfl,?_,?_⟩ (fun z hz=>by rw[g1] at hz;cases hz;rfl)
     ·unfold qR
      by_cases m:nm∈fs
      ·rw[if_pos m,if_pos m,List.length_zipWith,← hlen,Nat.min_self]
      ·rw[if_neg m,if_neg m];simp[hlen]
     ·unfold wB
      by_cases m:nm∈fs
      ·rw[if_pos m,if_pos m];exact Wg hr' q
      ·rw[if_neg m,if_neg m];exact Paired.Aq q hr'
    | _=>cases h5
   ·cases hy
    exact ho A s1 σ H1 _ C1 _ _ h3 fun cls d H2 X=>p cls d σ H2 X.drop
  ·cases hy
   exact hv A st σ H ts C _ _ h1 fun cls d H2 X=>p cls d σ H2 X
end
inductive Rr where
 | d (x:D)|o (n:Nat)|n (b:Ob)
inductive Ot where
 | ret (r:Rr)|exc (x:XD)
abbrev Fn:=List R→List Ob→Option (Ot×List Ob)
def endF:Rs→Option (Ot×List Ob)
 | .nx st=>some (.ret (.d .non),st.h)
 | .rt (.d x) st=>some (.ret (.d x),st.h)
 | .rt (.o n) st=>some (.ret (.o n),st.h)
 | .rt (.w i) st=>match st.s[i]? with
  | some (.own b)=>some (.ret (.n b),st.h)
  | _=>none
 | .rn b st=>some (.ret (.n b),st.h)
 | .ex x st=>some (.exc x,st.h)
 | .bk _=>none
 | .ct _=>none
def nj (n:Nat) (args:List R):List Sv:=args.map .v++List.replicate (n-args.length) .no
def Bu (n:Nat) (body:S):Fn:=fun args h=>(body ⟨nj n args,h⟩).bind endF
section
variable (K:PySem.W.Frag)
def Jo (H Hb:Hp) (ι:List Addr) (Q:VK) (E:XK):Ot×List Ob→Prop
 | (.ret (.d x),h)=>∀v H2,Cf K ⟨H,Hb,ι⟩ ⟨[],h⟩ [] H2 [rt K [] (.d x) v]→Q v H2
 | (.ret (.o n),h)=>∀v H2,Cf K ⟨H,Hb,ι⟩ ⟨[],h⟩ [] H2 [rt K [] (.o n) v]→Q v H2
 | (.ret (.n b),h)=>∀v H2,eU K ⟨H,Hb,ι⟩ ⟨[],h⟩ [] H2 [] b v→Q v H2
 | (.exc x,h)=>∀cls d H2,XO K ⟨H,Hb,ι⟩ [] x ⟨[],h⟩ cls d [] H2→E cls d H2
def bJ (F:Fn):Sp:=fun vs H Q E=>∃Hb ι args h y,aq K ⟨H,Hb,ι⟩ ⟨[],h⟩ [] H [] Hb ι∧bx K ι Hb args vs∧F args h=some y∧Jo K H Hb ι Q E y
end
section
variable {K:PySem.W.Frag} {W:WX} {A:Ac} {st:ST} {σ:L2.St} {H H2 Hb cC:Hp} {ts ts':List Tp} {ι dh:List Addr} {te to:TE} {ta:TA} {f fo:M R} {fa:M (List R)} {F:Fn}
theorem aq.bare (C:aq K A st σ H ts Hb ι):aq K A ⟨[],st.h⟩ [] H ts Hb ι:=
 {C with len:=rfl,val:=fun i r h=>by simp at h,own:=fun i b h=>by simp at h,dsl:=fun i j b c a h=>by simp at h}
theorem aq.enter (C:aq K A st σ H ts Hb ι):aq K ⟨H,Hb,ι⟩ ⟨[],st.h⟩ [] H [] Hb ι:=
 {keep:=fun a o h _=>h,eB:=Ex.refl _,bH:=C.bH,ap:=fun a h _=>h,pre:=bD.refl _,hl:=C.hl,len:=rfl,val:=fun i r h=>by simp at h,obj:=C.obj,own:=fun i b h=>by simp at h,inj:=C.inj,new:=fun a h=>.inl h,dsl:=fun i j b c a h=>by simp at h,tmp:=fun p hp=>nomatch hp}
theorem aq.there (C:aq K A st σ H ts Hb ι) {a:Addr} (h:A.H a≠none):H a≠none:=by
 by_cases hm:a∈A.ι
 ·obtain⟨n,hn⟩:=List.getElem?_of_mem (C.pre.mem hm)
  have hlt:n<st.h.length:=by rw[← C.hl];exact(List.getElem?_eq_some_iff.mp hn).1
  obtain⟨b,u,g1,g2,_⟩:=C.obj n _ (List.getElem?_eq_getElem hlt)
  rw[hn] at g1;cases g1
  rw[g2];exact fun z=>nomatch z
 ·cases q:A.H a with
  | none=>exact absurd q h
  | some o=>rw[C.keep a o q (.inl hm)];exact fun z=>nomatch z
theorem aq.back {h':List Ob} (C:aq K A st σ H ts Hb ι) (C2:aq K ⟨H,Hb,ι⟩ ⟨[],h'⟩ [] H2 ts' cC dh) {us:List Tp} (hu:∀p∈us,p.p dh cC):aq K A ⟨st.s,h'⟩ σ H2 us cC dh where
 keep:=fun a o e n=>C2.keep a o (C.keep a o e n) (by
  by_cases hm:a∈ι
  ·exact .inr (n.elim (fun n=>(C.new a hm).elim (fun y=>absurd y n) fun y=>y o e) id)
  ·exact .inl hm)
 eB:=C.eB.trans C2.eB
 bH:=C2.bH
 ap:=fun a h1 h2=>C2.ap a (C.ap a h1 h2) (C.there h2)
 pre:=C.pre.trans C2.pre
 hl:=C2.hl
 len:=C.len
 val:=fun i r h=>let ⟨v,e,q⟩:=C.val i r h;⟨v,e,q.mono C2.pre C2.eB.rl⟩
 obj:=C2.obj
 own:=fun i b h=>by
  obtain⟨a,u,e1,e2,e3,e4,e5,e6,e7⟩:=C.own i b h
  have hn:H a≠none:=by rw[e2];exact fun z=>nomatch z
  exact⟨a,u,e1,C2.keep a u e2 (.inl e5),e3.mono C2.pre C2.eB.rl,C2.ap a e4 hn,fun hm=>(C2.new a hm).elim e5 (fun z=>by have:=z u e2;rw[e7] at this;cases this),e6,e7⟩
 inj:=C2.inj
 new:=fun a hm=>by
  rcases C2.new a hm with q|q
  ·exact C.new a q
  ·by_cases hA:a∈A.ι
   ·exact .inl hA
   ·exact .inr fun o e=>q o (C.keep a o e (.inl hA))
 dsl:=C.dsl
 tmp:=hu
theorem aq.Z0 {h':List Ob} {x:XD} {cls:Value} {d:Option Addr} (C:aq K A st σ H ts Hb ι) (X:XO K ⟨H,Hb,ι⟩ [] x ⟨[],h'⟩ cls d [] H2):XO K A ts x ⟨st.s,h'⟩ cls d σ H2:=by
 obtain⟨cC,dh,dd,vs,C2,h1,h2,h3,h4,h5,h6,h7⟩:=X
 exact⟨cC,dh,dd,vs,C.back C2 fun p hp=>p.m _ _ _ _ C2.pre C2.eB.rl (C.tmp p hp),h1,h2,h3,h4,h5,Classical.byContradiction fun z=>C.there z h6,h7⟩
theorem Wh {N:List Str} {args:List R} {vs:List V} {h:List Ob} (C:aq K ⟨H,Hb,ι⟩ ⟨[],h⟩ [] H [] Hb ι) (r:bx K ι Hb args vs):aq K ⟨H,Hb,ι⟩ ⟨nj N.length args,h⟩ (L2.start N vs) H [] Hb ι:=by
 have at_:∀{i:Nat} {s:Sv},(nj N.length args)[i]?=some s→s=.no∨∃x,args[i]?=some x∧s=.v x:=fun {i s} h=>by
  unfold nj at h
  by_cases q:i<args.length
  ·rw[List.getElem?_append_left (by simpa using q),List.getElem?_map] at h
   cases z:args[i]? with
   | none=>rw[z] at h;cases h
   | some e=>rw[z] at h;cases h;exact .inr ⟨e,rfl,rfl⟩
  ·rw[List.getElem?_append_right (by simpa using q),List.getElem?_replicate] at h
   split at h
   ·cases h;exact .inl rfl
   ·cases h
 refine {C with len:=?_,val:=fun i x h=>?_,own:=fun i b h=>?_,dsl:=fun i j b c a h=>?_}
 ·unfold nj L2.start;simp[Paired.length r]
 ·rcases at_ h with z|⟨y,e,z⟩
  ·cases z
  ·cases z
   obtain⟨v,hv,rv⟩:=bx.get r e
   exact⟨v,Vg hv,rv⟩
 ·rcases at_ h with z|⟨y,e,z⟩<;>cases z
 ·rcases at_ h with z|⟨y,e,z⟩<;>cases z
theorem fnF {P:Program} {w:World} {mg:Str→Option Value} {base:Heap} {nm qual:Str} {st:Stmt} {f:Addr} {fd:FuncData} {N ps:List Str} {k:Nat} {g:S} (F:dY K nm qual st f fd) (sc:FnScope N ps (defScope st)) (F':Fn) (hF:∀args h y,F' args h=some y→args.length=ps.length∧Bu N.length g args h=some y)
  (hbody:∀(cdv:Value) (A:Around) (outer:List Env) (s:Shared) (H:Hp) (bZ:XK),Room k (A.deeper (envOfC qual (defScope st) s.heap.objs.size f cdv))→
   ∃t,PSs (cxOf (L2.CX P w) P w K mg base N qual (defScope st) f cdv A outer s H bZ) (defBody st) t∧XS K (fun cls d _ H=>bZ cls d H) t g) :
  FnOk P w K mg base (L2.CX P w) (k+1) f fd ps (bJ K F'):=by
 refine F.okX sc (fun vs H Q bZ h=>?_) fun cdv A outer s H vs Q bZ hr h=>?_
 ·obtain⟨Hb,ι,args,h,y,C,r,e,_⟩:=h
  rw[← Paired.length r];exact(hF args h y e).1
 ·obtain⟨Hb,ι,args,h,y,C,r,e,p⟩:=h
  obtain⟨t,ht,hx⟩:=hbody cdv A outer s H bZ hr
  refine⟨t,ht,?_⟩
  obtain⟨z,hz,ez⟩:=Option.bind_eq_some_iff.mp (hF args h y e).2
  refine hx ⟨H,Hb,ι⟩ _ _ H [] ⟨Hb,ι,Wh C r⟩ _ z hz ?_
  cases z with
  | nx st=>cases ez;exact fun σ H2 ⟨cC,dh,C2⟩=>p .non H2 ⟨cC,dh,C2.bare.temps fun q hq=>by rw[List.mem_singleton.mp hq];show Rp K _ _ _;unfold Rp;rfl⟩
  | rn b st=>
   cases ez
   intro σ v H2 C2
   obtain⟨cC,dh,a,u,C2,h1,h2,h3,h4,h5,h6,hz,_⟩:=C2
   exact p v H2 ⟨cC,dh,a,u,C2.bare,h1,h2,h3,h4,h5,h6,hz,fun i c h=>by simp at h⟩
  | bk st=>cases ez
  | ct st=>cases ez
  | ex x st=>
   cases ez
   intro cls d σ H2 X
   obtain⟨cC,dh,dd,vs',C2,rr⟩:=X
   exact p cls d H2 ⟨cC,dh,dd,vs',C2.bare,rr⟩
  | rt r st=>
   intro σ v H2 ⟨cC,dh,C2⟩
   have hv:Rt K σ dh cC r v:=C2.tmp (rt K σ r v) (by simp)
   cases r with
   | d x=>cases ez;exact p v H2 ⟨cC,dh,C2.bare.temps fun q hq=>by rw[List.mem_singleton.mp hq];exact hv⟩
   | o n=>cases ez;exact p v H2 ⟨cC,dh,C2.bare.temps fun q hq=>by rw[List.mem_singleton.mp hq];exact hv⟩
   | w i=>
    simp only[endF] at ez
    cases q:st.s[i]? with
    | none=>rw[q] at ez;cases ez
    | some sv=>
     rw[q] at ez
     cases sv with
     | no=>cases ez
     | v r=>cases ez
     | own b=>
      cases ez
      obtain⟨v',e',CO⟩:=C2.take q
      have hv:σ[i]?=some (some v):=hv
      rw[hv] at e';cases e'
      obtain⟨iU,ji,a,u,C3,h1,h2,h3,h4,h5,h6,hz,_⟩:=CO
      refine p v H2 ⟨iU,ji,a,u,C3.bare.temps (ts':=[]) (fun q hq=>?_),h1,h2,h3,h4,h5,h6,hz,fun i c h=>?_⟩
      ·cases hq
      ·simp at h
def dR (F:Fn) (rs:List R):M R:=fun st=>if rs.all dZ then(match F rs st.h with
 | some (.ret (.d x),h)=>some (.ok (.d x) ⟨st.s,h⟩)
 | some (.ret (.o n),h)=>some (.ok (.o n) ⟨st.s,h⟩)
 | some (.exc x,h)=>some (.ex x ⟨st.s,h⟩)
 | _=>none) else none
theorem qd {rs:List R} {vs:List V} {Q:VK} {y:Rx R} (C:aq K A st σ H ts Hb ι) (r:Paired (fun r v=>Rt K σ ι Hb r v) rs vs) (e:dR F rs st=some y) (p:Jj K W A σ ts Q y):bJ K F vs H Q (WE W σ):=by
 unfold dR at e
 by_cases hw:rs.all dZ=true
 ·rw[if_pos hw] at e
  cases q:F rs st.h with
  | none=>rw[q] at e;cases e
  | some z=>
   refine⟨Hb,ι,rs,st.h,z,C.enter,Gg hw r,q,?_⟩
   rw[q] at e
   obtain⟨o,h'⟩:=z
   cases o with
   | exc x=>cases e;exact fun cls d H2 X=>p cls d H2 (C.Z0 X)
   | ret rr=>
    cases rr with
    | d x=>cases e;exact fun v H2 ⟨cC,dh,C2⟩=>p v H2 ⟨cC,dh,C.back C2 fun q hq=>(List.mem_cons.mp hq).elim (fun e=>by rw[e];exact C2.tmp (rt K [] (.d x) v) (by simp)) fun hq=>q.m _ _ _ _ C2.pre C2.eB.rl (C.tmp q hq)⟩
    | o n=>cases e;exact fun v H2 ⟨cC,dh,C2⟩=>p v H2 ⟨cC,dh,C.back C2 fun q hq=>(List.mem_cons.mp hq).elim (fun e=>by rw[e];exact C2.tmp (rt K [] (.o n) v) (by simp)) fun hq=>q.m _ _ _ _ C2.pre C2.eB.rl (C.tmp q hq)⟩
    | n b=>cases e
 ·rw[if_neg hw] at e;cases e
def jO (F:Fn) (fa:M (List R)):M R:=fa.bind (dR F)
theorem x_call (ha:XA K W ta fa):XE K W (tCallS (bJ K F) (WE W) ta) (jO F fa):=fun A st σ H ts C Q y hy p=>by
 rcases cD hy with ⟨rs,s1,h1,h2⟩|⟨x,s1,h1,rfl⟩
 ·exact ha A st σ H ts C _ _ h1 fun vs H1 ⟨Hb,ι,C1⟩=>qd (C1.temps (ts':=ts) fun q hq=>C1.tmp q (by simp[hq])) (C1.tmp (iT K σ rs vs) (by simp)) h2 p
 ·exact ha A st σ H ts C _ _ h1 p
def rR (C:Addr) (F:Fn) (fo:M R) (fa:M (List R)):M R:=fo.bind fun o st1=>match inV st1 o with
 | some _=>(fa.bind fun rs st=>match inV st o with
  | some (C',_,_)=>if C'=C then dR F (o::rs) st else none
  | none=>none) st1
 | none=>none
theorem Ik {Cc:Addr} (ho:XE K W to fo) (ha:XA K W ta fa):XE K W (QD Cc (bJ K F) (WE W) to ta) (rR Cc F fo fa):=fun A st σ H ts C Q y hy p=>by
 rcases cD hy with ⟨o,s1,h1,h2⟩|⟨x,s1,h1,rfl⟩
 ·refine ho A st σ H ts C _ _ h1 fun v H1 C1=>?_
  obtain⟨jj,jk,rQ⟩:=id C1
  cases q1:AL.inV s1 o with
  | none=>simp only[q1] at h2;cases h2
  | some c1=>
   simp only[q1] at h2
   obtain⟨a,dx1,vs1,rfl,_⟩:=rQ.inV (rQ.tmp (rt K σ o v) (by simp)) q1
   refine⟨a,rfl,?_⟩
   rcases cD h2 with ⟨rs,s2,h3,h4⟩|⟨x,s2,h3,rfl⟩
   ·refine ha A s1 σ H1 _ C1 _ _ h3 fun vs H2 ⟨Hb,ι,C2⟩=>?_
    cases q:AL.inV s2 o with
    | none=>simp only[q] at h4;cases h4
    | some c=>
     obtain⟨C',fs,xs⟩:=c
     simp only[q] at h4
     by_cases hc:C'=Cc
     ·rw[if_pos hc] at h4
      subst hc
      obtain⟨a',dx,vs0,e,g1,g2,g3⟩:=C2.inV (C2.tmp (rt K σ o (.ref a)) (by simp)) q
      cases e
      exact⟨⟨dx,_,g1⟩,qd (C2.temps (ts':=ts) fun q hq=>C2.tmp q (by simp[hq])) (.cons (C2.tmp (rt K σ o (.ref a)) (by simp)) (C2.tmp (iT K σ rs vs) (by simp))) h4 p⟩
     ·rw[if_neg hc] at h4;cases h4
   ·exact ha A s1 σ H1 _ C1 _ _ h3 fun cls d H2 X=>p cls d H2 X.drop
 ·exact ho A st σ H ts C _ _ h1 p
end
section
variable {K:PySem.W.Frag} {W:WX} {A:Ac} {st:ST} {σ:L2.St} {H H0 H1 Hb u9 jj:Hp} {ts xO:List Tp} {ι fH jk:List Addr} {te to:TE} {ta:TA} {f fo:M R} {fa:M (List R)} {F:Fn}
theorem RV.lower {x:R} {v0 v:V} (h0:RV K fH u9 x v0) (h1:RV K jk jj x v) (p:bD fH jk):RV K fH jj x v:=by
 cases x with
 | d x=>exact h1
 | w i=>exact h1
 | o n=>
  obtain⟨a,e,_⟩:=h0
  obtain⟨a',e',rfl⟩:=h1
  rw[p.get e] at e';cases e'
  exact⟨a,e,rfl⟩
theorem bx.lower:∀{xs:List R} {vs0 vs:List V},bx K fH u9 xs vs0→bx K jk jj xs vs→bD fH jk→bx K fH jj xs vs
 | [],_,_,_,.nil,_=>.nil
 | x::xs,_,_,.cons a0 b0,.cons a b,p=>.cons (a0.lower a p) (bx.lower b0 b p)
theorem dF.lower {b:Ob} {u0 u:HO} (h0:dF K fH u9 b u0) (h1:dF K jk jj b u) (p:bD fH jk):dF K fH jj b u:=by
 cases b with
 | lst ds=>exact h1
 | aM ks ds=>exact h1
 | dct ks ds=>exact h1
 | cZ ks ds=>exact h1
 | uV ks ds=>exact h1
 | bO xs=>obtain⟨_,_,q0⟩:=h0;obtain⟨vs,e,q⟩:=h1;exact⟨vs,e,bx.lower q0 q p⟩
 | jV ks xs=>obtain⟨_,_,_,_,q0⟩:=h0;obtain⟨od,vs,e,l,q⟩:=h1;exact⟨od,vs,e,l,bx.lower q0 q p⟩
 | cI ks xs=>obtain⟨_,_,_,q0⟩:=h0;obtain⟨vs,e,l,q⟩:=h1;exact⟨vs,e,l,bx.lower q0 q p⟩
 | dn w ks xs=>obtain⟨_,_,_,_,_,_,_,q0⟩:=h0;obtain⟨b,vs,cU,e,l,n,l2,q⟩:=h1;exact⟨b,vs,cU,e,l,n,l2,bx.lower q0 q p⟩
 | uW w ks xs=>obtain⟨_,_,_,_,_,_,_,_,q0⟩:=h0;obtain⟨od,b,vs,cU,e,l,n,l2,q⟩:=h1;exact⟨od,b,vs,cU,e,l,n,l2,bx.lower q0 q p⟩
 | ins C fs xs=>obtain⟨_,_,_,_,q0⟩:=h0;obtain⟨dx,vs,e,l,q⟩:=h1;exact⟨dx,vs,e,l,bx.lower q0 q p⟩
theorem aq.pop {s:List Sv} {h t:List Ob} (C0:aq K A ⟨s,h⟩ σ H0 ts u9 fH) (C1:aq K A ⟨s,h++t⟩ σ H1 xO jj jk) (p:bD fH jk) (ht:∀q∈ts,q.p jk jj):aq K A ⟨s,h⟩ σ H1 ts jj fH where
 keep:=C1.keep
 eB:=C1.eB
 bH:=C1.bH
 ap:=C1.ap
 pre:=C0.pre
 hl:=C0.hl
 len:=C0.len
 val:=fun i r e=>by
  obtain⟨v,a,b⟩:=C0.val i r e
  obtain⟨v',a',b'⟩:=C1.val i r e
  rw[a] at a';cases a'
  exact⟨v,a,b.lower b' p⟩
 obj:=fun n b e=>by
  obtain⟨a0,u0,e1,e2,e3,e4⟩:=C0.obj n b e
  have hn:n<h.length:=(List.getElem?_eq_some_iff.mp e).1
  obtain⟨a,u,g1,g2,g3,g4⟩:=C1.obj n b (by show (h++t)[n]?=_;rw[List.getElem?_append_left hn];exact e)
  rw[p.get e1] at g1;cases g1
  exact⟨_,u,e1,g2,e3.lower g3 p,g4⟩
 own:=fun i b e=>by
  obtain⟨a0,u0,e1,e2,e3,e4,e5,e6⟩:=C0.own i b e
  obtain⟨a,u,g1,g2,g3,g4,g5,g6⟩:=C1.own i b e
  exact⟨a,u,g1,g2,e3.lower g3 p,g4,fun z=>g5 (p.mem z),g6⟩
 inj:=C0.inj
 new:=C0.new
 dsl:=C0.dsl
 tmp:=fun q hq=>q.l _ _ _ _ p (C0.tmp q hq) (ht q hq)
end
open Classical in
noncomputable def popS (st st2:ST):ST:=if st2.h.take st.h.length=st.h then⟨st2.s,st.h⟩ else st2
noncomputable def eNew (C:Addr) (F:Fn) (dv:List D) (fa:M (List R)):M R:=fa.bind fun rs st=>match dR F (.o st.h.length::(rs++dv.map .d)) ⟨st.s,st.h++[.ins C [] []]⟩ with
 | some (.ok (.d .non) st2)=>some (.ok (.o st.h.length) st2)
 | some (.ex x st2)=>some (.ex x (popS st st2))
 | _=>none
section
variable {K:PySem.W.Frag} {W:WX} {te to:TE} {ta:TA} {f fo:M R} {fa:M (List R)} {F:Fn}
theorem Vm {rs:List R} {st st2:ST} {x:XD} (h:dR F rs st=some (.ex x st2)):st2.s=st.s:=by
 unfold dR at h
 split at h
 ·split at h<;>cases h<;>rfl
 ·cases h
theorem Lf {P:R→V→Prop}:∀{xs ys:List R} {vs us:List V},Paired P xs vs→Paired P ys us→Paired P (xs++ys) (vs++us)
 | [],_,_,_,.nil,h=>h
 | _::_,_,_,_,.cons a b,h=>.cons a (Lf b h)
theorem Ms {σ:L2.St} {ι:List Addr} {Hb:Hp}:∀{ds:List D} {vs:List V},ak K Hb ds vs→Paired (fun r v=>Rt K σ ι Hb r v) (ds.map .d) vs
 | [],vs,h=>by rw[ak.mX h];exact .nil
 | d::ds,vs,h=>by
  obtain⟨v,t,rfl,p,q⟩:=ak.mU h
  exact .cons p (Ms q)
theorem Fy {h h2:List Ob} (e:h2.take h.length=h):∃t,h2=h++t:=⟨h2.drop h.length,by conv=>lhs;rw[← List.take_append_drop h.length h2,e]⟩
def rW (fH:List Addr):Tp:=⟨fun ι _=>bD fH ι,fun _ _ _ _ p _ h=>h.trans p,fun _ _ _ _ _ h _=>h⟩
theorem XO.popS {A:Ac} {st:ST} {σ:L2.St} {H0:Hp} {ts xO:List Tp} {u9:Hp} {fH:List Addr} {x:XD} {st2:ST} {cls:Value} {d:Option Addr} {H2:Hp} (C0:aq K A st σ H0 ts u9 fH) (es:st2.s=st.s) (hp:rW fH∈xO) (X:XO K A (xO++ts) x st2 cls d σ H2):XO K A ts x (popS st st2) cls d σ H2:=by
 unfold AL.popS
 by_cases e:st2.h.take st.h.length=st.h
 ·rw[if_pos e]
  obtain⟨t,et⟩:=Fy e
  obtain⟨Hb,ι,dd,vs,C,h1,h2,h3,h4,h5,h6,h7⟩:=X
  have q1:bD fH ι:=C.tmp (rW fH) (by simp[hp])
  have q2:∀q∈ts,q.p ι Hb:=fun q hq=>C.tmp q (by simp[hq])
  obtain⟨s2,h2'⟩:=st2
  cases es
  cases et
  exact⟨Hb,fH,dd,vs,aq.pop C0 C q1 q2,h1,h2,h3,h4,h5,h6,h7⟩
 ·rw[if_neg e];exact X.temps fun p hp=>by simp[hp]
theorem XQ {A:Ac} {st:ST} {σ:L2.St} {H:Hp} {ts:List Tp} {Hb:Hp} {ι:List Addr} {Cc:Addr} {dv:List D} {dvs:List V} {rs:List R} {vs:List V} {Q:VK} {y:Rx R} (hd:∀Hb,ak K Hb dv dvs) (C:aq K A st σ H ts Hb ι) (r:Paired (fun r v=>Rt K σ ι Hb r v) rs vs)
  {x dx:Addr} (hx:H x=none) (hdx:H dx=none) (hne:dx≠x) (e:dR F (.o st.h.length::(rs++dv.map .d)) ⟨st.s,st.h++[.ins Cc [] []]⟩=some y) (p:Jj K W A σ (rt K σ (.o st.h.length) (.ref x)::rW ι::ts) Q y) :
  bJ K F (.ref x::(vs++dvs)) (upd (upd H dx (.own x)) x (.ins Cc dx [])) Q (WE W σ):=by
 have C1:aq K A st σ (upd H dx (.own x)) (iT K σ rs vs::rW ι::ts) Hb ι:=(C.Hj (Ex.new hdx) (Ex.refl _) (C.bH.trans (Ex.new hdx)) (fun a h1 h2=>absurd h1 h2)).temps fun q hq=>by
  rcases List.mem_cons.mp hq with rfl|hq
  ·exact r
  ·rcases List.mem_cons.mp hq with rfl|hq
   ·exact bD.refl _
   ·exact C.tmp q hq
 have C2:eU K A st σ (upd (upd H dx (.own x)) x (.ins Cc dx [])) (iT K σ rs vs::rW ι::ts) (.ins Cc [] []) (.ref x):=C1.made (by rw[upd_ne (Ne.symm hne)];exact hx) ⟨dx,[],rfl,rfl,.nil⟩
 obtain⟨iU,ji,C3⟩:=C2.Ie
 refine qd (rs:=.o st.h.length::(rs++dv.map .d)) (C3.temps (ts':=rt K σ (.o st.h.length) (.ref x)::rW ι::ts) fun q hq=>C3.tmp q ?_) (.cons (C3.tmp (rt K σ (.o st.h.length) (.ref x)) (by simp)) (Lf (C3.tmp (iT K σ rs vs) (by simp)) (Ms (hd iU)))) e p
 rcases List.mem_cons.mp hq with h|h
 ·simp[h]
 ·rcases List.mem_cons.mp h with h|h<;>simp[h]
theorem Pu {Cc:Addr} {dv:List D} {dvs:List V} (hd:∀Hb,ak K Hb dv dvs) (ha:XA K W ta fa):XE K W (QC Cc (bJ K F) dvs (WE W) ta) (eNew Cc F dv fa):=fun A st σ H ts C Q y hy p=>by
 rcases cD hy with ⟨rs,s1,h1,h2⟩|⟨x,s1,h1,rfl⟩
 ·refine ha A st σ H ts C _ _ h1 fun vs H1 ⟨Hb,ι,C1⟩ x dx hx hdx hne=>?_
  have C2:aq K A s1 σ H1 ts Hb ι:=C1.temps fun q hq=>C1.tmp q (by simp[hq])
  cases e:dR F (.o s1.h.length::(rs++dv.map .d)) ⟨s1.s,s1.h++[.ins Cc [] []]⟩ with
  | none=>simp only[e] at h2;cases h2
  | some z=>
   refine XQ hd C2 (C1.tmp (iT K σ rs vs) (by simp)) hx hdx hne e ?_
   simp only[e] at h2
   cases z with
   | ex x' s2=>
    cases h2
    have es:=Vm e
    simp only at es
    exact fun cls d H2 X=>p cls d H2 (XO.popS (xO:=[rt K σ (.o s1.h.length) (.ref x),rW ι]) C2 es (by simp) X)
   | ok r s2=>
    cases r with
    | o n=>cases h2
    | w i=>cases h2
    | d dd=>
     cases dd<;>first|cases h2;done|skip
     cases h2
     intro v H2 ⟨cC,dh,C3⟩
     exact⟨C3.tmp (rt K σ (.d .non) v) (by simp),p _ H2 ⟨cC,dh,C3.temps fun q hq=>C3.tmp q (by rcases List.mem_cons.mp hq with h|h<;>simp[h])⟩⟩
 ·exact ha A st σ H ts C _ _ h1 p
end
end AL
namespace AL
open PySem L2 DL PyProof.Rows
section
variable {K:PySem.W.Frag} {W:WX} {tt:TT} {tb:TS} {t:M Bool} {b:S} {te:TE} {ta:TA} {f:M R} {fa:M (List R)} {g:TG} {k:G}
structure Wk where
 xs:List R
 lk:ST→Prop
open Classical in
noncomputable def forL (lk:ST→Prop) (k:G) (b:S):List R→S
 | [],st=>if lk st then some (.nx st) else none
 | r::rs,st=>if lk st then(match k r st with
  | some (.ok _ s1)=>(match b s1 with
   | some (.nx s)=>forL lk k b rs s
   | some (.ct s)=>forL lk k b rs s
   | some (.bk s)=>some (.nx s)
   | o=>o)
  | _=>none) else none
noncomputable def iQ (it:M Wk) (k:G) (b:S):S:=fun st=>match it st with
 | some (.ok w s1)=>forL w.lk k b w.xs s1
 | some (.ex x s)=>some (.ex x s)
 | none=>none
def Jp (A A':Ac):Prop:=Ex A.H A'.H
structure Walk (K:PySem.W.Frag) (A0:Ac) (J:It) (t:Tp) (w:Wk):Prop where
 goes:∀(i:Nat) A st σ H ts,Jp A0 A→Cf K A st σ H (t::ts)→w.lk st→i<w.xs.length→J.go i H
 stops:∀A st σ H ts,Jp A0 A→Cf K A st σ H (t::ts)→w.lk st→J.stop w.xs.length H
 yields:∀(i:Nat) r A st σ H x H' ts,w.xs[i]?=some r→Jp A0 A→Cf K A st σ H (t::ts)→w.lk st→J.yld i H x H'→Cf K A st σ H' (rt K σ r x::t::ts)
def PoI (K:PySem.W.Frag) (W:WX) (A:Ac) (σ:L2.St) (ts:List Tp) (Rr:It→Hp→Prop):Rx Wk→Prop
 | .ok w st=>∀J t H2,Cf K A st σ H2 (t::ts)→Walk K A J t w→Rr J H2
 | .ex x st=>∀cls d H2,XO K A ts x st cls d σ H2→W cls d σ H2
def XI (K:PySem.W.Frag) (W:WX) (wi:TI) (f:M Wk):Prop:=∀A st σ H ts,Cf K A st σ H ts→∀Rr y,f st=some y→PoI K W A σ ts Rr y→wi σ H Rr
theorem vZ {A:Ac} {J:It} {tp:Tp} {w:Wk} {fs:List Tp} {T:Ends} {y:Rs} {σ:L2.St} {H:Hp} {st:ST} (C:Cf K A st σ H (tp::fs)) (wk:Walk K A J tp w) (hg:Cj K g k) (hb:XS K W tb b) (e:forL w.lk k b w.xs st=some y) (p:jX K W A fs T y) :
  ∃W:Nat→Nat→L2.St→Hp→Prop,(∃m,W 0 m σ H)∧∀i m σ H,W i m σ H→
   (J.stop i H∧T.nx σ H)∨(J.go i H∧∃N:L2.St→Hp→Prop,(∀σ' H',N σ' H'→∃m',m'<m∧W (i+1) m' σ' H')∧∀x H',J.yld i H x H'→g x σ H' fun σ2 H2=>tb {T with nx:=N,ct:=N,bk:=T.nx} σ2 H2):=by
 let Pv:Nat→L2.St→Hp→Prop:=fun i σ H=>i≤w.xs.length∧∃st',forL w.lk k b (w.xs.drop i) st'=some y∧Cf K A st' σ H (tp::fs)
 refine⟨fun i m σ H=>m=w.xs.length-i∧Pv i σ H,⟨w.xs.length,by simp,Nat.zero_le _,st,by simpa using e,C⟩,?_⟩
 rintro i m σ H ⟨rfl,hle,st',e',C'⟩
 by_cases hlt:i<w.xs.length
 ·have hd:w.xs.drop i=w.xs[i]::w.xs.drop (i+1):=List.drop_eq_getElem_cons hlt
  rw[hd] at e'
  unfold forL at e'
  by_cases hlk:w.lk st'
  ·rw[if_pos hlk] at e'
   refine .inr ⟨wk.goes i A st' σ H fs (Ex.refl _) C' hlk hlt,Pv (i+1),fun σ' H' hN=>⟨w.xs.length-(i+1),by omega,rfl,hN⟩,fun x H' yy=>?_⟩
   have C2:=wk.yields i w.xs[i] A st' σ H x H' fs (List.getElem?_eq_getElem hlt) (Ex.refl _) C' hlk yy
   cases ek:k w.xs[i] st' with
   | none=>rw[ek] at e';cases e'
   | some z=>
    rw[ek] at e'
    cases z with
    | ex x s=>cases e'
    | ok u s1=>
     simp only at e'
     refine hg A st' σ H' (tp::fs) w.xs[i] x C2 _ s1 ek fun σ2 H2 C3=>?_
     cases eb:b s1 with
     | none=>rw[eb] at e';cases e'
     | some z=>
      rw[eb] at e'
      refine hb A s1 σ2 H2 (tp::fs) C3 _ z eb ?_
      cases z with
      | nx s=>exact fun σ3 H3 C4=>⟨hlt,s,e',C4⟩
      | ct s=>exact fun σ3 H3 C4=>⟨hlt,s,e',C4⟩
      | bk s=>cases e';exact fun σ3 H3 C4=>p σ3 H3 C4.drop
      | rt r s=>cases e';exact fun σ3 v H3 C4=>p σ3 v H3 (C4.temps fun q hq=>.inl (by rcases List.mem_cons.mp hq with h|h<;>simp[h]))
      | rn r s=>
       cases e'
       intro σ3 v H3 C4
       obtain⟨Hb,ι,a,u,C5,rr⟩:=C4
       exact p σ3 v H3 ⟨Hb,ι,a,u,C5.temps fun q hq=>C5.tmp q (by simp[hq]),rr⟩
      | ex x s=>cases e';exact fun cls d σ3 H3 X=>p cls d σ3 H3 X.drop
  ·rw[if_neg hlk] at e';cases e'
 ·have hi:i=w.xs.length:=by omega
  subst hi
  rw[List.drop_length] at e'
  unfold forL at e'
  by_cases hlk:w.lk st'
  ·rw[if_pos hlk] at e'
   cases e'
   exact .inl ⟨wk.stops A st' σ H fs (Ex.refl _) C' hlk,p σ H C'.drop⟩
  ·rw[if_neg hlk] at e';cases e'
theorem oE {wi:TI} {it:M Wk} (hi:XI K W wi it) (hg:Cj K g k) (hb:XS K W tb b):XS K W (tFor wi g tb) (iQ it k b):=fun A st σ H fs C T y hy p=>by
 unfold iQ at hy
 cases e:it st with
 | none=>rw[e] at hy;cases hy
 | some z=>
  rw[e] at hy
  cases z with
  | ex x s=>cases hy;exact hi A st σ H fs C _ _ e fun cls d H2 X=>p cls d σ H2 X
  | ok w s1=>exact hi A st σ H fs C _ _ e fun J t H2 C2 wk=>vZ C2 wk hg hb hy p
def bR:ST→Prop:=fun _=>True
def jm:Tp:=⟨fun _ _=>True,fun _ _ _ _ _ _ _=>trivial,fun _ _ _ _ _ _ _=>trivial⟩
def lM (f:M (List R)):M Wk:=f.of fun _ rs=>match rs with
 | [.d (.int n)]=>if -1000000000≤n∧n≤1000000000 then some ⟨(mY 0 n.toNat).map .d,bR⟩ else none
 | _=>none
theorem Vn {lo:Int} {n:Nat} {A0:Ac}:Walk K A0 (Itr lo n) jm ⟨(mY lo n).map .d,bR⟩ where
 goes:=fun i A st σ H ts _ C _ h=>by show i<n;simpa [K6] using h
 stops:=fun A st σ H ts _ C _=>by show n≤_;simp[K6]
 yields:=fun i r A st σ H x H' ts h _ C _ y=>by
  obtain⟨e1,e2⟩:=y
  rw[List.getElem?_map] at h
  obtain⟨d,hd,rfl⟩:=Option.map_eq_some_iff.mp h
  obtain⟨_,rfl⟩:=Vf hd
  subst e1 e2
  exact C.temps fun q hq=>(List.mem_cons.mp hq).elim (fun z=>.inr fun ι Hb=>by rw[z];show Rp K Hb _ _;unfold Rp;rfl) .inl
theorem qj (hf:XA K W ta fa):XI K W (iRng1 ta) (lM fa):=fun A st σ H ts C Rr y hy p=>by
 rcases ju hy with ⟨rs,s1,b,h1,h2,rfl⟩|⟨x,s1,h1,rfl⟩
 ·split at h2
  ·rename_i n
   refine hf A st σ H ts C _ _ h1 fun vs H1 ⟨Hb,ι,C1⟩=>?_
   obtain⟨hn,rfl⟩:=ite_some h2
   obtain⟨v,rfl,hv⟩:=mV (C1.tmp (iT K σ [.d (.int n)] vs) (by simp))
   cases (show v=.int n from hv)
   exact⟨n,rfl,by omega,by omega,p _ jm H1 ⟨Hb,ι,C1.temps fun q hq=>(List.mem_cons.mp hq).elim (fun e=>by rw[e];trivial) fun hq=>C1.tmp q (by simp[hq])⟩ Vn⟩
  ·cases h2
 ·exact hf A st σ H ts C _ _ h1 p
def u_ (st:ST) (r:R):Option Wk:=match r with
 | .d (.lst ds)=>some ⟨ds.map .d,bR⟩
 | .d _=>none
 | r=>match aU st r with
  | some (.lst ds)=>some ⟨ds.map .d,fun s=>aU s r=some (.lst ds)⟩
  | some (.bO xs)=>some ⟨xs,fun s=>aU s r=some (.bO xs)⟩
  | _=>none
theorem Wi {a:Addr} {t:Tp} {w:Wk} {A0:Ac} (hw:∀A st σ H ts,Cf K A st σ H (t::ts)→w.lk st→∃Hb ι vs,aq K A st σ H (t::ts) Hb ι∧SqL K H a vs∧bx K ι Hb w.xs vs):Walk K A0 (Itl K a) t w where
 goes:=fun i A st σ H ts _ C hl h=>by
  obtain⟨Hb,ι,vs,_,s,r⟩:=hw A st σ H ts C hl
  have hv:i<vs.length:=by rw[← Paired.length r];exact h
  exact⟨vs,vs[i],s,List.getElem?_eq_getElem hv⟩
 stops:=fun A st σ H ts _ C hl=>by
  obtain⟨Hb,ι,vs,_,s,r⟩:=hw A st σ H ts C hl
  exact⟨vs,s,by rw[Paired.length r];exact Nat.le_refl _⟩
 yields:=fun i r A st σ H x H' ts h _ C hl y=>by
  obtain⟨e1,e2⟩:=y
  subst e1
  obtain⟨Hb,ι,vs,C2,s,q⟩:=hw A st σ _ ts C hl
  obtain⟨v,hv,rv⟩:=bx.get q h
  have:=e2 vs s
  rw[hv] at this;cases this
  exact C2.one (qN rv)
def Ru (K:PySem.W.Frag) (a:Addr) (vs:List V) (ds:List D):Tp:=⟨fun _ Hb=>Rd Hb a (.lst vs)∧ak K Hb ds vs,fun _ _ _ _ _ r h=>⟨r.ls h.1,ak.mono r _ _ h.2⟩,fun _ _ _ _ _ _ h=>h⟩
def nu (a:Addr) (n:Nat):Tp:=⟨fun ι _=>ι[n]?=some a,fun _ _ _ _ p _ h=>p.get h,fun _ _ _ _ _ h _=>h⟩
theorem XR {A:Ac} {st:ST} {σ:L2.St} {H Hb:Hp} {ts:List Tp} {ι:List Addr} {r:R} {v:V} {w:Wk} (C:aq K A st σ H ts Hb ι) (hr:Rt K σ ι Hb r v) (h:u_ st r=some w) (hn:∀i,r≠.w i):∃a t vs,v=.ref a∧SqL K H a vs∧Cf K A st σ H (t::ts)∧(∀A st σ H ts,Cf K A st σ H (t::ts)→w.lk st→∃Hb ι vs,aq K A st σ H (t::ts) Hb ι∧SqL K H a vs∧bx K ι Hb w.xs vs):=by
 cases r with
 | w i=>exact absurd rfl (hn i)
 | d x=>
  obtain⟨ds,rfl⟩:∃ds,x=.lst ds:=by cases x<;>first|exact⟨_,rfl⟩|cases h
  cases h
  have hr:Rp K Hb (.lst ds) v:=hr
  unfold Rp at hr
  obtain⟨a,vs,rfl,s,q⟩:=hr
  refine⟨a,Ru K a vs ds,vs,rfl,.inl (C.bH.rl.ls s),⟨Hb,ι,C.temps fun z hz=>(List.mem_cons.mp hz).elim (fun e=>by rw[e];exact⟨s,q⟩) (C.tmp z)⟩,fun A st σ H ts ⟨Hb,ι,C⟩ _=>?_⟩
  have q:(Ru K a vs ds).p ι Hb:=C.tmp _ (by simp)
  exact⟨Hb,ι,vs,C,.inl (C.bH.rl.ls q.1),vN q.2⟩
 | o n=>
  obtain⟨a,e,rfl⟩:=hr
  have Ct:Cf K A st σ H (nu a n::ts):=⟨Hb,ι,C.temps fun z hz=>(List.mem_cons.mp hz).elim (fun y=>by rw[y];exact e) (C.tmp z)⟩
  have key:∀{b:Ob} {w:Wk},(∀ι Hb u,dF K ι Hb b u→∃vs,u=.lst vs∧bx K ι Hb w.xs vs)→w.lk=(fun s=>aU s (.o n)=some b)→∀A st σ H ts,Cf K A st σ H (nu a n::ts)→w.lk st→∃Hb ι vs,aq K A st σ H (nu a n::ts) Hb ι∧SqL K H a vs∧bx K ι Hb w.xs vs:=fun {b w} hb hk A st σ H ts ⟨Hb,ι,C⟩ hl=>by
   rw[hk] at hl
   have e:ι[n]?=some a:=C.tmp (nu a n) (by simp)
   obtain⟨a',u,g1,g2,g3,_⟩:=C.obj n b hl
   rw[e] at g1;cases g1
   obtain⟨vs,rfl,q⟩:=hb _ _ _ g3
   exact⟨Hb,ι,vs,C,.inl (.inl g2),q⟩
  cases q:st.h[n]? with
  | none=>simp only[u_,aU,q] at h;cases h
  | some b=>
   obtain⟨a',u,g1,g2,g3,_⟩:=C.obj n b q
   rw[e] at g1;cases g1
   simp only[u_,aU,q] at h
   cases b with
   | lst ds=>
    cases h
    obtain⟨vs,rfl,qq⟩:=g3
    exact⟨_,_,vs,rfl,.inl (.inl g2),Ct,key (b:=.lst ds) (w:=⟨ds.map .d,fun s=>aU s (.o n)=some (.lst ds)⟩) (fun ι Hb u ⟨vs,e,q⟩=>⟨vs,e,vN q⟩) rfl⟩
   | bO xs=>
    cases h
    obtain⟨vs,rfl,qq⟩:=g3
    exact⟨_,_,vs,rfl,.inl (.inl g2),Ct,key (b:=.bO xs) (w:=⟨xs,fun s=>aU s (.o n)=some (.bO xs)⟩) (fun ι Hb u ⟨vs,e,q⟩=>⟨vs,e,q⟩) rfl⟩
   | _=>cases h
def Jq (st:ST) (r:R):Option Wk:=match r with
 | .w _=>none
 | r=>u_ st r
theorem X4 {st:ST} {r:R} {w:Wk} (h:Jq st r=some w):u_ st r=some w∧∀i,r≠.w i:=by
 cases r with
 | w i=>cases h
 | d x=>exact⟨h,fun i z=>nomatch z⟩
 | o n=>exact⟨h,fun i z=>nomatch z⟩
def wL (f:M R):M Wk:=f.of Jq
theorem N5 (hf:XE K W te f):XI K W (iList K te) (wL f):=fun A st σ H ts C Rr y hy p=>by
 rcases ju hy with ⟨r,s1,w,h1,h2,rfl⟩|⟨x,s1,h1,rfl⟩
 ·refine hf A st σ H ts C _ _ h1 fun v H1 ⟨Hb,ι,C1⟩=>?_
  obtain⟨h3,h4⟩:=X4 h2
  obtain⟨a,t,vs,rfl,s,C2,hw⟩:=XR (C1.temps (ts':=ts) fun q hq=>C1.tmp q (by simp[hq])) (C1.tmp (rt K σ r v) (by simp)) h3 h4
  exact⟨a,rfl,⟨vs,s⟩,p _ t H1 C2 (Wi hw)⟩
 ·exact hf A st σ H ts C _ _ h1 p
def wS (f:M R):M Wk:=f.of fun _ r=>match r with
 | .d (.str s)=>some ⟨(uF s).map .d,bR⟩
 | _=>none
theorem Wj {s:Str} {A0:Ac}:Walk K A0 (Its s) jm ⟨(uF s).map .d,bR⟩ where
 goes:=fun i A st σ H ts _ C _ h=>by
  have:i<s.length:=by simpa [K7] using h
  exact this
 stops:=fun A st σ H ts _ C _=>by
  show s.cps.size≤_
  rw[List.length_map,K7];exact Nat.le_refl _
 yields:=fun i r A st σ H x H' ts h _ C _ y=>by
  obtain⟨e1,c,hc,rfl⟩:=y
  subst e1
  rw[List.getElem?_map] at h
  obtain⟨d,hd,rfl⟩:=Option.map_eq_some_iff.mp h
  unfold uF at hd
  rw[List.getElem?_map,Array.getElem?_toList,hc] at hd
  cases hd
  exact C.temps fun q hq=>(List.mem_cons.mp hq).elim (fun z=>.inr fun ι Hb=>by rw[z];show Rp K Hb _ _;unfold Rp;rfl) .inl
theorem X5 (hf:XE K W te f):XI K W (iStr te) (wS f):=fun A st σ H ts C Rr y hy p=>by
 rcases ju hy with ⟨r,s1,w,h1,h2,rfl⟩|⟨x,s1,h1,rfl⟩
 ·split at h2
  ·rename_i s
   cases h2
   refine hf A st σ H ts C _ _ h1 fun v H1 ⟨Hb,ι,C1⟩=>?_
   have hv:v=.str s:=C1.tmp (rt K σ (.d (.str s)) v) (by simp)
   exact⟨s,hv,p _ jm H1 ⟨Hb,ι,C1.temps fun z hz=>(List.mem_cons.mp hz).elim (fun e=>by rw[e];trivial) fun hz=>C1.tmp z (by simp[hz])⟩ Wj⟩
  ·cases h2
 ·exact hf A st σ H ts C _ _ h1 p
end
def cR (s:List Sv):List Nat→List Sv
 | []=>s
 | v::vs=>(cR s vs).set v .no
open Classical in
noncomputable def gJ (lk:ST→Prop) (k:G) (t:M Bool) (e:M R) (vs:List Nat) (st0:ST):List R→Option (List D)
 | []=>if lk st0 then some [] else none
 | r::rs=>if lk st0 then(match k r st0 with
  | some (.ok _ s1)=>if (⟨cR s1.s vs,s1.h⟩:ST)=st0 then(match t s1 with
   | some (.ok true s2)=>if s2=s1 then(match e s1 with
    | some (.ok (.d x) s3)=>if s3=s1 then(gJ lk k t e vs st0 rs).map (x::·) else none
    | _=>none) else none
   | some (.ok false s2)=>if s2=s1 then gJ lk k t e vs st0 rs else none
   | _=>none) else none
  | _=>none) else none
noncomputable def rY (it:M Wk) (k:G) (t:M Bool) (e:M R) (vs:List Nat):M Ob:=fun st=>match it st with
 | some (.ok w s1)=>if w.xs.length≤16000000 then(gJ w.lk k t e vs ⟨cR s1.s vs,s1.h⟩ w.xs).map fun ds=>.ok (.lst ds) ⟨cR s1.s vs,s1.h⟩ else none
 | some (.ex x s)=>some (.ex x s)
 | none=>none
section
variable {K:PySem.W.Frag} {W:WX} {A:Ac} {st:ST} {σ:L2.St} {H Hb:Hp} {ts:List Tp} {ι:List Addr} {tt:TT} {t:M Bool} {te:TE} {e:M R} {g:TG} {k:G} {vs:List Nat} {wi:TI} {it:M Wk}
theorem aq.Il (C:aq K A st σ H ts Hb ι):∀vs,aq K A ⟨cR st.s vs,st.h⟩ (wipe σ vs) H ts Hb ι
 | []=>C
 | v::vs=>(aq.Il C vs).Cd v none
theorem aq.Z4 (C:aq K A st (wipe σ vs) H ts Hb ι):aq K A st σ H ts Hb ι:=
 {C with
  len:=by rw[← C.len,wipe_length]
  val:=fun j r h=>by
   obtain⟨v,a,c⟩:=C.val j r h
   exact⟨v,(wipe_some a).1,c⟩
  own:=fun j b h=>by
   obtain⟨a,u,h1,rr⟩:=C.own j b h
   exact⟨a,u,(wipe_some h1).1,rr⟩
  dsl:=fun i j b c a h1 h2 e1 e2=>by
   obtain⟨a1,u1,g1,_⟩:=C.own i b h1
   obtain⟨a2,u2,g2,_⟩:=C.own j c h2
   have q1:=(wipe_some g1).1
   have q2:=(wipe_some g2).1
   rw[e1] at q1;cases q1
   rw[e2] at q2;cases q2
   exact C.dsl i j b c _ h1 h2 g1 g2}
theorem FJ (τ:L2.St) (i:Nat):∀us:List Nat,(wipe τ us)[i]?=if i∈us then(τ[i]?).map fun _=>none else τ[i]?
 | []=>by simp[wipe]
 | u::us=>by
  unfold wipe
  rw[List.getElem?_set]
  by_cases q:u=i
  ·subst q
   rw[if_pos rfl,if_pos (List.mem_cons_self ..),wipe_length]
   by_cases z:u<τ.length
   ·rw[if_pos z,List.getElem?_eq_getElem z];rfl
   ·rw[if_neg z,List.getElem?_eq_none (by omega)];rfl
  ·rw[if_neg q,FJ τ i us]
   by_cases z:i∈us
   ·rw[if_pos z,if_pos (List.mem_cons_of_mem _ z)]
   ·rw[if_neg z,if_neg (fun y=>(List.mem_cons.mp y).elim (fun e=>q e.symm) z)]
theorem Lg {j:Nat} {x:Option V} (hj:j∈vs):wipe (σ.set j x) vs=wipe σ vs:=by
 refine List.ext_getElem? fun i=>?_
 rw[FJ,FJ,List.getElem?_set]
 by_cases z:i∈vs
 ·rw[if_pos z,if_pos z]
  by_cases q:j=i
  ·subst q
   rw[if_pos rfl]
   by_cases y:j<σ.length
   ·rw[if_pos y,List.getElem?_eq_getElem y];rfl
   ·rw[if_neg y,List.getElem?_eq_none (by omega)]
  ·rw[if_neg q]
 ·rw[if_neg z,if_neg z]
  have q:¬j=i:=fun q=>z (q▸hj)
  rw[if_neg q]
def xP (K:PySem.W.Frag) (vs:List Nat) (g:TG) (k:G):Prop:=∀A st σ H ts r v,Cf K A st σ H (rt K σ r v::ts)→∀(Q:L2.St→Hp→Prop) st',k r st=some (.ok () st')→(∀σ2 H2,Cf K A st' σ2 H2 ts→wipe σ2 vs=wipe σ vs→Q σ2 H2)→g v σ H Q
theorem yU {i:Nat} (hi:i∈vs):xP K vs (gName i) (gN i):=fun A st σ H ts r v ⟨Hb,ι,C⟩ Q st' h p=>by
 have hr:Rt K σ ι Hb r v:=C.tmp (rt K σ r v) (by simp)
 have C2:aq K A st σ H ts Hb ι:=C.temps fun q hq=>C.tmp q (by simp[hq])
 cases r with
 | w j=>cases h
 | d x=>cases h;exact p _ H ⟨Hb,ι,C2.uH (r:=.d x) hr i⟩ (Lg hi)
 | o n=>cases h;exact p _ H ⟨Hb,ι,C2.uH (r:=.o n) hr i⟩ (Lg hi)
theorem aq.fin (C:aq K A st σ H ts Hb ι) {p:Addr} {o:HO} (h0:A.H p=none) (h1:H p=some o) (h2:Hb p=none) (h3:p∉ι) (h4:∀(i:Nat) c,st.s[i]?=some (.own c)→σ[i]?≠some (some (.ref p))):aq K ⟨upd A.H p o,A.B,A.ι⟩ st σ H ts Hb ι:=
 {C with
  keep:=fun a u e n=>by
   have e:upd A.H p o a=some u:=e
   by_cases q:a=p
   ·subst q;rw[upd_same] at e;cases e;exact h1
   ·rw[upd_ne q] at e;exact C.keep a u e n
  ap:=fun a h5 h6=>by
   have h6:upd A.H p o a≠none:=h6
   by_cases q:a=p
   ·subst q;exact h2
   ·rw[upd_ne q] at h6;exact C.ap a h5 h6
  own:=fun i b h=>by
   obtain⟨a,u,e1,e2,e3,e4,e5,e6,e7⟩:=C.own i b h
   have q:a≠p:=fun z=>h4 i b h (by rw[e1,z])
   exact⟨a,u,e1,e2,e3,e4,e5,by show upd A.H p o a=none;rw[upd_ne q];exact e6,e7⟩
  new:=fun a hm=>by
   have q:a≠p:=fun z=>h3 (z▸hm)
   exact(C.new a hm).imp id fun z o' e=>by
    have e:upd A.H p o a=some o':=e
    rw[upd_ne q] at e;exact z o' e}
theorem aq.fout {p:Addr} {o:HO} (C:aq K ⟨upd A.H p o,A.B,A.ι⟩ st σ H ts Hb ι) (h0:A.H p=none) (h1:A.B p=none) (h2:p∉A.ι) (hz:kJ o=false:=by rfl):aq K A st σ H ts Hb ι∧H p=some o∧Hb p=none∧p∉ι∧∀(i:Nat) c,st.s[i]?=some (.own c)→σ[i]?≠some (some (.ref p)):=by
 have hp:upd A.H p o p=some o:=upd_same
 have ne:∀{a:Addr},A.H a≠none→a≠p:=fun h z=>h (by rw[z];exact h0)
 refine⟨{C with keep:=fun a u e n=>C.keep a u ?_ n,ap:=fun a h5 h6=>C.ap a h5 ?_,own:=fun i b h=>?_,new:=fun a hm=>?_},C.keep p o hp (.inl h2),C.ap p h1 (by show upd A.H p o p≠none;rw[hp];exact fun z=>nomatch z),fun hm=>?_,fun i c hc e=>?_⟩
 ·show upd A.H p o a=some u
  rw[upd_ne (ne (by rw[e];exact fun z=>nomatch z))];exact e
 ·show upd A.H p o a≠none
  rw[upd_ne (ne h6)];exact h6
 ·obtain⟨a,u,e1,e2,e3,e4,e5,e6,e7⟩:=C.own i b h
  have e6:upd A.H p o a=none:=e6
  have q:a≠p:=fun z=>by rw[z,upd_same] at e6;cases e6
  rw[upd_ne q] at e6
  exact⟨a,u,e1,e2,e3,e4,e5,e6,e7⟩
 ·rcases C.new a hm with z|z
  ·exact .inl z
  ·refine .inr fun o' e=>z o' ?_
   show upd A.H p o a=some o'
   rw[upd_ne (ne (by rw[e];exact fun z=>nomatch z))];exact e
 ·rcases C.new p hm with z|z
  ·exact h2 z
  ·have:=z o hp
   rw[hz] at this;cases this
 ·obtain⟨a,u,e1,_,_,_,_,e6,_⟩:=C.own i c hc
  rw[e] at e1;cases e1
  have e6:upd A.H p o p=none:=e6
  rw[upd_same] at e6;cases e6
theorem aq.QL (C:aq K A st σ H ts Hb ι) {p:Addr} {o:HO} (h1:A.H p=none) (h2:Hb p=none) (h3:p∉ι) (h4:∀(i:Nat) c,st.s[i]?=some (.own c)→σ[i]?≠some (some (.ref p))):aq K A st σ (upd H p o) ts Hb ι:=
 {C with
  keep:=fun a u e n=>by
   have q:a≠p:=fun z=>by rw[z,h1] at e;cases e
   rw[upd_ne q];exact C.keep a u e n
  bH:=fun a u e=>by
   have q:a≠p:=fun z=>by rw[z,h2] at e;cases e
   rw[upd_ne q];exact C.bH a u e
  obj:=fun n b e=>by
   obtain⟨a,u,e1,e2,e3⟩:=C.obj n b e
   have q:a≠p:=fun z=>h3 (z▸List.mem_of_getElem? e1)
   exact⟨a,u,e1,by rw[upd_ne q];exact e2,e3⟩
  own:=fun i b e=>by
   obtain⟨a,u,e1,e2,e3⟩:=C.own i b e
   have q:a≠p:=fun z=>h4 i b e (by rw[e1,z])
   exact⟨a,u,e1,by rw[upd_ne q];exact e2,e3⟩}
theorem Gm {lk:ST→Prop} {st0:ST}:∀{rs:List R} {ds:List D},gJ lk k t e vs st0 rs=some ds→ds.length≤rs.length
 | [],ds,h=>by
  unfold gJ at h
  split at h
  ·cases h;simp
  ·cases h
 | r::rs,ds,h=>by
  unfold gJ at h
  split at h
  ·split at h
   ·split at h
    ·split at h
     ·split at h
      ·split at h
       ·split at h
        ·obtain⟨x,hx,rfl⟩:=Option.map_eq_some_iff.mp h
         have:=Gm hx
         simp;omega
        ·cases h
       ·cases h
      ·cases h
     ·split at h
      ·have:=Gm h;simp;omega
      ·cases h
     ·cases h
    ·cases h
   ·cases h
  ·cases h
theorem Ar {A:Ac} {s1:ST} {σ:L2.St} {H1:Hp} {ts:List Tp} {J:It} {tp:Tp} {w:Wk} {all:List D} {Q:VK} (hg:xP K vs g k) (ht:XT K W tt t) (he:XE K W te e) (C1:Cf K A s1 σ H1 (tp::ts)) (wk:Walk K A J tp w) (hlen:w.xs.length≤16000000)
  (hall:gJ w.lk k t e vs ⟨cR s1.s vs,s1.h⟩ w.xs=some all) (p:∀v H2,eU K A ⟨cR s1.s vs,s1.h⟩ σ H2 ts (.lst all) v→Q v H2):tLc (fun _ H R=>R J H) g tt te vs σ H1 Q:=by
 intro P hP
 obtain⟨jj,jk,C1⟩:=C1
 have C1:=C1.Il vs
 generalize hst0:(⟨cR s1.s vs,s1.h⟩:ST)=st0 at C1 hall p
 obtain⟨f1,f2,f3,f4⟩:=C1.fresh hP
 have hAB:A.B P=none:=C1.eB.none f1
 have aaY:P∉A.ι:=fun z=>f2 (C1.pre.mem z)
 refine⟨fun i m H=>m=w.xs.length-i∧i≤w.xs.length∧∃acc done rest Hb ι,aq K A st0 (wipe σ vs) H (tp::ts) Hb ι∧H P=some (.lst acc)∧Hb P=none∧P∉ι∧(∀(i:Nat) c,st0.s[i]?=some (.own c)→(wipe σ vs)[i]?≠some (some (.ref P)))∧ak K Hb done acc∧gJ w.lk k t e vs st0 (w.xs.drop i)=some rest∧all=done++rest,
  ⟨w.xs.length,by simp,Nat.zero_le _,[],[],all,jj,jk,C1.QL f3 f1 f2 f4,upd_same,f1,f2,f4,ak.nil,by simpa using hall,rfl⟩,?_⟩
 rintro i m H2 ⟨rfl,hle,acc,done,rest,Hb,ι,C2,hP2,hbP,QM,Rv,ra,hrest,hal⟩
 by_cases hlt:i<w.xs.length
 ·have hd:w.xs.drop i=w.xs[i]::w.xs.drop (i+1):=List.drop_eq_getElem_cons hlt
  rw[hd] at hrest
  unfold gJ at hrest
  by_cases hlk:w.lk st0
  ·rw[if_pos hlk] at hrest
   refine .inr ⟨wk.goes i A st0 _ H2 ts (Ex.refl _) ⟨Hb,ι,C2⟩ hlk hlt,fun H'=>∃acc done rest Hb ι,aq K A st0 (wipe σ vs) H' (tp::ts) Hb ι∧H' P=some (.lst acc)∧Hb P=none∧P∉ι∧(∀(i:Nat) c,st0.s[i]?=some (.own c)→(wipe σ vs)[i]?≠some (some (.ref P)))∧ak K Hb done acc∧gJ w.lk k t e vs st0 (w.xs.drop (i+1))=some rest∧all=done++rest,
    fun H' hN=>⟨w.xs.length-(i+1),by omega,rfl,hlt,hN⟩,fun x H3 yy=>?_⟩
   have C3:Cf K ⟨upd A.H P (.lst acc),A.B,A.ι⟩ st0 (wipe σ vs) H2 (tp::Jm K done acc::ts):=⟨Hb,ι,(C2.fin f3 hP2 hbP QM Rv).temps fun q hq=>by
    rcases List.mem_cons.mp hq with rfl|hq
    ·exact C2.tmp q (by simp)
    ·rcases List.mem_cons.mp hq with rfl|hq
     ·exact ra
     ·exact C2.tmp q (by simp[hq])⟩
   have C4:=wk.yields i w.xs[i] ⟨upd A.H P (.lst acc),A.B,A.ι⟩ st0 _ H2 x H3 _ (List.getElem?_eq_getElem hlt) (Ex.new f3) C3 hlk yy
   cases ek:k w.xs[i] st0 with
   | none=>rw[ek] at hrest;cases hrest
   | some z=>
    rw[ek] at hrest
    cases z with
    | ex x s=>cases hrest
    | ok u sb=>
     simp only at hrest
     by_cases hback:(⟨cR sb.s vs,sb.h⟩:ST)=st0
     ·rw[if_pos hback] at hrest
      refine hg _ st0 _ H3 _ w.xs[i] x C4 _ sb ek fun σ2 H4 C5 e2=>⟨by rw[e2,Kz],?_⟩
      rw[Kz] at e2
      have back:∀{H5:Hp} {us:List Tp},Cf K ⟨upd A.H P (.lst acc),A.B,A.ι⟩ sb σ2 H5 us→∃Hb ι,aq K A st0 (wipe σ vs) H5 us Hb ι∧H5 P=some (.lst acc)∧Hb P=none∧P∉ι∧∀(i:Nat) c,st0.s[i]?=some (.own c)→(wipe σ vs)[i]?≠some (some (.ref P)):=fun {H5 us} ⟨cP,dw,C6⟩=>by
       have C7:=C6.Il vs
       rw[hback,e2] at C7
       obtain⟨a,b,c,d,e⟩:=C7.fout f3 hAB aaY
       exact⟨cP,dw,a,b,c,d,e⟩
      cases et:t sb with
      | none=>rw[et] at hrest;cases hrest
      | some z=>
       rw[et] at hrest
       cases z with
       | ex x s=>cases hrest
       | ok b s2=>
        cases b with
        | true=>
         simp only at hrest
         by_cases hs2:s2=sb
         ·rw[if_pos hs2] at hrest
          subst hs2
          refine ht _ s2 σ2 H4 _ C5 _ _ et fun H5 C6=>?_
          rw[if_pos rfl]
          cases ee:e s2 with
          | none=>rw[ee] at hrest;cases hrest
          | some z=>
           rw[ee] at hrest
           cases z with
           | ex x s=>cases hrest
           | ok r s3=>
            cases r with
            | o n=>cases hrest
            | w j=>cases hrest
            | d xd=>
             simp only at hrest
             by_cases hs3:s3=s2
             ·rw[if_pos hs3] at hrest
              subst hs3
              obtain⟨rest',hr',hrr⟩:=Option.map_eq_some_iff.mp hrest
              refine he _ s3 σ2 H5 _ C6 _ _ ee fun yv H6 C7=>?_
              obtain⟨vf,Jr,C8,a,b,c,d⟩:=back C7
              have ry:Rp K vf xd yv:=C8.tmp (rt K σ2 (.d xd) yv) (by simp)
              have rr:ak K vf done acc:=C8.tmp (Jm K done acc) (by simp)
              refine⟨acc,a,?_,acc++[yv],done++[xd],rest',vf,Jr,(C8.temps (ts':=tp::ts) fun q hq=>C8.tmp q (by rcases List.mem_cons.mp hq with h|h<;>simp[h])).QL f3 b c d,upd_same,b,c,d,rr.app (ak.one ry),hr',by rw[hal,← hrr];simp⟩
              have hdl:done.length<w.xs.length:=by
               have h1:=Gm hall
               have h2:all.length=done.length+rest.length:=by rw[hal];simp
               rw[← hrr] at h2
               simp at h2;omega
              rw[← rr.len,sizeLine_eq];omega
             ·rw[if_neg hs3] at hrest;cases hrest
         ·rw[if_neg hs2] at hrest;cases hrest
        | false=>
         simp only at hrest
         by_cases hs2:s2=sb
         ·rw[if_pos hs2] at hrest
          subst hs2
          refine ht _ s2 σ2 H4 _ C5 _ _ et fun H5 C6=>?_
          rw[if_neg Bool.false_ne_true]
          obtain⟨vf,Jr,C8,a,b,c,d⟩:=back C6
          have rr:ak K vf done acc:=C8.tmp (Jm K done acc) (by simp)
          exact⟨acc,done,rest,vf,Jr,C8.temps (ts':=tp::ts) fun q hq=>C8.tmp q (by rcases List.mem_cons.mp hq with h|h<;>simp[h]),a,b,c,d,rr,hrest,hal⟩
         ·rw[if_neg hs2] at hrest;cases hrest
     ·rw[if_neg hback] at hrest;cases hrest
  ·rw[if_neg hlk] at hrest;cases hrest
 ·have hi':i=w.xs.length:=by omega
  subst hi'
  rw[List.drop_length] at hrest
  unfold gJ at hrest
  by_cases hlk:w.lk st0
  ·rw[if_pos hlk] at hrest
   cases hrest
   rw[List.append_nil] at hal
   subst hal
   refine .inl ⟨wk.stops A st0 _ H2 ts (Ex.refl _) ⟨Hb,ι,C2⟩ hlk,p _ H2 ⟨Hb,ι,P,_,(C2.Z4).temps fun q hq=>C2.tmp q (by simp[hq]),rfl,hP2,⟨acc,rfl,ra⟩,hbP,QM,f3,rfl,fun i c hc z=>?_⟩⟩
   obtain⟨a,u,e1,_⟩:=C2.own i c hc
   have:=(wipe_some e1).1
   rw[z] at this;cases this
   exact Rv i c hc e1
  ·rw[if_neg hlk] at hrest;cases hrest
theorem Px (hi:XI K W wi it) (hg:xP K vs g k) (ht:XT K W tt t) (he:XE K W te e):XN K W (tLc wi g tt te vs) (rY it k t e vs):=fun A st σ H ts C Q y hy p=>by
 unfold rY at hy
 cases ei:it st with
 | none=>rw[ei] at hy;cases hy
 | some z=>
  rw[ei] at hy
  cases z with
  | ex x s=>cases hy;exact hi A st σ H ts C _ _ ei p
  | ok w s1=>
   simp only at hy
   by_cases hlen:w.xs.length≤16000000
   ·rw[if_pos hlen] at hy
    obtain⟨all,hall,rfl⟩:=Option.map_eq_some_iff.mp hy
    exact hi A st σ H ts C _ _ ei fun J tp H1 C1 wk=>Ar hg ht he C1 wk hlen hall p
   ·rw[if_neg hlen] at hy;cases hy
end
end AL
namespace AL
open PySem L2 DL PyProof.Rows
def zP:M R:=fun _=>none
open Classical in
noncomputable def jY (C:Addr) (p:Str) (fa:M (List R)):S:=fun st=>match fa st with
 | some (.ok [.d x] st')=>if dU x then some (.ex ⟨C,[p],[x]⟩ st') else none
 | some (.ex x st')=>some (.ex x st')
 | _=>none
section
variable {K:PySem.W.Frag} {W:WX} {A:Ac} {st:ST} {σ:L2.St} {H Hb:Hp} {ts:List Tp} {ι:List Addr} {ta:TA} {fa:M (List R)} {te:TE} {f:M R}
theorem pX {C:Addr} {q:Str} (ha:XA K W ta fa):XS K W (DL.Qy C q W ta) (jY C q fa):=fun A st σ H fs Cc T y hy p=>by
 unfold jY at hy
 split at hy
 ·rename_i x st' h1
  by_cases hx:dU x
  ·rw[if_pos hx] at hy
   cases hy
   refine ha A st σ H fs Cc _ _ h1 fun vs H1 ⟨Hb,ι,C1⟩=>?_
   obtain⟨v,rfl,hv⟩:=mV (C1.tmp (iT K σ [.d x] vs) (by simp))
   have hv:Rp K Hb x v:=hv
   refine⟨v,rfl,hx.v hv,fun dd hdd=>p _ _ σ _ ?_⟩
   have C2:aq K A st' σ H1 fs Hb ι:=C1.temps fun q hq=>C1.tmp q (by simp[hq])
   obtain⟨f1,f2,f3,f4⟩:=C2.fresh hdd
   exact⟨Hb,ι,dd,[v],C2.Hj (Ex.new hdd) (Ex.refl _) (C2.bH.trans (Ex.new hdd)) (fun a h1 h2=>absurd h1 h2),rfl,rfl,upd_same,rfl,ak.one hv,f3,f1⟩
  ·rw[if_neg hx] at hy;cases hy
 ·rename_i x st' h1
  cases hy
  exact ha A st σ H fs Cc _ _ h1 fun cls d H2 X=>p cls d σ H2 X
 ·cases hy
structure Hd where
 m:Addr→Option Bool
 nm:Option Nat
 g:XD→Addr→Addr→S
open Classical in
noncomputable def uN (g:Addr→Addr→S):S:=fun st=>if h:∃y,∀a d,g a d st=some y then some (Classical.choose h) else none
theorem Wm {g:Addr→Addr→S} {st:ST} {y:Rs} (h:∀a d,g a d st=some y):uN g st=some y:=by
 have hh:∃y,∀a d,g a d st=some y:=⟨y,h⟩
 unfold uN
 rw[dif_pos hh]
 have e:=Classical.choose_spec hh 0 0
 rw[h 0 0] at e;exact e.symm
theorem Lh {g:Addr→Addr→S} {st:ST} {y:Rs} (h:uN g st=some y):∀a d,g a d st=some y:=by
 unfold uN at h
 split at h
 ·rename_i hh
  cases h
  exact Classical.choose_spec hh
 ·cases h
def QS (i:Nat):Rs→Rs
 | .nx st=>.nx ⟨st.s.set i .no,st.h⟩
 | .bk st=>.bk ⟨st.s.set i .no,st.h⟩
 | .ct st=>.ct ⟨st.s.set i .no,st.h⟩
 | .rt r st=>.rt r ⟨st.s.set i .no,st.h⟩
 | .rn r st=>.rn r ⟨st.s.set i .no,st.h⟩
 | .ex x st=>.ex x ⟨st.s.set i .no,st.h⟩
noncomputable def hdl:List Hd→XD→S
 | [],x,st=>some (.ex x st)
 | h::r,x,st=>match h.m x.C with
  | some true=>(match h.nm with
   | none=>uN (h.g x) st
   | some i=>uN (fun a d st=>(h.g x a d ⟨st.s.set i (.v (.d (.exc a x.C d x.fs x.ds))),st.h⟩).map (QS i)) st)
  | some false=>hdl r x st
  | none=>none
noncomputable def oU (b:S) (hs:List Hd):S:=fun st=>match b st with
 | some (.ex x st')=>hdl hs x st'
 | o=>o
structure aaZ (K:PySem.W.Frag) (W:WX) (c:mZ) (h:Hd):Prop where
 m:∀C b,h.m C=some b→PySem.W.exmOne K (.ref C) c.c=some b
 nm:c.nm=h.nm
 g:∀x a d,XS K W (c.ts a (.ref x.C) (some d)) (h.g x a d)
theorem aq.aa0 (C:aq K A st σ H ts Hb ι) {dd:Addr} {fs:List (Str×V)} (h1:H dd=some (.xd fs)) (h2:Hb dd=none) (h3:A.H dd=none):aq K A st σ H ts (upd Hb dd (.xd fs)) ι:=by
 obtain⟨n1,n2⟩:=C.nX h1
 have eb:Ex Hb (upd Hb dd (.xd fs)):=Ex.new h2
 refine {C with eB:=C.eB.trans eb,bH:=fun a o e=>?_,ap:=fun a e1 e2=>?_,val:=fun i r h=>?_,obj:=fun n b h=>?_,own:=fun i b h=>?_,tmp:=fun q hq=>q.m _ _ _ _ (bD.refl _) eb.rl (C.tmp q hq)}
 ·by_cases z:a=dd
  ·subst z;rw[upd_same] at e;cases e;exact h1
  ·rw[upd_ne z] at e;exact C.bH a o e
 ·have z:a≠dd:=fun z=>e2 (by rw[z];exact h3)
  rw[upd_ne z];exact C.ap a e1 e2
 ·obtain⟨v,e,q⟩:=C.val i r h
  exact⟨v,e,q.mono (bD.refl _) eb.rl⟩
 ·obtain⟨a,u,e1,e2,e3,e4⟩:=C.obj n b h
  have z:a≠dd:=fun z=>n1 (z▸List.mem_of_getElem? e1)
  exact⟨a,u,e1,e2,e3.mono (bD.refl _) eb.rl,by rw[upd_ne z];exact e4⟩
 ·obtain⟨a,u,e1,e2,e3,e4,e5⟩:=C.own i b h
  have z:a≠dd:=fun z=>n2 i b h (by rw[e1,z])
  exact⟨a,u,e1,e2,e3.mono (bD.refl _) eb.rl,by rw[upd_ne z];exact e4,e5⟩
theorem aq.Im (C:aq K A st σ H ts Hb ι) (i:Nat):aq K A ⟨st.s.set i .no,st.h⟩ σ H ts Hb ι:=by
 by_cases h:i<σ.length
 ·have:=C.Cd i σ[i]
  rwa [List.set_getElem_self] at this
 ·have:=C.Cd i none
  have e:List.set σ i none=σ:=List.set_eq_of_length_le (by omega)
  rwa [e] at this
theorem N6 {tb:WX→TS} {l:List mZ} {hs:List Hd} {b:S} (hb:∀W',XS K W' (tb W') b) (hh:Paired (aaZ K W) l hs):XS K W (Qz K W l tb) (oU b hs):=fun A st σ H fs C T y hy p=>by
 show tb (wM K W T l) T σ H
 unfold oU at hy
 cases e:b st with
 | none=>rw[e] at hy;cases hy
 | some z=>
  rw[e] at hy
  refine hb _ A st σ H fs C T z e ?_
  cases z with
  | nx st'=>cases hy;exact p
  | rt r st'=>cases hy;exact p
  | rn r st'=>cases hy;exact p
  | bk st'=>cases hy;exact p
  | ct st'=>cases hy;exact p
  | ex x st'=>
   intro cls d σ' H' X
   have hy:hdl hs x st'=some y:=hy
   clear e
   induction hh with
   | nil=>cases hy;exact p cls d σ' H' X
   | @cons c h l' hs' hc hr ih=>
    obtain⟨Hb,ι,dd,vs,C2,rfl,rfl,hdd,hlen,rr,n1,n2⟩:=id X
    unfold hdl at hy
    cases em:h.m x.C with
    | none=>rw[em] at hy;cases hy
    | some bb=>
     rw[em] at hy
     refine⟨bb,hc.m _ _ em,fun eb a na=>?_,fun eb=>?_⟩
     ·subst eb
      simp only at hy
      rw[hc.nm]
      cases en:h.nm with
      | none=>
       rw[en] at hy
       exact hc.g x a dd A st' σ' H' fs ⟨Hb,ι,C2⟩ T y (Lh hy a dd) p
      | some i=>
       rw[en] at hy
       obtain⟨z,hz,rfl⟩:=Option.map_eq_some_iff.mp (Lh hy a dd)
       have C3:=C2.aa0 hdd n2 n1
       have C4:=C3.uH (v:=.ref a) (r:=.d (.exc a x.C dd x.fs x.ds)) (by
        show Rp K _ _ _
        unfold Rp
        exact⟨vs,rfl,upd_same,hlen,ak.mono (Ex.new n2).rl _ _ rr⟩) i
       refine hc.g x a dd A _ _ H' fs ⟨_,ι,C4⟩ (O7 i T) z hz ?_
       have low:∀{s3:ST} {σ3:L2.St} {H3:Hp},Cf K A s3 σ3 H3 fs→Cf K A ⟨s3.s.set i .no,s3.h⟩ (σ3.set i none) H3 fs:=fun⟨iU,ji,C5⟩=>⟨iU,ji,C5.Cd i none⟩
       cases z with
       | nx s3=>exact fun σ3 H3 C5=>p _ _ (low C5)
       | bk s3=>exact fun σ3 H3 C5=>p _ _ (low C5)
       | ct s3=>exact fun σ3 H3 C5=>p _ _ (low C5)
       | rt r s3=>exact fun σ3 v H3 ⟨iU,ji,C5⟩=>p σ3 v H3 ⟨iU,ji,C5.Im i⟩
       | rn r s3=>
        intro σ3 v H3 CO
        obtain⟨iU,ji,a2,u2,C5,k2,k3,k4,k5,k6,k7,k8,k9⟩:=CO
        refine p σ3 v H3 ⟨iU,ji,a2,u2,C5.Im i,k2,k3,k4,k5,k6,k7,k8,fun j c hc=>?_⟩
        rcases get_set hc with ⟨_,e',_⟩|⟨_,hc⟩
        ·cases e'
        ·exact k9 j c hc
       | ex x s3=>
        intro cls d σ3 H3 X3
        obtain⟨iU,ji,d3,v3,C5,k⟩:=X3
        exact p cls d σ3 H3 ⟨iU,ji,d3,v3,C5.Im i,k⟩
     ·subst eb
      exact ih hy hy
def xQ (a C:Addr) (d:Addr) (n:Str) (f:M R):M R:=f.of fun _ r=>match r with
 | .d (.exc a' C' d' fs ds)=>if a'=a∧C'=C∧d'=d then((fs.zip ds).lookup n).map .d else none
 | _=>none
theorem Io {a C0 C d:Addr} {n:Str} (hf:XE K W te f):XE K W (tXf a (.ref C0) (some d) C n te) (if C0=C then xQ a C d n f else zP):=fun A st σ H ts Cc Q y hy p=>by
 by_cases hc:C0=C
 ·rw[if_pos hc] at hy
  subst hc
  rcases ju hy with ⟨r,s1,b,h1,h2,rfl⟩|⟨x,s1,h1,rfl⟩
  ·split at h2
   ·rename_i a' C' d' fs ds
    by_cases hq:a'=a∧C'=C0∧d'=d
    ·rw[if_pos hq] at h2
     obtain⟨rfl,rfl,rfl⟩:=hq
     obtain⟨xd,hx,rfl⟩:=Option.map_eq_some_iff.mp h2
     refine hf A st σ H ts Cc _ _ h1 fun v H1 ⟨Hb,ι,C1⟩=>?_
     have hv:Rp K Hb (.exc a' C' d' fs ds) v:=C1.tmp (rt K σ (.d (.exc a' C' d' fs ds)) v) (by simp)
     unfold Rp at hv
     obtain⟨vs,rfl,hx',hlen,rr⟩:=hv
     obtain⟨u,hu,ru⟩:=KC hlen rr hx
     exact⟨rfl,rfl,d',_,u,rfl,C1.bH _ _ hx',hu,p _ _ ((C1.temps fun q hq=>C1.tmp q (by simp[hq])).fB ru)⟩
    ·rw[if_neg hq] at h2;cases h2
   ·cases h2
  ·exact hf A st σ H ts Cc _ _ h1 p
 ·rw[if_neg hc] at hy;cases hy
end
end AL
namespace AL
open PySem L2 DL PyProof.Rows
section
variable {K:PySem.W.Frag} {W:WX} {A:Ac} {st:ST} {σ:L2.St} {H Hb:Hp} {ts:List Tp} {ι:List Addr} {g:TG} {k:G} {b:S} {tb:WX→TS} {te:TE}
def XV (K:PySem.W.Frag) (te:TE) (f:ST→Option R):Prop:=∀A st σ H ts Hb ι r,aq K A st σ H ts Hb ι→f st=some r→∃v,Rt K σ ι Hb r v∧∀H':Hp,(∀a C dx fs,H a=some (.ins C dx fs)→H' a=some (.ins C dx fs))→∀Q:VK,Q v H'→te σ H' Q
def pV (i:Nat):ST→Option R:=fun st=>match st.s[i]? with
 | some (.v r)=>some r
 | _=>none
theorem zQ {i:Nat}:XV K (tVar i) (pV i):=fun A st σ H ts Hb ι r C h=>by
 unfold pV at h
 split at h
 ·rename_i r' hr
  cases h
  obtain⟨v,e,q⟩:=C.val i _ hr
  exact⟨v,qN q,fun H' _ Q hq=>⟨v,e,hq⟩⟩
 ·cases h
def pF (Cs:List Addr) (nm:Str) (f:ST→Option R):ST→Option R:=fun st=>(f st).bind fun r=>(inV st r).bind fun p=>if p.1∈Cs then fget p.2.1 p.2.2 nm else none
structure Bk (K:PySem.W.Frag) (A A':Ac) (a:Addr) (u u':HO) (un:ST→Option ST) (t0:Tp):Prop where
 back:∀st st' σ H us Hb ι,aq K A' st σ H us Hb ι→t0.p ι Hb→un st=some st'→H a=some u'∧∃aZ,aq K A st' σ (upd H a u) us aZ ι∧Rl Hb aZ∧(∀b,b≠a→Hb b=none→aZ b=none)∧st'.s=st.s
 nH:∀b,A'.H b=none→A.H b=none∧b≠a
def rZ (un:ST→Option ST):Rs→Option Rs
 | .nx st=>(un st).map .nx
 | .bk st=>(un st).map .bk
 | .ct st=>(un st).map .ct
 | .rt r st=>(un st).map (.rt r)
 | .rn b st=>(un st).map (.rn b)
 | .ex x st=>(un st).map (.ex x)
theorem Rt.rl {ι:List Addr} {Hb aZ:Hp} {r:R} {v:V} (h:Rt K σ ι Hb r v) (rl:Rl Hb aZ):Rt K σ ι aZ r v:=(rt K σ r v).m _ _ _ _ (bD.refl _) rl h
theorem jX.lock {A A':Ac} {a:Addr} {od:Obj} {u:HO} {un:ST→Option ST} {fs:List Tp} {T:Ends} {z y:Rs} {t0:Tp} (B:Bk K A A' a u (.frz od u) un t0) (e:rZ un z=some y) (p:jX K W A fs T y):jX K (uh a od u W) A' (t0::fs) (O9 a od u T) z:=by
 cases z with
 | nx st=>
  obtain⟨st',h1,rfl⟩:=Option.map_eq_some_iff.mp e
  intro σ H ⟨Hb,ι,C⟩
  obtain⟨e1,aZ,C',_⟩:=B.back st st' σ H _ Hb ι C (C.tmp t0 (by simp)) h1
  exact⟨e1,p σ _ ⟨aZ,ι,C'.temps fun q hq=>C'.tmp q (by simp[hq])⟩⟩
 | bk st=>
  obtain⟨st',h1,rfl⟩:=Option.map_eq_some_iff.mp e
  intro σ H ⟨Hb,ι,C⟩
  obtain⟨e1,aZ,C',_⟩:=B.back st st' σ H _ Hb ι C (C.tmp t0 (by simp)) h1
  exact⟨e1,p σ _ ⟨aZ,ι,C'.temps fun q hq=>C'.tmp q (by simp[hq])⟩⟩
 | ct st=>
  obtain⟨st',h1,rfl⟩:=Option.map_eq_some_iff.mp e
  intro σ H ⟨Hb,ι,C⟩
  obtain⟨e1,aZ,C',_⟩:=B.back st st' σ H _ Hb ι C (C.tmp t0 (by simp)) h1
  exact⟨e1,p σ _ ⟨aZ,ι,C'.temps fun q hq=>C'.tmp q (by simp[hq])⟩⟩
 | rt r st=>
  obtain⟨st',h1,rfl⟩:=Option.map_eq_some_iff.mp e
  intro σ v H ⟨Hb,ι,C⟩
  obtain⟨e1,aZ,C',_⟩:=B.back st st' σ H _ Hb ι C (C.tmp t0 (by simp)) h1
  exact⟨e1,p σ v _ ⟨aZ,ι,C'.temps fun q hq=>C'.tmp q (by rcases List.mem_cons.mp hq with h|h<;>simp[h])⟩⟩
 | rn b st=>
  obtain⟨st',h1,rfl⟩:=Option.map_eq_some_iff.mp e
  intro σ v H CO
  obtain⟨Hb,ι,a2,u2,C,h2,h3,h4,h5,h6,h7,h8,h9⟩:=CO
  obtain⟨e1,aZ,C',rl,nb,es⟩:=B.back st st' σ H _ Hb ι C (C.tmp t0 (by simp)) h1
  have C':=C'.temps (ts':=fs) fun q hq=>C'.tmp q (by simp[hq])
  obtain⟨r1,r2⟩:=B.nH a2 h7
  exact⟨e1,p σ v _ ⟨aZ,ι,a2,u2,C',h2,by rw[upd_ne r2];exact h3,h4.mono (bD.refl _) rl,nb a2 r2 h5,h6,r1,h8,fun i c hc=>h9 i c (by rw[es] at hc;exact hc)⟩⟩
 | ex x st=>
  obtain⟨st',h1,rfl⟩:=Option.map_eq_some_iff.mp e
  intro cls d σ H X
  obtain⟨Hb,ι,dd,vs,C,h2,h3,h4,h5,h6,h7,h8⟩:=X
  obtain⟨e1,aZ,C',rl,nb,es⟩:=B.back st st' σ H _ Hb ι C (C.tmp t0 (by simp)) h1
  have C':=C'.temps (ts':=fs) fun q hq=>C'.tmp q (by simp[hq])
  obtain⟨r1,r2⟩:=B.nH dd h7
  exact⟨e1,p cls d σ _ ⟨aZ,ι,dd,vs,C',h2,h3,by rw[upd_ne r2];exact h4,h5,ak.mono rl _ _ h6,r1,nb dd r2 h8⟩⟩
theorem aq.Py (C:aq K A st σ H ts Hb ι) {a:Addr} {od:Obj} {kvs:List (Key×V)} (hb:Hb a=some (.dK kvs)):aq K ⟨upd A.H a (.frz od (.dK kvs)),upd A.B a (.frz od (.dK kvs)),A.ι⟩ st σ (upd H a (.frz od (.dK kvs))) ts (upd Hb a (.frz od (.dK kvs))) ι:=by
 have rl:Rl Hb (upd Hb a (.frz od (.dK kvs))):=fun b u e=>by
  by_cases z:b=a
  ·subst z;rw[hb] at e;cases e;exact⟨_,upd_same,.lk od kvs⟩
  ·exact⟨u,by rw[upd_ne z];exact e,.rf u⟩
 have two:∀{G G':Hp},Ex G G'→Ex (upd G a (.frz od (.dK kvs))) (upd G' a (.frz od (.dK kvs))):=fun e b u q=>by
  by_cases z:b=a
  ·subst z;rw[upd_same] at q ⊢;exact q
  ·rw[upd_ne z] at q ⊢;exact e b u q
 have nD:a∉ι:=fun hm=>by
  obtain⟨n,hn⟩:=List.getElem?_of_mem hm
  have hlt:n<st.h.length:=by rw[← C.hl];exact(List.getElem?_eq_some_iff.mp hn).1
  obtain⟨x,u,g1,_,_,g4⟩:=C.obj n _ (List.getElem?_eq_getElem hlt)
  rw[hn] at g1;cases g1
  rw[hb] at g4;cases g4
 refine {keep:=fun x o e n=>?_,eB:=two C.eB,bH:=two C.bH,ap:=fun x h1 h2=>?_,pre:=C.pre,hl:=C.hl,len:=C.len,val:=fun i r h=>?_,obj:=fun n c h=>?_,own:=fun i c h=>?_,inj:=C.inj,new:=fun x hm=>?_,dsl:=C.dsl,tmp:=fun q hq=>q.m _ _ _ _ (bD.refl _) rl (C.tmp q hq)}
 ·have e:upd A.H a (.frz od (.dK kvs)) x=some o:=e
  by_cases z:x=a
  ·subst z;rw[upd_same] at e ⊢;exact e
  ·rw[upd_ne z] at e ⊢;exact C.keep x o e n
 ·have h1:upd A.B a (.frz od (.dK kvs)) x=none:=h1
  have h2:upd A.H a (.frz od (.dK kvs)) x≠none:=h2
  have z:x≠a:=fun z=>by rw[z,upd_same] at h1;cases h1
  rw[upd_ne z] at h1 h2 ⊢
  exact C.ap x h1 h2
 ·obtain⟨v,e,q⟩:=C.val i r h
  exact⟨v,e,q.mono (bD.refl _) rl⟩
 ·obtain⟨x,u,e1,e2,e3,e4⟩:=C.obj n c h
  have z:x≠a:=fun z=>nD (z▸List.mem_of_getElem? e1)
  exact⟨x,u,e1,by rw[upd_ne z];exact e2,e3.mono (bD.refl _) rl,by rw[upd_ne z];exact e4⟩
 ·obtain⟨x,u,e1,e2,e3,e4,e5,e6,e7⟩:=C.own i c h
  have z:x≠a:=fun z=>by rw[z,hb] at e4;cases e4
  exact⟨x,u,e1,by rw[upd_ne z];exact e2,e3.mono (bD.refl _) rl,by rw[upd_ne z];exact e4,e5,by show upd A.H a _ x=none;rw[upd_ne z];exact e6,e7⟩
 ·have z:x≠a:=fun z=>nD (z▸hm)
  exact(C.new x hm).imp id fun q o e=>q o (by have e:upd A.H a _ x=some o:=e;rw[upd_ne z] at e;exact e)
theorem QT (C:aq K A st σ H ts Hb ι) {a:Addr} {od:Obj} {kvs:List (Key×V)} (hb:Hb a=some (.dK kvs)):Bk K A ⟨upd A.H a (.frz od (.dK kvs)),upd A.B a (.frz od (.dK kvs)),A.ι⟩ a (.dK kvs) (.frz od (.dK kvs)) some jm where
 nH:=fun b h=>by
  have h:upd A.H a (.frz od (.dK kvs)) b=none:=h
  by_cases z:b=a
  ·rw[z,upd_same] at h;cases h
  ·rw[upd_ne z] at h;exact⟨h,z⟩
 back:=fun st5 QV pq H5 us cP dw C5 _ e=>by
  cases e
  have hH:=C.bH a _ hb
  have nA:a∉A.ι:=fun hm=>by
   obtain⟨n,hn⟩:=List.getElem?_of_mem (C.pre.mem hm)
   have hlt:n<st.h.length:=by rw[← C.hl];exact(List.getElem?_eq_some_iff.mp hn).1
   obtain⟨x,u,g1,_,_,g4⟩:=C.obj n _ (List.getElem?_eq_getElem hlt)
   rw[hn] at g1;cases g1
   rw[hb] at g4;cases g4
  have nJ:H5 a=some (.frz od (.dK kvs)):=C5.keep a _ upd_same (.inl nA)
  have pA:cP a=some (.frz od (.dK kvs)):=C5.eB a _ upd_same
  have rl:Rl cP (upd cP a (.dK kvs)):=fun b u e=>by
   by_cases z:b=a
   ·subst z;rw[pA] at e;cases e;exact⟨_,upd_same,.ul od kvs⟩
   ·exact⟨u,by rw[upd_ne z];exact e,.rf u⟩
  have nD:a∉dw:=fun hm=>by
   obtain⟨n,hn⟩:=List.getElem?_of_mem hm
   have hlt:n<st5.h.length:=by rw[← C5.hl];exact(List.getElem?_eq_some_iff.mp hn).1
   obtain⟨x,u,g1,_,_,g4⟩:=C5.obj n _ (List.getElem?_eq_getElem hlt)
   rw[hn] at g1;cases g1
   rw[pA] at g4;cases g4
  have Z5:∀u,A.H a=some u→u=.dK kvs:=fun u e=>by have:=C.keep a u e (.inl nA);rw[hH] at this;cases this;rfl
  refine⟨nJ,upd cP a (.dK kvs),{keep:=fun x o e n=>?_,eB:=fun x o e=>?_,bH:=fun x o e=>?_,ap:=fun x h1 h2=>?_,pre:=C5.pre,hl:=C5.hl,len:=C5.len,val:=fun i r h=>?_,obj:=fun n c h=>?_,own:=fun i c h=>?_,inj:=C5.inj,new:=fun x hm=>?_,dsl:=C5.dsl,tmp:=fun q hq=>q.m _ _ _ _ (bD.refl _) rl (C5.tmp q hq)},rl,fun b z e=>by rw[upd_ne z];exact e,rfl⟩
  ·by_cases z:x=a
   ·subst z;rw[Z5 o e,upd_same]
   ·rw[upd_ne z];exact C5.keep x o (by show upd A.H a _ x=some o;rw[upd_ne z];exact e) n
  ·by_cases z:x=a
   ·subst z
    have:=C.eB x o e
    rw[hb] at this;cases this
    exact upd_same
   ·rw[upd_ne z];exact C5.eB x o (by show upd A.B a _ x=some o;rw[upd_ne z];exact e)
  ·by_cases z:x=a
   ·subst z;rw[upd_same] at e ⊢;exact e
   ·rw[upd_ne z] at e ⊢;exact C5.bH x o e
  ·have z:x≠a:=fun z=>by
    subst z
    have:=C.ap x h1 h2
    rw[hb] at this;cases this
   rw[upd_ne z]
   exact C5.ap x (by show upd A.B a _ x=none;rw[upd_ne z];exact h1) (by show upd A.H a _ x≠none;rw[upd_ne z];exact h2)
  ·obtain⟨v,e,q⟩:=C5.val i r h
   exact⟨v,e,q.mono (bD.refl _) rl⟩
  ·obtain⟨x,u,e1,e2,e3,e4⟩:=C5.obj n c h
   have z:x≠a:=fun z=>nD (z▸List.mem_of_getElem? e1)
   exact⟨x,u,e1,by rw[upd_ne z];exact e2,e3.mono (bD.refl _) rl,by rw[upd_ne z];exact e4⟩
  ·obtain⟨x,u,e1,e2,e3,e4,e5,e6,e7⟩:=C5.own i c h
   have z:x≠a:=fun z=>by rw[z,pA] at e4;cases e4
   have e6:upd A.H a _ x=none:=e6
   rw[upd_ne z] at e6
   exact⟨x,u,e1,by rw[upd_ne z];exact e2,e3.mono (bD.refl _) rl,by rw[upd_ne z];exact e4,e5,e6,e7⟩
  ·have z:x≠a:=fun z=>nD (z▸hm)
   exact(C5.new x hm).imp id fun q o e=>q o (by show upd A.H a _ x=some o;rw[upd_ne z];exact e)
theorem aq.PB (C:aq K A st σ H ts Hb ι) {n:Nat} {a:Addr} {od:Obj} {ks:List Key} {ds:List D} {vs:List V} (h:st.h[n]?=some (.aM ks ds)) (ea:ι[n]?=some a) (hH:H a=some (.dK (ks.zip vs))) (hl:ks.length=vs.length) (q:ak K Hb ds vs) :
  aq K ⟨upd A.H a (.frz od (.dK (ks.zip vs))),A.B,A.ι⟩ ⟨st.s,st.h.set n (.cZ ks ds)⟩ σ (upd H a (.frz od (.dK (ks.zip vs)))) ts Hb ι:=by
 have C1:=C.Ig (b':=.cZ ks ds) (u':=.frz od (.dK (ks.zip vs))) h ea ⟨od,vs,rfl,hl,q⟩ (fun u e=>by rw[hH] at e;cases e;rfl)
 obtain⟨_,_,_,_,_,hb⟩:=C.obj n _ h
 have hba:Hb a=none:=by obtain⟨a',u,e1,_,_,e4⟩:=C.obj n _ h;rw[ea] at e1;cases e1;exact e4
 refine {C1 with keep:=fun x o e n=>?_,ap:=fun x h1 h2=>?_,own:=fun i c h'=>?_,new:=fun x hm=>?_}
 ·have e:upd A.H a (.frz od (.dK (ks.zip vs))) x=some o:=e
  by_cases z:x=a
  ·subst z;rw[upd_same] at e ⊢;exact e
  ·rw[upd_ne z] at e;exact C1.keep x o e n
 ·have h2:upd A.H a (.frz od (.dK (ks.zip vs))) x≠none:=h2
  by_cases z:x=a
  ·subst z;exact hba
  ·rw[upd_ne z] at h2;exact C1.ap x h1 h2
 ·obtain⟨x,u,e1,e2,e3,e4,e5,e6,e7⟩:=C1.own i c h'
  have z:x≠a:=fun z=>e5 (z▸List.mem_of_getElem? ea)
  exact⟨x,u,e1,e2,e3,e4,e5,by show upd A.H a _ x=none;rw[upd_ne z];exact e6,e7⟩
 ·by_cases z:x=a
  ·subst z;exact .inr fun o e=>by have e:upd A.H x _ x=some o:=e;rw[upd_same] at e;cases e;rfl
  ·exact(C1.new x hm).imp id fun q o e=>q o (by have e:upd A.H a _ x=some o:=e;rw[upd_ne z] at e;exact e)
theorem aq.Z6 (C:aq K A st σ H ts Hb ι) {n:Nat} {a:Addr} {od:Obj} {ks:List Key} {ds:List R} {vs:List V} (h:st.h[n]?=some (.cI ks ds)) (ea:ι[n]?=some a) (hH:H a=some (.dK (ks.zip vs))) (hl:ks.length=vs.length) (q:bx K ι Hb ds vs) :
  aq K ⟨upd A.H a (.frz od (.dK (ks.zip vs))),A.B,A.ι⟩ ⟨st.s,st.h.set n (.jV ks ds)⟩ σ (upd H a (.frz od (.dK (ks.zip vs)))) ts Hb ι:=by
 have C1:=C.Ig (b':=.jV ks ds) (u':=.frz od (.dK (ks.zip vs))) h ea ⟨od,vs,rfl,hl,q⟩ (fun u e=>by rw[hH] at e;cases e;rfl)
 obtain⟨_,_,_,_,_,hb⟩:=C.obj n _ h
 have hba:Hb a=none:=by obtain⟨a',u,e1,_,_,e4⟩:=C.obj n _ h;rw[ea] at e1;cases e1;exact e4
 refine {C1 with keep:=fun x o e n=>?_,ap:=fun x h1 h2=>?_,own:=fun i c h'=>?_,new:=fun x hm=>?_}
 ·have e:upd A.H a (.frz od (.dK (ks.zip vs))) x=some o:=e
  by_cases z:x=a
  ·subst z;rw[upd_same] at e ⊢;exact e
  ·rw[upd_ne z] at e;exact C1.keep x o e n
 ·have h2:upd A.H a (.frz od (.dK (ks.zip vs))) x≠none:=h2
  by_cases z:x=a
  ·subst z;exact hba
  ·rw[upd_ne z] at h2;exact C1.ap x h1 h2
 ·obtain⟨x,u,e1,e2,e3,e4,e5,e6,e7⟩:=C1.own i c h'
  have z:x≠a:=fun z=>e5 (z▸List.mem_of_getElem? ea)
  exact⟨x,u,e1,e2,e3,e4,e5,by show upd A.H a _ x=none;rw[upd_ne z];exact e6,e7⟩
 ·by_cases z:x=a
  ·subst z;exact .inr fun o e=>by have e:upd A.H x _ x=some o:=e;rw[upd_same] at e;cases e;rfl
  ·exact(C1.new x hm).imp id fun q o e=>q o (by have e:upd A.H a _ x=some o:=e;rw[upd_ne z] at e;exact e)
open Classical in
noncomputable def iy (n:Nat) (ks:List Key) (ds:List D):ST→Option ST:=fun st=>if st.h[n]?=some (.cZ ks ds) then some ⟨st.s,st.h.set n (.aM ks ds)⟩ else none
theorem X6 {n:Nat} {ks:List Key} {ds:List D} {st st':ST} (h:iy n ks ds st=some st'):st.h[n]?=some (.cZ ks ds)∧st'=⟨st.s,st.h.set n (.aM ks ds)⟩:=by
 unfold iy at h
 split at h
 ·rename_i q;cases h;exact⟨q,rfl⟩
 ·cases h
open Classical in
noncomputable def Ck (n:Nat) (ks:List Key) (ds:List R):ST→Option ST:=fun st=>if st.h[n]?=some (.jV ks ds) then some ⟨st.s,st.h.set n (.cI ks ds)⟩ else none
theorem X7 {n:Nat} {ks:List Key} {ds:List R} {st st':ST} (h:Ck n ks ds st=some st'):st.h[n]?=some (.jV ks ds)∧st'=⟨st.s,st.h.set n (.cI ks ds)⟩:=by
 unfold Ck at h
 split at h
 ·rename_i q;cases h;exact⟨q,rfl⟩
 ·cases h
theorem zip_inj {α β:Type}:∀{ks:List α} {vs us:List β},ks.length=vs.length→ks.length=us.length→ks.zip vs=ks.zip us→vs=us
 | [],[],[],_,_,_=>rfl
 | [],_::_,_,h,_,_=>by simp at h
 | [],_,_::_,_,h,_=>by simp at h
 | _::_,[],_,h,_,_=>by simp at h
 | _::_,_,[],_,h,_=>by simp at h
 | k::ks,v::vs,u::us,h,h',e=>by
  simp only[List.zip_cons_cons,List.cons.injEq,Prod.mk.injEq,true_and] at e
  rw[e.1,zip_inj (by simpa using h) (by simpa using h') e.2]
theorem QW (C:aq K A st σ H ts Hb ι) {n:Nat} {a:Addr} {od:Obj} {ks:List Key} {ds:List D} {vs:List V} (h:st.h[n]?=some (.aM ks ds)) (ea:ι[n]?=some a) (hH:H a=some (.dK (ks.zip vs))) (hl:ks.length=vs.length) :
  Bk K A ⟨upd A.H a (.frz od (.dK (ks.zip vs))),A.B,A.ι⟩ a (.dK (ks.zip vs)) (.frz od (.dK (ks.zip vs))) (iy n ks ds) (nu a n) where
 nH:=fun b h=>by
  have h:upd A.H a (.frz od (.dK (ks.zip vs))) b=none:=h
  by_cases z:b=a
  ·rw[z,upd_same] at h;cases h
  ·rw[upd_ne z] at h;exact⟨h,z⟩
 back:=fun st5 QV pq H5 us cP dw C5 e5 e=>by
  obtain⟨h5,rfl⟩:=X6 e
  have e5:dw[n]?=some a:=e5
  have nJ:H5 a=some (.frz od (.dK (ks.zip vs))):=C5.keep a _ upd_same (.inr rfl)
  have Jt:a∈dw:=List.mem_of_getElem? e5
  obtain⟨a',u5,g1,g2,⟨od',vs',rfl,hl',q5⟩,sE⟩:=C5.obj n _ h5
  rw[e5] at g1;cases g1
  rw[nJ] at g2
  have g3:=Option.some.inj g2
  injection g3 with g4 g5
  injection g5 with g6
  cases zip_inj hl hl' g6
  refine⟨nJ,cP,{keep:=fun x o e n=>?_,eB:=C5.eB,bH:=fun x o e=>?_,ap:=fun x h1 h2=>?_,pre:=C5.pre,hl:=by simp[C5.hl],len:=C5.len,val:=C5.val,obj:=fun m c h=>?_,own:=fun i c h=>?_,inj:=C5.inj,new:=fun x hm=>?_,dsl:=C5.dsl,tmp:=C5.tmp},Rl.refl _,fun b _ e=>e,rfl⟩
  ·by_cases z:x=a
   ·subst z
    have:=C.keep x o e n
    rw[hH] at this;cases this
    exact upd_same
   ·rw[upd_ne z];exact C5.keep x o (by show upd A.H a _ x=some o;rw[upd_ne z];exact e) n
  ·have z:x≠a:=fun z=>by rw[z,sE] at e;cases e
   rw[upd_ne z];exact C5.bH x o e
  ·by_cases z:x=a
   ·subst z;exact sE
   ·exact C5.ap x h1 (by show upd A.H a _ x≠none;rw[upd_ne z];exact h2)
  ·rcases get_set h with ⟨rfl,e',z⟩|⟨nm,h⟩
   ·cases e'
    exact⟨a,_,e5,upd_same,⟨_,rfl,hl,q5⟩,sE⟩
   ·obtain⟨x,u,k1,k2,k3,k4⟩:=C5.obj m c h
    have z:x≠a:=fun z=>nm (Fg C5.inj k1 (by rw[z];exact e5))
    exact⟨x,u,k1,by rw[upd_ne z];exact k2,k3,k4⟩
  ·obtain⟨x,u,k1,k2,k3,k4,k5,k6,k7⟩:=C5.own i c h
   have z:x≠a:=fun z=>k5 (z▸Jt)
   have k6:upd A.H a _ x=none:=k6
   rw[upd_ne z] at k6
   exact⟨x,u,k1,by rw[upd_ne z];exact k2,k3,k4,k5,k6,k7⟩
  ·by_cases z:x=a
   ·subst z;exact C.new x (List.mem_of_getElem? ea)
   ·exact(C5.new x hm).imp id fun q o e=>q o (by show upd A.H a _ x=some o;rw[upd_ne z];exact e)
theorem aa1 (C:aq K A st σ H ts Hb ι) {n:Nat} {a:Addr} {od:Obj} {ks:List Key} {ds:List R} {vs:List V} (h:st.h[n]?=some (.cI ks ds)) (ea:ι[n]?=some a) (hH:H a=some (.dK (ks.zip vs))) (hl:ks.length=vs.length) :
  Bk K A ⟨upd A.H a (.frz od (.dK (ks.zip vs))),A.B,A.ι⟩ a (.dK (ks.zip vs)) (.frz od (.dK (ks.zip vs))) (Ck n ks ds) (nu a n) where
 nH:=fun b h=>by
  have h:upd A.H a (.frz od (.dK (ks.zip vs))) b=none:=h
  by_cases z:b=a
  ·rw[z,upd_same] at h;cases h
  ·rw[upd_ne z] at h;exact⟨h,z⟩
 back:=fun st5 QV pq H5 us cP dw C5 e5 e=>by
  obtain⟨h5,rfl⟩:=X7 e
  have e5:dw[n]?=some a:=e5
  have nJ:H5 a=some (.frz od (.dK (ks.zip vs))):=C5.keep a _ upd_same (.inr rfl)
  have Jt:a∈dw:=List.mem_of_getElem? e5
  obtain⟨a',u5,g1,g2,⟨od',vs',rfl,hl',q5⟩,sE⟩:=C5.obj n _ h5
  rw[e5] at g1;cases g1
  rw[nJ] at g2
  have g3:=Option.some.inj g2
  injection g3 with g4 g5
  injection g5 with g6
  cases zip_inj hl hl' g6
  refine⟨nJ,cP,{keep:=fun x o e n=>?_,eB:=C5.eB,bH:=fun x o e=>?_,ap:=fun x h1 h2=>?_,pre:=C5.pre,hl:=by simp[C5.hl],len:=C5.len,val:=C5.val,obj:=fun m c h=>?_,own:=fun i c h=>?_,inj:=C5.inj,new:=fun x hm=>?_,dsl:=C5.dsl,tmp:=C5.tmp},Rl.refl _,fun b _ e=>e,rfl⟩
  ·by_cases z:x=a
   ·subst z
    have:=C.keep x o e n
    rw[hH] at this;cases this
    exact upd_same
   ·rw[upd_ne z];exact C5.keep x o (by show upd A.H a _ x=some o;rw[upd_ne z];exact e) n
  ·have z:x≠a:=fun z=>by rw[z,sE] at e;cases e
   rw[upd_ne z];exact C5.bH x o e
  ·by_cases z:x=a
   ·subst z;exact sE
   ·exact C5.ap x h1 (by show upd A.H a _ x≠none;rw[upd_ne z];exact h2)
  ·rcases get_set h with ⟨rfl,e',z⟩|⟨nm,h⟩
   ·cases e'
    exact⟨a,_,e5,upd_same,⟨_,rfl,hl,q5⟩,sE⟩
   ·obtain⟨x,u,k1,k2,k3,k4⟩:=C5.obj m c h
    have z:x≠a:=fun z=>nm (Fg C5.inj k1 (by rw[z];exact e5))
    exact⟨x,u,k1,by rw[upd_ne z];exact k2,k3,k4⟩
  ·obtain⟨x,u,k1,k2,k3,k4,k5,k6,k7⟩:=C5.own i c h
   have z:x≠a:=fun z=>k5 (z▸Jt)
   have k6:upd A.H a _ x=none:=k6
   rw[upd_ne z] at k6
   exact⟨x,u,k1,by rw[upd_ne z];exact k2,k3,k4,k5,k6,k7⟩
  ·by_cases z:x=a
   ·subst z;exact C.new x (List.mem_of_getElem? ea)
   ·exact(C5.new x hm).imp id fun q o e=>q o (by show upd A.H a _ x=some o;rw[upd_ne z];exact e)
theorem pY {A0:Ac} {a:Addr} {od:Obj} {ks:List Key} {vs:List V} {lk:ST→Prop} {t:Tp} (hl:ks.length=vs.length) (hA:A0.H a=some (.frz od (.dK (ks.zip vs)))):Walk K A0 (Itk a od (ks.zip vs)) t ⟨ks.map fun k=>.d (kD k),lk⟩ where
 goes:=fun i A st σ H ts e ⟨Hb,ι,C⟩ hlk h=>⟨C.keep a _ (e a _ hA) (.inr rfl),by rw[List.length_zip,← hl,Nat.min_self];simpa using h⟩
 stops:=fun A st σ H ts e ⟨Hb,ι,C⟩ hlk=>⟨C.keep a _ (e a _ hA) (.inr rfl),by rw[List.length_zip,← hl,Nat.min_self];simp⟩
 yields:=fun i r A st σ H x H' ts h _ C hlk y=>by
  obtain⟨e1,k,v,hk,rfl⟩:=y
  subst e1
  have hk':ks[i]?=some k:=(List.getElem?_zip_eq_some.mp hk).1
  rw[List.getElem?_map,hk'] at h
  cases h
  exact C.temps fun q hq=>(List.mem_cons.mp hq).elim (fun z=>.inr fun ι Hb=>by rw[z];exact O8 k) .inl
theorem aq.nA (C:aq K A st σ H ts Hb ι) {a:Addr} {o:HO} (hb:Hb a=some o):a∉ι∧a∉A.ι:=by
 have n1:a∉ι:=fun hm=>by
  obtain⟨n,hn⟩:=List.getElem?_of_mem hm
  have hlt:n<st.h.length:=by rw[← C.hl];exact(List.getElem?_eq_some_iff.mp hn).1
  obtain⟨x,u,g1,_,_,g4⟩:=C.obj n _ (List.getElem?_eq_getElem hlt)
  rw[hn] at g1;cases g1
  rw[hb] at g4;cases g4
 exact⟨n1,fun z=>n1 (C.pre.mem z)⟩
theorem aq.pin (C:aq K A st σ H ts Hb ι) {a:Addr} {o:HO} (hb:Hb a=some o):aq K ⟨upd A.H a o,upd A.B a o,A.ι⟩ st σ H ts Hb ι:=by
 obtain⟨nD,_⟩:=C.nA hb
 refine {C with keep:=fun x u e n=>?_,eB:=fun x u e=>?_,ap:=fun x h1 h2=>?_,own:=fun i c h=>?_,new:=fun x hm=>?_}
 ·have e:upd A.H a o x=some u:=e
  by_cases z:x=a
  ·subst z;rw[upd_same] at e;cases e;exact C.bH x _ hb
  ·rw[upd_ne z] at e;exact C.keep x u e n
 ·have e:upd A.B a o x=some u:=e
  by_cases z:x=a
  ·subst z;rw[upd_same] at e;cases e;exact hb
  ·rw[upd_ne z] at e;exact C.eB x u e
 ·have h1:upd A.B a o x=none:=h1
  have h2:upd A.H a o x≠none:=h2
  have z:x≠a:=fun z=>by rw[z,upd_same] at h1;cases h1
  rw[upd_ne z] at h1 h2
  exact C.ap x h1 h2
 ·obtain⟨x,u,e1,e2,e3,e4,e5,e6,e7⟩:=C.own i c h
  have z:x≠a:=fun z=>by rw[z,hb] at e4;cases e4
  exact⟨x,u,e1,e2,e3,e4,e5,by show upd A.H a o x=none;rw[upd_ne z];exact e6,e7⟩
 ·have z:x≠a:=fun z=>nD (z▸hm)
  exact(C.new x hm).imp id fun q o' e=>q o' (by have e:upd A.H a o x=some o':=e;rw[upd_ne z] at e;exact e)
theorem aq.unpin {st5:ST} {pq:L2.St} {H5:Hp} {us:List Tp} {cP:Hp} {dw:List Addr} {a:Addr} {o:HO} (C:aq K A st σ H ts Hb ι) (hb:Hb a=some o) (C5:aq K ⟨upd A.H a o,upd A.B a o,A.ι⟩ st5 pq H5 us cP dw):aq K A st5 pq H5 us cP dw:=by
 have pA:cP a=some o:=C5.eB a _ upd_same
 have nJ:H5 a=some o:=C5.bH a _ pA
 obtain⟨_,nA⟩:=C.nA hb
 obtain⟨nD,_⟩:=C5.nA pA
 refine {C5 with keep:=fun x u e n=>?_,eB:=fun x u e=>?_,ap:=fun x h1 h2=>?_,own:=fun i c h=>?_,new:=fun x hm=>?_}
 ·by_cases z:x=a
  ·subst z
   have:=C.keep x u e n
   rw[C.bH x _ hb] at this;cases this
   exact nJ
  ·exact C5.keep x u (by show upd A.H a o x=some u;rw[upd_ne z];exact e) n
 ·by_cases z:x=a
  ·subst z
   have:=C.eB x u e
   rw[hb] at this;cases this
   exact pA
  ·exact C5.eB x u (by show upd A.B a o x=some u;rw[upd_ne z];exact e)
 ·have z:x≠a:=fun z=>by
   subst z
   have:=C.ap x h1 h2
   rw[hb] at this;cases this
  exact C5.ap x (by show upd A.B a o x=none;rw[upd_ne z];exact h1) (by show upd A.H a o x≠none;rw[upd_ne z];exact h2)
 ·obtain⟨x,u,e1,e2,e3,e4,e5,e6,e7⟩:=C5.own i c h
  have z:x≠a:=fun z=>by rw[z,pA] at e4;cases e4
  have e6:upd A.H a o x=none:=e6
  rw[upd_ne z] at e6
  exact⟨x,u,e1,e2,e3,e4,e5,e6,e7⟩
 ·have z:x≠a:=fun z=>nD (z▸hm)
  exact(C5.new x hm).imp id fun q o' e=>q o' (by show upd A.H a o x=some o';rw[upd_ne z];exact e)
theorem jX.pin {a:Addr} {o:HO} {fs:List Tp} {T:Ends} {y:Rs} (C:aq K A st σ H ts Hb ι) (hb:Hb a=some o) (p:jX K W A fs T y):jX K W ⟨upd A.H a o,upd A.B a o,A.ι⟩ fs T y:=by
 have nH:∀{b:Addr},upd A.H a o b=none→A.H b=none:=fun {b} h=>by
  by_cases z:b=a
  ·rw[z,upd_same] at h;cases h
  ·rw[upd_ne z] at h;exact h
 cases y with
 | nx st=>exact fun σ H ⟨cP,dw,C5⟩=>p σ H ⟨cP,dw,C.unpin hb C5⟩
 | bk st=>exact fun σ H ⟨cP,dw,C5⟩=>p σ H ⟨cP,dw,C.unpin hb C5⟩
 | ct st=>exact fun σ H ⟨cP,dw,C5⟩=>p σ H ⟨cP,dw,C.unpin hb C5⟩
 | rt r st=>exact fun σ v H ⟨cP,dw,C5⟩=>p σ v H ⟨cP,dw,C.unpin hb C5⟩
 | rn b st=>
  intro σ v H CO
  obtain⟨cP,dw,a2,u2,C5,h2,h3,h4,h5,h6,h7,h8⟩:=CO
  exact p σ v H ⟨cP,dw,a2,u2,C.unpin hb C5,h2,h3,h4,h5,h6,nH h7,h8⟩
 | ex x st=>
  intro cls d σ H X
  obtain⟨cP,dw,dd,vs,C5,h2,h3,h4,h5,h6,h7,h8⟩:=X
  exact p cls d σ H ⟨cP,dw,dd,vs,C.unpin hb C5,h2,h3,h4,h5,h6,nH h7,h8⟩
noncomputable def oH (f:ST→Option R) (k:G) (b:S):S:=fun st=>match f st with
 | some (.d (.aM ks _))=>forL bR k b (ks.map fun k=>.d (kD k)) st
 | some (.o n)=>(match st.h[n]? with
  | some (.aM ks ds)=>(forL bR k b (ks.map fun k=>.d (kD k)) ⟨st.s,st.h.set n (.cZ ks ds)⟩).bind (rZ (iy n ks ds))
  | some (.cI ks xs)=>(forL bR k b (ks.map fun k=>.d (kD k)) ⟨st.s,st.h.set n (.jV ks xs)⟩).bind (rZ (Ck n ks xs))
  | _=>none)
 | _=>none
theorem Vo (z:Rs):rZ some z=some z:=by cases z<;>rfl
theorem Mu {f:ST→Option R} (hf:XV K te f) (hg:Cj K g k) (hb:∀W',XS K W' (tb W') b):XS K W (Ny W (fun W'=>tFor (iKeys te) g (tb W'))) (oH f k b):=fun A st σ H fs ⟨Hb,ι,C⟩ T y hy p=>by
 unfold oH at hy
 cases e:f st with
 | none=>rw[e] at hy;cases hy
 | some r=>
  rw[e] at hy
  obtain⟨v,hv,go⟩:=hf A st σ H fs Hb ι r C e
  have ne:∀{a:Addr} {kvs:List (Key×V)} {u:HO},H a=some (.dK kvs)→∀x C dx fs,H x=some (.ins C dx fs)→upd H a u x=some (.ins C dx fs):=fun {a kvs u} h x C dx fs q=>by
   have z:x≠a:=fun z=>by rw[z,h] at q;cases q
   rw[upd_ne z];exact q
  cases r with
  | w i=>cases hy
  | d x=>
   obtain⟨ks,ds,rfl⟩:∃ks ds,x=.aM ks ds:=by cases x<;>first|exact⟨_,_,rfl⟩|cases hy
   have hy:forL bR k b (ks.map fun k=>.d (kD k)) st=some y:=hy
   have hv:Rp K Hb (.aM ks ds) v:=hv
   unfold Rp at hv
   obtain⟨a,vs,rfl,s,hl,q⟩:=hv
   rcases s with s|⟨od,s⟩
   ·refine .inr ⟨a,_,C.bH a _ s,trivial,fun od=>go _ (ne (C.bH a _ s)) _ ⟨a,od,rfl,.inl ⟨ks.zip vs,upd_same,?_⟩⟩⟩
    have C1:=C.Py (od:=od) s
    exact vZ (W:=uh a od (.dK (ks.zip vs)) W) (w:=⟨ks.map fun k=>.d (kD k),bR⟩) (tp:=jm) (fs:=jm::fs) ⟨_,ι,C1.temps fun q hq=>by
     rcases List.mem_cons.mp hq with rfl|hq
     ·trivial
     ·rcases List.mem_cons.mp hq with rfl|hq
      ·trivial
      ·exact C1.tmp q hq⟩ (pY hl upd_same) hg (hb _) hy (jX.lock (QT C s) (Vo y) p)
   ·
    refine .inl (go H (fun _ _ _ _ h=>h) _ ⟨a,od,rfl,.inl ⟨ks.zip vs,C.bH a _ s,?_⟩⟩)
    have C1:=C.pin s
    exact vZ (W:=W) (w:=⟨ks.map fun k=>.d (kD k),bR⟩) (tp:=jm) (fs:=fs) ⟨_,ι,C1.temps fun q hq=>by
     rcases List.mem_cons.mp hq with rfl|hq
     ·trivial
     ·exact C1.tmp q hq⟩ (pY hl upd_same) hg (hb _) hy (jX.pin C s p)
  | o n=>
   simp only at hy
   cases q:st.h[n]? with
   | none=>rw[q] at hy;cases hy
   | some c=>
    rw[q] at hy
    have hc:(∃ks ds,c=.aM ks ds)∨∃ks ds,c=.cI ks ds:=by cases c<;>first|exact .inl ⟨_,_,rfl⟩|exact .inr ⟨_,_,rfl⟩|cases hy
    rcases hc with ⟨ks,ds,rfl⟩|⟨ks,ds,rfl⟩
    ·obtain⟨z,hz,hu⟩:=Option.bind_eq_some_iff.mp hy
     obtain⟨a,ea,rfl⟩:=hv
     obtain⟨a',u,g1,g2,⟨vs,rfl,hl,qq⟩,g4⟩:=C.obj n _ q
     rw[ea] at g1;cases g1
     refine .inr ⟨a,_,g2,trivial,fun od=>go _ (ne g2) _ ⟨a,od,rfl,.inl ⟨ks.zip vs,upd_same,?_⟩⟩⟩
     have C1:=C.PB (od:=od) q ea g2 hl qq
     exact vZ (W:=uh a od (.dK (ks.zip vs)) W) (w:=⟨ks.map fun k=>.d (kD k),bR⟩) (tp:=jm) (fs:=nu a n::fs) ⟨_,ι,C1.temps fun q hq=>by
      rcases List.mem_cons.mp hq with rfl|hq
      ·trivial
      ·rcases List.mem_cons.mp hq with rfl|hq
       ·exact ea
       ·exact C1.tmp q hq⟩ (pY hl upd_same) hg (hb _) hz (jX.lock (QW C q ea g2 hl) hu p)
    ·obtain⟨z,hz,hu⟩:=Option.bind_eq_some_iff.mp hy
     obtain⟨a,ea,rfl⟩:=hv
     obtain⟨a',u,g1,g2,⟨vs,rfl,hl,qq⟩,g4⟩:=C.obj n _ q
     rw[ea] at g1;cases g1
     refine .inr ⟨a,_,g2,trivial,fun od=>go _ (ne g2) _ ⟨a,od,rfl,.inl ⟨ks.zip vs,upd_same,?_⟩⟩⟩
     have C1:=C.Z6 (od:=od) q ea g2 hl qq
     exact vZ (W:=uh a od (.dK (ks.zip vs)) W) (w:=⟨ks.map fun k=>.d (kD k),bR⟩) (tp:=jm) (fs:=nu a n::fs) ⟨_,ι,C1.temps fun q hq=>by
      rcases List.mem_cons.mp hq with rfl|hq
      ·trivial
      ·rcases List.mem_cons.mp hq with rfl|hq
       ·exact ea
       ·exact C1.tmp q hq⟩ (pY hl upd_same) hg (hb _) hz (jX.lock (aa1 C q ea g2 hl) hu p)
end
theorem zR {X:Cx} {e:Expr} {te:TE} {lo hi:Option Expr} {tl th:TO} {p2 pos:Pos} (K:PySem.W.Frag) (he:PE X e te) (hl:PO X lo tl) (hu:PO X hi th) (hK:X.K=K:=by rfl):PE X (.Subscript e (.Slice lo hi none p2) pos) (tSl (Ci K) te tl th):=by subst hK;exact pe_slice ZW he hl hu
theorem Rw {K:PySem.W.Frag}:∀Hb,ak K Hb [] []:=fun _=>ak.nil
def runN (n m:Nat) (b:S):Fn:=fun args h=>if args.length=n then Bu m b args h else none
theorem Wn {n m:Nat} {b:S} {args:List R} {h:List Ob} {y:Ot×List Ob} (e:runN n m b args h=some y):args.length=n∧Bu m b args h=some y:=by
 unfold runN at e
 by_cases q:args.length=n
 ·rw[if_pos q] at e;exact⟨q,e⟩
 ·rw[if_neg q] at e;cases e
def uO:List D→Option (List Str)
 | []=>some []
 | .str s::ds=>(uO ds).map (s::·)
 | _::_=>none
theorem Lj:∀{ds:List D} {ss:List Str},uO ds=some ss→ds=ss.map .str
 | [],ss,h=>by cases h;rfl
 | d::ds,ss,h=>by
  cases d<;>first|cases h;done|skip
  simp only[uO] at h
  obtain⟨t,ht,rfl⟩:=Option.map_eq_some_iff.mp h
  rw[Lj ht];rfl
theorem Wq (ss:List Str):uO (ss.map .str)=some ss:=by
 induction ss with
 | nil=>rfl
 | cons s ss ih=>show (uO (ss.map .str)).map (s::·)=_;rw[ih];rfl
def wC (f g:M R):M R:=f.bind fun o st1=>match o with
 | .d (.str s)=>(g.bind fun a st=>(bT st a).bind fun ds=>(uO ds).bind fun ss=>if (ss.map (·.length)).sum+ss.length*s.length≤16777216 then some (.ok (.d (.str (Txt.join s ss))) st) else none) st1
 | _=>none
theorem X8 {K:PySem.W.Frag} {W:WX} {to te:TE} {f g:M R} (ho:XE K W to f) (he:XE K W te g):XE K W (tM1 (fun x xs H Q=>∃a p,∃ys:List Str,x=.str a∧xs=[.ref p]∧(SqL K H p (ys.map V.str)∨SqT K H p (ys.map V.str))∧(ys.map (·.length)).sum+ys.length*a.length≤16777216∧Q (.str (Txt.join a ys)) H) to te) (wC f g):=fun A st σ H ts C Q y hy p=>by
 rcases cD hy with ⟨o,s1,h1,h2⟩|⟨x,s1,h1,rfl⟩
 ·split at h2
  ·rename_i s
   refine ho A st σ H ts C _ _ h1 fun v H1 C1=>?_
   obtain⟨jj,jk,rQ⟩:=id C1
   have hv:v=.str s:=rQ.tmp (rt K σ (.d (.str s)) v) (by simp)
   refine⟨⟨s,hv⟩,?_⟩
   rcases cD h2 with ⟨a,s2,h3,h4⟩|⟨x,s2,h3,rfl⟩
   ·refine he A s1 σ H1 _ C1 _ _ h3 fun u H2 ⟨Hb,ι,C2⟩=>?_
    obtain⟨ds,hd,h5⟩:=Option.bind_eq_some_iff.mp h4
    obtain⟨ss,hs,h6⟩:=Option.bind_eq_some_iff.mp h5
    obtain⟨hz,rfl⟩:=ite_some h6
    obtain⟨a',vs,rfl,sq,r⟩:=C2.bT (C2.tmp (rt K σ a u) (by simp)) hd
    rw[Lj hs] at r
    have e:=K_ r
    subst e
    exact⟨s,a',ss,hv,rfl,.inl (.inl sq),hz,p _ _ ((C2.temps fun q hq=>C2.tmp q (by simp[hq])).fB (by unfold Rp;rfl))⟩
   ·exact he A s1 σ H1 _ C1 _ _ h3 fun cls d H2 X=>p cls d H2 X.drop
  ·cases h2
 ·exact ho A st σ H ts C _ _ h1 p
section
variable {st s1 s2:ST} {a b:S} {t u:M Bool} {f g:M R} {y:Option Rs} {x:XD} {r:R} {k:G} {n:M Ob}
theorem X_ (h:a st=some (.nx s1)):au a b st=b s1:=by unfold au;rw[h]
theorem N7 (h:a st=some (.rt r s1)):au a b st=some (.rt r s1):=by unfold au;rw[h]
theorem G7 (h:a st=some (.ex x s1)):au a b st=some (.ex x s1):=by unfold au;rw[h]
theorem aa2 (h:t st=some (.ok true s1)):bY t a b st=a s1:=by unfold bY;rw[h]
theorem aa3 (h:t st=some (.ok false s1)):bY t a b st=b s1:=by unfold bY;rw[h]
theorem aa4 {c:Bool} (h:t st=some (.ok c s1)):bY t a b st=if c then a s1 else b s1:=by unfold bY;rw[h];cases c<;>rfl
theorem Lk {k:G}:forL bR k b [] st=some (.nx st):=by unfold forL;rw[if_pos (show bR st from trivial)]
end
section
variable {st:ST} {i j:Int} {a b:D} {r:R} {s t:Str} {h:List Ob} {v:List Sv}
theorem aa5 {k:D→D→Option D}:aK k st (.d a) (.d b)=(k a b).map .d:=rfl
theorem v_add:eO st (.d (.int i)) (.d (.int j))=some (.d (.int (i+j))):=rfl
theorem v_mul (h:CMul i j):jB (.int i) (.int j)=some (.int (i*j)):=if_pos h
theorem Yb (h:-(2 ^ 64)<i∧i<2 ^ 64):jB (.int i) (.int j)=some (.int (i*j)):=if_pos (.inl h)
theorem Yc (h:-(2 ^ 64)<j∧j<2 ^ 64):jB (.int i) (.int j)=some (.int (i*j)):=if_pos (.inr h)
theorem v_mod (h:0<j):fj (.int i) (.int j)=some (.int (i%j)):=if_pos h
theorem v_div (h:0<j∧j<1073741824):lU (.int i) (.int j)=some (.int (i/j)):=if_pos h
theorem v_pow (h:0≤j∧j≤1000000∧i.natAbs<2 ^ 64):wN (.int i) (.int j)=some (.int (i ^ j.toNat)):=if_pos h
theorem PL {n:Bool}:kEq n (.int i) (.int j)=some (.bl (if n then !(i == j) else i == j)):=by unfold kEq;rw[if_pos (by simp[cX])];simp only[dN]
theorem Yd (hs:s.length≤16000000):iw st [.d (.str s)]=some (.d (.int (s.length:Int))):=by simp[iw,kLen,snap,Ij,hs]
theorem Ye {ds:List D}:iw st [.d (.lst ds)]=some (.d (.int (ds.length:Int))):=rfl
theorem Yg {ns:List Int}:iw st [.d (.cM ns)]=some (.d (.int (ns.length:Int))):=rfl
theorem Z7 {ns:List Int}:bF st (.d (.cM ns)) (.d (.int i))=(atI ns i).map fun n=>.d (.int n):=by
 simp[bF,K2.or,jP,lV,m9,qX,wQ,bT,eX,bO,cI,aU]
theorem Z8 {ds:List D}:bF st (.d (.lst ds)) (.d (.int i))=(atI ds i).map .d:=by
 simp[bF,K2.or,jP,lV,m9,qX,wQ,bT,eX,bO,cI,aU]
theorem Z9 (hs:s.length≤16000000):bF st (.d (.str s)) (.d (.int i))=(atI s.cps.toList i).map fun c=>.d (.str ⟨#[c]⟩):=by
 simp[bF,K2.or,jP,lV,m9,qX,wQ,bT,eX,bO,cI,aU,hs]
end
theorem Z_ {k l:K2} {f g e:M R} {st s1 s2:ST} {x y w:R} {b1 b2:Bool} (hf:f st=some (.ok x s1)) (hg:g s1=some (.ok y s2)) (hk:k s2 x y=some (.d (.bl b1))) (he:e s2=some (.ok w s2)) (hl:l s2 y w=some (.d (.bl b2))):o8 k l f g e st=some (.ok (.d (.bl (b1&&b2))) s2):=by
 unfold o8
 rw[bQ hf,bQ hg]
 simp only[hk]
 cases b1
 ·simp
 ·simp only[bQ he,hl];simp
theorem Yh {t:M Bool} {st s1:ST} {b:Bool} (h:t st=some (.ok b s1)):jW t st=some (.ok (!b) s1):=by unfold jW;rw[bQ h];rfl
theorem Yi {t u:M Bool} {st s1:ST} {b b2:Bool} (h:t st=some (.ok b s1)) (h2:u s1=some (.ok b2 s1)):jE t u st=some (.ok (b || b2) s1):=by unfold jE;rw[bQ h];cases b<;>simp[h2,M.ret]
theorem Yj {t u:M R} {st s1:ST} {b b2:Bool} (h:t st=some (.ok (.d (.bl b)) s1)) (h2:u s1=some (.ok (.d (.bl b2)) s1)):xM t u st=some (.ok (.d (.bl (b&&b2))) s1):=by
 unfold xM;rw[bQ (show tF t st=some (.ok b s1) by unfold tF M.of;rw[h];rfl)];cases b<;>simp[h2,M.ret]
theorem Wr {it:M Wk} {k:G} {b:S} {st s1:ST} {w:Wk} (h:it st=some (.ok w s1)):iQ it k b st=forL w.lk k b w.xs s1:=by
 unfold iQ;rw[h]
section
variable {st s1 s2 s3:ST} {f g:M R} {fa ga:M (List R)} {x y z r:R} {k:K2} {b b2:Bool} {rs:List R} {i:Nat}
theorem e_V (h:st.s[i]?=some (.v r)):eV i st=some (.ok r st):=by unfold eV;rw[h]
theorem Cp {o:Ob} (h:st.s[i]?=some (.own o)):eV i st=some (.ok (.w i) st):=by unfold eV;rw[h]
theorem Ry:aN st=some (.ok [] st):=rfl
theorem Ju (h:f st=some (.ok r s1)) (h2:ga s1=some (.ok rs s2)):aC f ga st=some (.ok (r::rs) s2):=by unfold aC;rw[bQ h,bQ h2]
theorem e_B (hf:f st=some (.ok x s1)) (hg:g s1=some (.ok y s2)) (hk:k s2 x y=some z):eB k f g st=some (.ok z s2):=by unfold eB;rw[bQ hf,bQ hg,hk];rfl
theorem aa6 {kk:D→D→Option D} {a c d:D} (h:kk a c=some d):aK kk st (.d a) (.d c)=some (.d d):=by rw[aa5,h];rfl
theorem rC {α β:Type} {f:M α} {u:ST→α→Option β} {a:α} {c:β} (hf:f st=some (.ok a s1)) (hk:u s1 a=some c):M.of f u st=some (.ok c s1):=by unfold M.of;rw[hf];simp only[hk];rfl
theorem Rz (h:f st=some (.ok (.d (.bl b)) s1)):tF f st=some (.ok b s1):=rC h rfl
theorem t_R (h:f st=some (.ok r s1)) (h2:rN s1 r=some b):tR f st=some (.ok b s1):=rC h h2
theorem s_ret (h:f st=some (.ok r s1)):cJ f st=some (.rt r s1):=by unfold cJ;rw[h]
theorem oV {kk:G} (h:f st=some (.ok r s1)) (h2:kk r s1=some (.ok () s2)):bB f kk st=some (.nx s2):=by unfold bB;simp only[h,h2]
theorem s_drop (h:f st=some (.ok r s1)):lK f st=some (.nx s1):=by unfold lK;rw[h]
theorem aac {n:M Ob} {o:Ob} (h:n st=some (.ok o s1)):ni i n st=some (.nx ⟨s1.s.set i (.own o),s1.h⟩):=by unfold ni;rw[h]
theorem aa7 {n:Int} (h:fa st=some (.ok [.d (.int n)] s1)) (hn:-1000000000≤n∧n≤1000000000):lM fa st=some (.ok ⟨(mY 0 n.toNat).map .d,bR⟩ s1):=rC h (if_pos hn)
end
end AL
set_option maxHeartbeats 2000000
namespace DL
open PySem L2 PyProof.Rows
section
structure je (P:Program) (w:World) (K:PySem.W.Frag) (mg:Str→Option Value) (base:Heap) (C:Addr) (m:Str) (ps:List Str) (k:Nat) (sp:Sp):Prop where
 ex:∃f fd,FnOk P w K mg base (L2.CX P w) k f fd ps sp∧PySem.W.findIn K (.ref C) m=some (some (.ref f))∧PySem.W.isFn K (.ref f)=true∧PySem.W.fnIn K f=true∧Binds K fd ps []
def w6 (neg:Bool) (C:Addr) (sp:Sp):R2:=fun x o H Q=>∃a,o=.ref a∧(∃dx fs,H a=some (.ins C dx fs))∧sp [o,x] H (fun v H3=>∃b,v=.bl b∧Q (.bl (if neg then !b else b)) H3) E0
def Ip (C:Addr) (sp:Sp):List V→Hp→VK→Prop:=fun xs H Q=>∃a,xs=[.ref a]∧(∃dx fs,H a=some (.ins C dx fs))∧sp [.ref a] H (fun v H2=>∃n:Int,v=.int n∧(0≤n∧n<2 ^ 63)∧Q (.int n) H2) E0
def QX (C:Addr) (sp:Sp) (E:L2.St→XK) (to ti:TE):TG:=fun v σ H Q=>to σ H fun o H1=>ti σ H1 fun i H2=>∃a,o=.ref a∧(∃dx fs,H2 a=some (.ins C dx fs))∧sp [o,i,v] H2 (fun _ H3=>Q σ H3) (E σ)
variable {X:Cx} {C:Addr} {ps:List Str} {k j:Nat} {sp:Sp} {W:WX} {e o i:Expr} {to ti ta:TE} {p pos:Pos}
theorem run_at {CX:CXT} {A:Around} {f:Addr} {fd:FuncData} {pins:List (Addr×Obj)} {σ:L2.St} {H:Hp} {s:Shared} {Q:VK} {us:List Value} {vs:List V} {E:XK} (sb:Sub X k A) (F:FnOk X.prog X.w X.K X.mg X.base CX k f fd ps sp) (hb:Binds X.K fd ps []) (hx:PassesAt CX X σ E)
  (I:Inv X pins σ H s) (r:Vals vs us) (h:sp vs H Q E):wpAny (model X.prog X.w) A (call (.ref f) us) (EP X pins σ Q) X.xe s:=by
 have e0:Env0 X.prog X.w X.K X.mg X.base A X.stack s H:=by
  have e:=I.env0
  exact⟨by rw[sb.fr];exact e.frames,e.mod,e.bs,e.bsz,e.funs,e.frf,e.hok,e.bare⟩
 have hl:us.length=ps.length:=by rw[← r.length];exact F.len _ _ _ _ h
 have b:=hb s us I.kIn (by rw[List.append_nil];exact hl)
 rw[List.append_nil] at b
 refine wpAny_call (codeAny_mono (F.run A X.stack s H ⟨us,[]⟩ us vs Q E sb.room e0 b r h) fun z s' hq=>?_)
 cases z with
 | error er=>exact hx pins H s er s' I hq
 | ok fl=>
  cases fl with
  | ret u=>exact I.after hq
  | next=>exact False.elim hq
  | brk=>exact False.elim hq
  | cont=>exact False.elim hq
theorem G8 (M:je X.prog X.w X.K X.mg X.base C "__getitem__" ps k sp) (hr:Room j X.A) (hk:k+1≤j) (tk:Takes X W) (ho:PE X o to) (hi:PE X i ti) (hs:∀x y,subscripted i true x y=runValue (.builtin "lifetime.subscript" ⟨[x,y],[]⟩):=by intro _ _;with_unfolding_all rfl) :
  PE X (.Subscript o i pos) (QD C sp (WE W) to (tCons ti tNil)):=by
 obtain⟨f,fd,F,h1,h2,h3,hb⟩:=M.ex
 refine⟨fun pins s σ H Q I h=>?_⟩
 refine Subscript_ (thn (ho.run pins s σ H _ I h) fun u s1 ⟨y,H1,I1,ry,a,ey,q⟩=>?_)
 subst ey
 obtain rfl:u=Value.ref a:=ry
 refine thn (hi.run pins s1 σ H1 _ I1 q) fun v s2 ⟨x,H2,I2,rx,⟨dx,fs,hd⟩,q2⟩=>?_
 obtain⟨ox,od,J,_⟩:=StX.insC_at (X:=X) I2 (.inr ⟨dx,fs,hd⟩)
 obtain⟨m,hF⟩:=I2.fr
 refine PySem.W.sub_K hF I2.ok.mod.kin J h1 h3 h2 (run_at (k:=k) (vs:=[.ref a,x]) ?_ F hb (passAt tk σ) I2 (.cons rfl (.cons rx .nil)) q2) (hs _ _)
 exact Sub.in1 ⟨hr.mono hk,rfl⟩
theorem zU {σ:L2.St}:PassesAt (L2.CX X.prog X.w) X σ E0:=fun pins H s e s' I h=>passL pins σ H s e s' I h
theorem Yk (M:je X.prog X.w X.K X.mg X.base C "__contains__" ps k sp) (hr:Room k X.A):OpR X (compareOp .In) (w6 false C sp):=by
 obtain⟨f,fd,F,h1,h2,h3,hb⟩:=M.ex
 intro pins s σ H x y v u Q I rx ry ⟨a,ey,⟨dx,fs,hd⟩,q⟩
 subst ey
 obtain rfl:u=Value.ref a:=ry
 obtain⟨ox,od,J,_⟩:=StX.insC_at (X:=X) I (.inr ⟨dx,fs,hd⟩)
 obtain⟨m,hF⟩:=I.fr
 refine PySem.W.in_K hF I.ok.mod.kin J h1 h2 (thn (run_at (k:=k) (vs:=[.ref a,x]) ⟨hr,rfl⟩ F hb zU I (.cons rfl (.cons rx .nil)) q) fun w s1 ⟨z,H1,I1,rz,b,ez,q1⟩=>?_)
 subst ez
 obtain rfl:w=Value.bool b:=rz
 exact wpAny_truthy_bool ⟨.bl b,H1,I1,rfl,q1⟩
theorem Ws (M:je X.prog X.w X.K X.mg X.base C "__contains__" ps k sp) (hr:Room k X.A):OpR X (compareOp .NotIn) (w6 true C sp):=by
 obtain⟨f,fd,F,h1,h2,h3,hb⟩:=M.ex
 intro pins s σ H x y v u Q I rx ry ⟨a,ey,⟨dx,fs,hd⟩,q⟩
 subst ey
 obtain rfl:u=Value.ref a:=ry
 obtain⟨ox,od,J,_⟩:=StX.insC_at (X:=X) I (.inr ⟨dx,fs,hd⟩)
 obtain⟨m,hF⟩:=I.fr
 refine PySem.W.notIn_K hF I.ok.mod.kin J h1 h2 (thn (run_at (k:=k) (vs:=[.ref a,x]) ⟨hr,rfl⟩ F hb zU I (.cons rfl (.cons rx .nil)) q) fun w s1 ⟨z,H1,I1,rz,b,ez,q1⟩=>?_)
 subst ez
 obtain rfl:w=Value.bool b:=rz
 exact wpAny_truthy_bool ⟨.bl !b,H1,I1,rfl,q1⟩
section
variable {a b:Expr} {tb:TE}
theorem aad (M:je X.prog X.w X.K X.mg X.base C "__contains__" ps k sp) (hr:Room j X.A) (hk:k≤j) (ha:PE X a ta) (hb:PE X b tb) (hm:behindInMarks .In b=false:=by with_unfolding_all rfl):PT X (.Compare a [.In] [b] pos) (tTest (tOp (w6 false C sp) ta tb)):=pt_cmpR (Yk M (hr.mono hk)) ha hb hm
theorem Yl (M:je X.prog X.w X.K X.mg X.base C "__contains__" ps k sp) (hr:Room j X.A) (hk:k≤j) (ha:PE X a ta) (hb:PE X b tb) (hm:behindInMarks .NotIn b=false:=by with_unfolding_all rfl):PT X (.Compare a [.NotIn] [b] pos) (tTest (tOp (w6 true C sp) ta tb)):=pt_cmpR (Ws M (hr.mono hk)) ha hb hm
end
theorem Vp (M:je X.prog X.w X.K X.mg X.base C "__len__" ps k sp) (hr:Room (k+1) X.A):CallR X (.builtin "len") (Ip C sp):=by
 obtain⟨f,fd,F,h1,h2,h3,hb⟩:=M.ex
 intro pins s σ H xs us Q I r ⟨a,ex,⟨dx,fs,hd⟩,q⟩
 subst ex
 obtain rfl:=Vals.ref1 r
 obtain⟨ox,od,J,_⟩:=StX.insC_at (X:=X) I (.inr ⟨dx,fs,hd⟩)
 obtain⟨m,hF⟩:=I.fr
 refine PySem.W.len_K hF I.ok.mod.kin J h1 h2 (wpAny_mono (run_at (k:=k) (vs:=[.ref a]) (Sub.in1 ⟨hr,rfl⟩) F hb zU I (.cons rfl .nil) q) (fun w s1 ⟨z,H1,I1,rz,n,ez,hn,q1⟩=>?_) fun _ _ x=>x)
 subst ez
 obtain⟨t,rfl⟩:=rz
 exact⟨hn,.int n,H1,I1.tok _,⟨_,rfl⟩,q1⟩
theorem aae (M:je X.prog X.w X.K X.mg X.base C "__len__" ps k sp) (hr:Room j X.A) (hk:k+1≤j) (hB:cO X.mg) (h:PE X e to) (hg:Gl X "len":=by rfl) (he:starEach [e] X.env=(false,eval e X.env)::starEach [] X.env:=by rfl):PE X (.Call (.Name "len" p) [e] [] pos) (tCB (Ip C sp) (tCons to tNil)):=
 pe_callB (Vp M (hr.mono hk)) hg (hB _ (by trivial)) PySem.boot_len (pa_cons h pa_nil he) (he:=he)
theorem Ym (M:je X.prog X.w X.K X.mg X.base C "__setitem__" ps k sp) (hq:PySem.W.noSeq X.K C=true) (hr:Room j X.A) (hk:k≤j) (tk:Takes X W) (ho:PE X o to) (hi:PE X i ti)
  (ha:∀v,assign (.Subscript o i pos) X.env v=(do
   let ov ← holding [v] (eval o X.env)
   let iv ← holding [v,ov] (eval i X.env)
   standAt pos
   holding [v,ov,iv] (setItem ov iv v)
   release [v,ov,iv] []):=by intro _;rfl):PG X (.Subscript o i pos) (QX C sp (WE W) to ti):=by
 obtain⟨f,fd,F,h1,h2,h3,hb⟩:=M.ex
 refine⟨fun pins s σ H v u Q I r h=>?_⟩
 rw[ha]
 refine wpAny_bind (wpAny_holding (thn (ho.run pins s σ H _ I h) fun ov s1 ⟨x,H1,I1,r1,q1⟩=>?_))
 refine wpAny_bind (wpAny_holding (thn (hi.run pins s1 σ H1 _ I1 q1) fun iv s2 ⟨y,H2,I2,r2,a,ex,⟨dx,fs,hd⟩,q2⟩=>?_))
 subst ex
 obtain rfl:ov=Value.ref a:=r1
 obtain⟨ox,od,J,_⟩:=StX.insC_at (X:=X) I2 (.inr ⟨dx,fs,hd⟩)
 refine wpAny_bind (wpAny_standAt (wpAny_bind (wpAny_holding ?_)))
 unfold setItem sequenceKey
 refine wpAny_holding (wpAny_bind (wpAny_bind (J.type.here ?_)))
 refine wpAny_bind ((PySem.W.anyM_none I2.kIn hq).here ?_)
 rw[if_pos (show (!false)=true from rfl)]
 refine wpAny_pure (wpAny_bind (PySem.W.special_fn I2.kIn J h1 (beq_iff_eq.mp h2) (wpAny_mono (run_at (k:=k) (vs:=[.ref a,y,v]) ⟨hr.mono hk,rfl⟩ F hb (passAt tk σ) I2 (.cons rfl (.cons r2 (.cons r .nil))) q2) (fun w s3 ⟨z,H3,I3,rz,q3⟩=>?_) fun _ _ x=>x)))
 exact wpAny_pure (wpAny_release ⟨σ,H3,I3,q3⟩)
end
end DL
set_option maxHeartbeats 2000000
namespace DL
open PySem L2 PyProof.Rows
def Jv (d it:Addr) (o:Obj):HO:=.ext fun h=>∃es ep,o.data=.dict es ep∧h.IsKeyIter it d 0 es.size ep
theorem Yn {P:Program} {w:World} {H:Hp} {h:Heap} {d it:Addr} {o:Obj} {es:Array DictEntry} {ep:Nat} (hd:o.data=.dict es ep) (e:h.IsKeyIter it d 0 es.size ep):ObjOk P w H h it (Jv d it o):=by
 refine⟨⟨es,ep,hd,e⟩,?_,?_⟩
 ·obtain⟨oi,e,_⟩:=e;exact⟨oi,e⟩
 ·rintro h1 h2 ⟨es,ep,q,oi,e1,e2⟩ k
  exact⟨es,ep,q,oi,k _ e1,e2⟩
def Jw (H:Hp) (d:Addr) (o:Obj):Prop:=(∃kvs,H d=some (.frz o (.dK kvs)))∨∃kvs,H d=some (.frz o (.dT kvs))
def Ir (n:Nat):List V→Hp→VK→Prop:=fun xs H Q=>∃(d:Addr) (o:Obj),xs=[.ref d]∧Jw H d o∧∀it,H it=none→n≤it→Q (.ref it) (upd H it (Jv d it o))
section
variable {X:Cx} {C:Addr} {ps:List Str} {k j:Nat} {sp:Sp} {W:WX} {e o i tg:Expr} {to ti ta te:TE} {p pos:Pos} {nm:Str}
theorem Vq:CallR X (.builtin "iter") (Ir X.s_0.heap.objs.size):=by
 intro pins s σ H xs us Q I r ⟨d,o,ex,h,q⟩
 subst ex
 obtain rfl:=Vals.ref1 r
 refine Calls.call_function_entry (by trivial) (by trivial) PySem.W.kdk_entry_iter (PySem.W.kdk_args_iter _) ?_
 unfold Builtin.«iter»
 refine wpAny_bind (m:=someArgs "iter" 1 2 _) (wpAny_of_eq (a:=[Value.ref d]) (by first|rfl|kernel_rfl!) ?_)
 show wpAny _ _ (pyIter (.ref d) >>= _) _ _ _
 refine wpAny_bind ?_
 have fin:∀{es:Array DictEntry} {ep:Nat},o.data=.dict es ep→EP X pins σ Q (.ref s.heap.objs.size) {s with heap:=s.heap.push {cls:=.type "dict_keyiterator",data:=.fields #[.ref d,.int 0 0,.int es.size 0,.int ep 0]}}:=fun hd=>
  ⟨.ref s.heap.objs.size,_,I.laid (t':=s.toks) (fun b u e=>Heap.get?_push_of_some _ e) (Nat.le_refl _) (Yn hd ⟨_,Heap.get?_push_size _ rfl,rfl,rfl⟩),rfl,q _ (I.hok.fresh (Nat.le_refl _)) I.sz⟩
 rcases h with ⟨kvs,h⟩|⟨kvs,h⟩
 ·obtain⟨hs,hgd,hx,es,ep,vs,hdt,hsz,kv,hm⟩:=I.frzK h
  exact iter_keys hs hgd hx hdt (wpAny_pure ⟨_,rfl,fin hdt⟩)
 ·obtain⟨hs,hgd,hx,es,ep,hdt,hsz,ent⟩:=I.frzT h
  exact iter_keys hs hgd hx hdt (wpAny_pure ⟨_,rfl,fin hdt⟩)
theorem aaf (hB:cO X.mg) (h:PE X e te) (hg:Gl X "iter":=by rfl) (he:starEach [e] X.env=(false,eval e X.env)::starEach [] X.env:=by rfl):PE X (.Call (.Name "iter" p) [e] [] pos) (tCB (Ir X.s_0.heap.objs.size) (tCons te tNil)):=
 pe_callB Vq hg (hB _ (by trivial)) (by first|rfl|decide +kernel) (pa_cons h pa_nil he) (he:=he)
def PN (C:Addr) (nm:Str) (te:TE):TE:=fun σ H Q=>te σ H fun x H1=>∃a dx fs v,x=.ref a∧H1 a=some (.ins C dx fs)∧fs.lookup nm=some v∧Q v H1
theorem Vr {P:Program} {w:World} {H:Hp} {h:Heap} {it:Addr} {φ:Heap→Prop} (hn:H it=none) (k:HOk P w (upd H it (.ext φ)) h):HOk P w H h:=fun a o e=>by
 have z:a≠it:=fun z=>by rw[z,hn] at e;cases e
 have q:=k a o (by rw[upd_ne z];exact e)
 have up:∀{b u},upd H it (.ext φ) b=some u→(∀ψ,u≠.ext ψ)→H b=some u:=fun {b u} e n=>by
  by_cases y:b=it
  ·rw[y,upd_same] at e;cases e;exact absurd rfl (n _)
  ·rw[upd_ne y] at e;exact e
 have go:∀o,ObjOk P w (upd H it (.ext φ)) h a o→ObjOk P w H h a o:=fun o=>by
  induction o with
  | dT kvs=>
   rintro⟨h1,h2,xs,h3,h4⟩
   exact⟨h1,h2,xs,L2.Paired.mapP h3 fun p q ⟨e1,e2,e3⟩=>⟨e1,up e2 (fun _ z=>nomatch z),e3⟩,h4⟩
  | ins C dx fs=>
   rintro⟨h1,h2⟩
   exact⟨up h1 (fun _ z=>nomatch z),h2⟩
  | frz o u ih=>rintro⟨h1,h2⟩;exact⟨h1,ih h2⟩
  | lst=>exact id
  | tup=>exact id
  | dK=>exact id
  | set=>exact id
  | own=>exact id
  | xd=>exact id
  | met=>exact id
  | rng=>exact id
  | tbl=>exact id
  | ext=>exact id
 exact go o q
theorem Vs {M:Model} {A:Around} {E:Value→Shared→Prop} {s:Shared} {K:PySem.W.Frag} {x f:Addr} {ox:Obj} {od:Option Obj} {Q:Value→Shared→Prop} (X:K.In s.heap) (I:PySem.W.InstAt s.heap x ox C od) (hs:PySem.W.findIn K (.ref C) "__iter__"=some (some (.ref f))) (hf:PySem.W.isFn K (.ref f)=true)
  (h:wpAny M A (call (.ref f) [.ref x]) (fun it s'=>∃T' r,s'.TypeIs it T'∧typeLookup (.type T') "__next__"=pure (some r)∧Q it s') E s):wpAny M A (pyIter (.ref x)) Q E s:=by
 unfold pyIter
 refine wpAny_bind (wpAny_bind (I.type.here ((PySem.W.looks_findIn X hs).here ?_)))
 show wpAny M A (callSpecialIfBoundUnlessNone? (.ref x) "__iter__" _ >>= _) Q E s
 refine wpAny_bind ?_
 simp only[callSpecialIfBoundUnlessNone?,bindSpecialIfBound?]
 refine wpAny_holding (wpAny_bind (wpAny_bind (wpAny_bind (I.type.here ((PySem.W.looks_findIn X hs).here ?_)))))
 refine wpAny_bind (wpAny_askSetting (wpAny_ite ?_))
 split
 ·refine wpAny_bind ((PySem.W.bind_fn X _ (beq_iff_eq.mp hf)).here (wpAny_pure ?_))
  refine wpAny_bind (wpAny_mono h (fun it s' ⟨T',r,hT',hl,hQ⟩=>wpAny_pure ?_) fun _ _ x=>x)
  exact wpAny_bind (wpAny_specialOf hT' hl (wpAny_pure hQ))
 ·refine wpAny_tryCatch (wpAny_bind ((PySem.W.bind_fn X _ (beq_iff_eq.mp hf)).here (wpAny_pure ?_)))
  refine wpAny_bind (wpAny_mono h (fun it s' ⟨T',r,hT',hl,hQ⟩=>wpAny_pure ?_) fun _ _ x=>x)
  exact wpAny_bind (wpAny_specialOf hT' hl (wpAny_pure hQ))
theorem Yo {P:Program} {w:World} {K:PySem.W.Frag} {mg:Str→Option Value} {base:Heap} {nx qn:Str} {st:Stmt} {f:Addr} {fd:FuncData} {N:List Str} {A:Around} {outer:List Env} {s:Shared} {H:Hp} {us:List Value} {vs:List V} {Q:VK} {EE:XK}
  (F:dY K nx qn st f fd) (S:FnScope N ps (defScope st)) (hr:Room (k+1) A) (e0:Env0 P w K mg base A outer s H) (hb:BindsTo s fd ⟨us,[]⟩ (ps.zip us)) (rv:Vals vs us) (hl:vs.length=ps.length)
  (hbody:∀cdv,Room k (A.deeper (envOfC qn (defScope st) s.heap.objs.size f cdv))→∃t,PSs (cxOf (L2.CX P w) P w K mg base N qn (defScope st) f cdv A outer s H EE) (defBody st) t∧t {nx:=fun _ _=>False,rt:=Q} (L2.start N vs) H) :
  codeAny (model P w) A (.call (.ref f) ⟨us,[]⟩) (CR (L2.CX P w) outer P w H s Q EE) s:=by
 obtain⟨oc,od,dV,kV,doc,pm,an,cdv,ct,osl,rfl,lk,hcd⟩:=F.ex
 obtain⟨t,ht,hq⟩:=hbody cdv (hr.deeper _)
 have kk:=e0.mod.kin.keeps fun b o e=>(e0.bs b o e).1
 refine codeAny_call_function hr.depth (kk _ _ lk) rfl S.co S.gen rfl (PySem.W.codeRec_of kk hcd) (hb _ _ _ _ ?_)
 refine wpAny_newFunctionEnv_cells S.kind (fun y hy=>?_) fun _ eq s2 y=>?_
 ·obtain⟨n,v⟩:=y
  exact(S.par n (List.of_mem_zip hy).1).imp id fun z=>⟨z,PySem.W.cellsFrom_some _ _ _ (.inl z)⟩
 ·subst eq
  refine⟨(e0.mod.nolimit.keeps fun b o e=>(e0.bs b o e).1).keeps y.toInCall.keep,codeAny_func (wpAny_mono (ht.run [] s2 (L2.start N vs) H _ (inv_start S hr.hd e0 hl rv y) hq) (fun fl s' hs=>?_) fun _ _ z=>z)⟩
  cases fl with
  | ret u=>obtain⟨v,σ',H',J,rr,q⟩:=hs;exact⟨v,H',J.os,J.bare,J.base,J.hok,rr,q⟩
  | next=>exact hs.elim fun _ ⟨_,_,q⟩=>q.elim
  | brk=>exact hs.elim fun _ ⟨_,_,q⟩=>q.elim
  | cont=>exact hs.elim fun _ ⟨_,_,q⟩=>q.elim
structure xR (P:Program) (w:World) (K:PySem.W.Frag) (mg:Str→Option Value) (base:Heap) (C:Addr) (nm:Str):Prop where
 ex:∃f fd,PySem.W.findIn K (.ref C) "__iter__"=some (some (.ref f))∧PySem.W.isFn K (.ref f)=true∧Binds K fd ["self"] []∧
  ∀(A:Around) (outer:List Env) (s:Shared) (H:Hp) (a dx d:Addr) (fs:List (Str×V)) (o:Obj),Room 1 A→Env0 P w K mg base A outer s H→BindsTo s fd ⟨[.ref a],[]⟩ ((["self"]:List Str).zip [Value.ref a])→H a=some (.ins C dx fs)→fs.lookup nm=some (.ref d)→Jw H d o→
   codeAny (model P w) A (.call (.ref f) ⟨[.ref a],[]⟩) (CR (L2.CX P w) outer P w H s (fun z H'=>∃it,z=.ref it∧H it=none∧s.heap.objs.size≤it∧H'=upd H it (Jv d it o)) E0) s
theorem Yp (M:xR X.prog X.w X.K X.mg X.base C nm) (hr:Room j X.A) (hk:1≤j) (he:PE X e te):PI X tg e (iKeys (PN C nm te)):=by
 obtain⟨f,fd,h1,h2,hb,F⟩:=M.ex
 refine⟨fun pins s σ H R I h=>?_⟩
 refine thn (he.run pins s σ H _ I h) fun u s1 ⟨x,H1,I1,rx,a,dx,fs,v,ex,ha,hl,d,o,ev,q⟩=>?_
 subst ex ev
 obtain rfl:u=Value.ref a:=rx
 obtain⟨ox,od,J,_⟩:=StX.insC_at (X:=X) I1 (.inr ⟨dx,fs,ha⟩)
 have hd:Jw H1 d o:=by
  rcases q with ⟨kvs,hd,_⟩|⟨kvs,hd,_⟩
  ·exact .inl ⟨kvs,hd⟩
  ·exact .inr ⟨kvs,hd⟩
 refine Vs I1.kIn J h1 h2 ?_
 have b:=hb s1 [Value.ref a] I1.kIn (by simp)
 rw[List.append_nil] at b
 refine wpAny_call (codeAny_mono (F X.A X.stack s1 H1 a dx d fs o (hr.mono hk) I1.env0 b ha hl hd) fun z s' hq=>?_)
 cases z with
 | error er=>exact zU pins H1 s1 er s' I1 hq
 | ok fl=>
  cases fl with
  | next=>exact False.elim hq
  | brk=>exact False.elim hq
  | cont=>exact False.elim hq
  | ret u=>
   obtain⟨w,H',os,bare,un,hok,r,it,ew,n,fresh,eH⟩:=hq
   subst ew eH
   obtain rfl:u=Value.ref it:=r
   obtain⟨⟨es,ep,hdt,ki⟩,_,_⟩:=hok it _ upd_same
   have un':Un (frs X.stack) [] H1 H1 s1.heap s'.heap:=⟨un.keep,un.slot,fun _ _ _ h _=>h,un.there,fun _ _ h=>h,fun _ _ _ h=>h,fun b ps h=>⟨#[],by simpa using h⟩⟩
   have fp:∀b∈[it],FpOk X pins H1 b:=fun b hb=>by
    have e:b=it:=by simpa using hb
    subst e
    exact I1.fpOk fresh n
   obtain⟨hh,g,dd,t,os'⟩:=s'
   obtain rfl:os'=s1.os:=os
   have I2:=I1.call (h':=hh) (g':=g) (d':=dd) (t':=t) (ch:=[]) un' (Vr n hok) bare (fun b z=>absurd z (by simp))
   obtain⟨oi,e1,e2,e3⟩:=id ki
   refine⟨"dict_keyiterator",_,⟨oi,e1,e2⟩,PySem.F.slot_dict_keyiterator_next.lookup,?_⟩
   rcases q with ⟨kvs,hd,q⟩|⟨kvs,hd,q⟩
   ·obtain⟨_,_,_,es',ep',vs,hdt',hsz,kv,_⟩:=I2.frzK hd
    obtain⟨rfl,rfl⟩:=dict_ep hdt hdt'
    have kl:kvs.length=es'.size:=by first|exact hsz.symm|(rw[hsz])|(rw[hsz,Paired.length kv])
    exact⟨it,[it],_,_,H1,rfl,I2,turn_keys it hdt,by rw[kl];exact ki,fp,q⟩
   ·obtain⟨_,_,_,es',ep',hdt',hsz,ent⟩:=I2.frzT hd
    obtain⟨rfl,rfl⟩:=dict_ep hdt hdt'
    have kl:kvs.length=es'.size:=by first|exact hsz.symm|(rw[hsz])
    exact⟨it,[it],_,_,H1,rfl,I2,turn_keysT it hdt,by rw[kl];exact ki,fp,q⟩
end
end DL
set_option maxHeartbeats 2000000
namespace AL
open PySem L2 DL PyProof.Rows
section
variable {K:PySem.W.Frag} {W:WX} {A:Ac} {st:ST} {σ:L2.St} {H Hb:Hp} {ts:List Tp} {ι:List Addr} {F:Fn} {fo fi:M R} {fa:M (List R)} {to ti te:TE} {ta:TA} {Cc:Addr} {r:R} {v:V}
open Classical in
noncomputable def oW (neg:Bool) (C:Addr) (F:Fn):K2:=fun st x o=>match inV st o with
 | some (C',_,_)=>if C'=C then(match dR F [o,x] st with
  | some (.ok (.d (.bl b)) s1)=>if s1=st then some (.d (.bl (if neg then !b else b))) else none
  | _=>none) else none
 | none=>none
open Classical in
noncomputable def xg (C:Addr) (F:Fn):ST→List R→Option R:=fun st xs=>match xs with
 | [o]=>(match inV st o with
  | some (C',_,_)=>if C'=C then(match dR F [o] st with
   | some (.ok (.d (.int n)) s1)=>if s1=st∧0≤n∧n<2 ^ 63 then some (.d (.int n)) else none
   | _=>none) else none
  | none=>none)
 | _=>none
theorem P0 {neg:Bool}:aR K (w6 neg Cc (bJ K F)) (oW neg Cc F):=fun A st σ H ts Hb ι x o z v u Q C hx ho e p=>by
 unfold oW at e
 split at e
 ·rename_i C' fs xs q
  split at e
  ·rename_i hc
   subst hc
   split at e
   ·rename_i b s1 hcall
    split at e
    ·rename_i hs
     subst hs
     cases e
     obtain⟨a,dx,vs,rfl,ha,_⟩:=C.inV ho q
     refine⟨a,rfl,⟨dx,_,ha⟩,?_⟩
     have hgo:=qd (W:=fun cls d _ H=>E0 cls d H) (Q:=fun v H3=>∃b,v=.bl b∧Q (.bl (if neg then !b else b)) H3) C (.cons ho (.cons hx .nil)) hcall (fun w H2 C2=>?_)
     ·exact hgo
     ·obtain⟨cC,dh,xT⟩:=id C2
      have hw:Rp K cC (.bl b) w:=xT.tmp (rt K σ (.d (.bl b)) w) (by simp)
      refine⟨b,Rp.jU hw,p _ H2 ⟨cC,dh,xT.temps fun q hq=>?_⟩⟩
      rcases List.mem_cons.mp hq with rfl|hq
      ·show Rp K cC _ _;unfold Rp;rfl
      ·exact xT.tmp q (by simp[hq])
    ·cases e
   ·cases e
  ·cases e
 ·cases e
theorem aag:rO K (Ip Cc (bJ K F)) (xg Cc F):=fun A st σ H ts Hb ι xs z vs Q C hx e p=>by
 unfold xg at e
 split at e
 ·rename_i o
  split at e
  ·rename_i C' fs xs q
   split at e
   ·rename_i hc
    subst hc
    split at e
    ·rename_i n s1 hcall
     split at e
     ·rename_i hs
      obtain⟨rfl,hn⟩:=hs
      cases e
      cases hx with
      | cons ho hn'=>
       cases hn'
       obtain⟨a,dx,vs,rfl,ha,_⟩:=C.inV ho q
       refine⟨a,rfl,⟨dx,_,ha⟩,?_⟩
       have hgo:=qd (W:=fun cls d _ H=>E0 cls d H) (Q:=fun v H2=>∃n:Int,v=.int n∧(0≤n∧n<2 ^ 63)∧Q (.int n) H2) C (.cons ho .nil) hcall (fun w H2 C2=>?_)
       ·exact hgo
       ·obtain⟨cC,dh,xT⟩:=id C2
        have hw:Rp K cC (.int n) w:=xT.tmp (rt K σ (.d (.int n)) w) (by simp)
        have:=Rp.jA hw
        subst this
        exact⟨n,rfl,hn,p _ H2 C2⟩
     ·cases e
    ·cases e
   ·cases e
  ·cases e
 ·cases e
def vg (C:Addr) (F:Fn) (fo fi:M R):G:=fun r=>fo.bind fun o=>fi.bind fun i st=>match inV st o with
 | some (C',_,_)=>if C'=C then((dR F [o,i,r]).bind fun _=>M.ret ()) st else none
 | none=>none
theorem aah (ho:XE K W to fo) (hi:XE K W ti fi):XG K W (QX Cc (bJ K F) (WE W) to ti) (vg Cc F fo fi):=fun A st σ H ts r v C Q y hy p=>by
 rcases cD hy with ⟨o,s1,h1,h2⟩|⟨x,s1,h1,rfl⟩
 ·refine ho A st σ H _ C _ _ h1 fun vo H1 C1=>?_
  rcases cD h2 with ⟨i,s2,h3,h4⟩|⟨x,s2,h3,rfl⟩
  ·refine hi A s1 σ H1 _ C1 _ _ h3 fun vi H2 ⟨Hb,ι,C2⟩=>?_
   split at h4
   ·rename_i C' fs xs q
    split at h4
    ·rename_i hc
     subst hc
     have rv:Rt K σ ι Hb r v:=C2.tmp (rt K σ r v) (by simp)
     have ro:Rt K σ ι Hb o vo:=C2.tmp (rt K σ o vo) (by simp)
     have ri:Rt K σ ι Hb i vi:=C2.tmp (rt K σ i vi) (by simp)
     obtain⟨a,dx,vs,rfl,ha,_⟩:=C2.inV ro q
     refine⟨a,rfl,⟨dx,_,ha⟩,?_⟩
     rcases cD h4 with ⟨u,s3,h5,h6⟩|⟨x,s3,h5,rfl⟩
     ·cases h6
      exact qd (C2.temps (ts':=ts) fun q hq=>C2.tmp q (by simp[hq])) (.cons ro (.cons ri (.cons rv .nil))) h5 fun w H3 ⟨iU,ji,C3⟩=>p σ H3 ⟨iU,ji,C3.temps fun q hq=>C3.tmp q (by simp[hq])⟩
     ·exact qd (C2.temps (ts':=ts) fun q hq=>C2.tmp q (by simp[hq])) (.cons ro (.cons ri (.cons rv .nil))) h5 p
    ·cases h4
   ·cases h4
  ·exact hi A s1 σ H1 _ C1 _ _ h3 fun cls d H2 X=>p cls d H2 X.drop.drop
 ·exact ho A st σ H _ C _ _ h1 fun cls d H2 X=>p cls d H2 X.drop
theorem Wt {nm:Str} {f:ST→Option R} (hf:XV K te f):XV K (PN Cc nm te) (pF [Cc] nm f):=fun A st σ H ts Hb ι r C h=>by
 obtain⟨r0,h1,h⟩:=Option.bind_eq_some_iff.mp h
 obtain⟨p,h2,h⟩:=Option.bind_eq_some_iff.mp h
 obtain⟨v0,hv0,go⟩:=hf A st σ H ts Hb ι r0 C h1
 obtain⟨a,dx,vs,rfl,ha,hl,rr⟩:=C.inV hv0 h2
 by_cases hm:p.1∈[Cc]
 ·rw[if_pos hm] at h
  obtain⟨u,hu,ru⟩:=Gi hl rr h
  rw[List.mem_singleton.mp hm] at ha
  exact⟨u,qN ru,fun H' hH Q hq=>go H' hH _ ⟨a,dx,_,u,rfl,hH _ _ _ _ ha,hu,hq⟩⟩
 ·rw[if_neg hm] at h;cases h
end
end AL
namespace DL
open PySem L2 PyProof.Rows
theorem aai {P:Program} {w:World} {K:PySem.W.Frag} {mg:Str→Option Value} {base:Heap} {C:Addr} {nm qn:Str} {st:Stmt} {f:Addr} {fd:FuncData} (FA:dY K "__iter__" qn st f fd) (sc:FnScope ["self"] ["self"] (defScope st)) (hC:Cls K C∧NoAttr K C nm)
  (h1:PySem.W.findIn K (.ref C) "__iter__"=some (some (.ref f))) (h2:PySem.W.isFn K (.ref f)=true) (hb:Binds K fd ["self"] [])
  (body:∀cdv A outer s H bZ,PSs (cxOf (L2.CX P w) P w K mg base ["self"] qn (defScope st) f cdv A outer s H bZ) (defBody st) (tRet (tCB (Ir s.heap.objs.size) (tCons (tFld K (tVar 0) nm) tNil)))):xR P w K mg base C nm:=by
 refine⟨f,fd,h1,h2,hb,fun A outer s H a dx d fs o hr e0 hbd ha hl hd=>?_⟩
 refine Yo (k:=0) FA sc hr e0 hbd (vs:=[.ref a]) (.cons rfl .nil) rfl fun cdv _=>⟨_,body cdv A outer s H _,?_⟩
 refine⟨.ref a,rfl,a,C,dx,fs,.ref d,rfl,ha,hC.1,hC.2,hl,d,o,rfl,hd,fun it n1 n2=>⟨it,rfl,n1,n2,rfl⟩⟩
end DL
set_option maxHeartbeats 2000000
namespace DL
open PySem L2 PyProof.Rows
def Iu (t:TE):TE:=fun σ H Q=>t σ H Q∨tLockE t σ H Q
theorem N8 {X:Cx} {e:Expr} {t:TE} (h:PE X e t):PE X e (Iu t):=⟨fun pins s σ H Q I q=>q.elim (fun q=>h.run pins s σ H Q I q) fun q=>(pe_lock h).run pins s σ H Q I q⟩
end DL
namespace AL
open PySem L2 DL PyProof.Rows
section
variable {K:PySem.W.Frag} {W:WX} {A:Ac} {st:ST} {σ:L2.St} {H Hb:Hp} {ts:List Tp} {ι:List Addr} {tt:TT} {t:M Bool} {tb te:TE} {e:M R} {g:TG} {k:G} {vs:List Nat}
def lN (ks:List Key):List R:=ks.map fun k=>.d (kD k)
noncomputable def xU (f:ST→Option R) (k:G) (t:M Bool) (e:M R) (vs:List Nat):ST→Option (List D×ST):=fun st=>match f st with
 | some (.d (.aM ks _))=>if ks.length≤16000000 then(gJ bR k t e vs ⟨cR st.s vs,st.h⟩ (lN ks)).map fun all=>(all,⟨cR st.s vs,st.h⟩) else none
 | some (.o n)=>(match st.h[n]? with
  | some (.aM ks ds)=>if ks.length≤16000000 then(gJ bR k t e vs ⟨cR st.s vs,st.h.set n (.cZ ks ds)⟩ (lN ks)).map fun all=>(all,⟨cR st.s vs,st.h⟩) else none
  | _=>none)
 | _=>none
noncomputable def rD (f:ST→Option R) (k:G) (t:M Bool) (e:M R) (vs:List Nat):M Ob:=fun st=>(xU f k t e vs st).map fun p=>.ok (.lst p.1) p.2
theorem eU.unlock {A A':Ac} {a:Addr} {u u':HO} {un:ST→Option ST} {t0:Tp} {st st':ST} {b:Ob} {v:V} (B:Bk K A A' a u u' un t0) (e:un st=some st') (CO:eU K A' st σ H (t0::ts) b v):H a=some u'∧eU K A st' σ (upd H a u) ts b v:=by
 obtain⟨Hb,ι,a2,u2,C,h2,h3,h4,h5,h6,h7,h8,h9⟩:=CO
 obtain⟨e1,aZ,C',rl,nb,es⟩:=B.back st st' σ H _ Hb ι C (C.tmp t0 (by simp)) e
 have C':=C'.temps (ts':=ts) fun q hq=>C'.tmp q (by simp[hq])
 obtain⟨r1,r2⟩:=B.nH a2 h7
 exact⟨e1,aZ,ι,a2,u2,C',h2,by rw[upd_ne r2];exact h3,h4.mono (bD.refl _) rl,nb a2 r2 h5,h6,r1,h8,fun i c hc=>h9 i c (by rw[es] at hc;exact hc)⟩
theorem eU.unpin {a:Addr} {o:HO} {st5:ST} {pq:L2.St} {H5:Hp} {us:List Tp} {b:Ob} {v:V} (C:aq K A st σ H ts Hb ι) (hb:Hb a=some o) (CO:eU K ⟨upd A.H a o,upd A.B a o,A.ι⟩ st5 pq H5 us b v):eU K A st5 pq H5 us b v:=by
 obtain⟨cP,dw,a2,u2,C5,h2,h3,h4,h5,h6,h7,h8⟩:=CO
 have nH:A.H a2=none:=by
  have h7:upd A.H a o a2=none:=h7
  by_cases z:a2=a
  ·rw[z,upd_same] at h7;cases h7
  ·rw[upd_ne z] at h7;exact h7
 exact⟨cP,dw,a2,u2,C.unpin hb C5,h2,h3,h4,h5,h6,nH,h8⟩
theorem Mv {n:Nat} {ks:List Key} {ds:List D} {s:List Sv} {h:List Ob} (q:h[n]?=some (.aM ks ds)):iy n ks ds ⟨s,h.set n (.cZ ks ds)⟩=some ⟨s,h⟩:=by
 obtain⟨hlt,hq⟩:=List.getElem?_eq_some_iff.mp q
 unfold iy
 rw[if_pos (by simp[hlt])]
 simp only[List.set_set]
 rw[← hq,List.set_getElem_self]
theorem Yq {f:ST→Option R} {Q:VK} {all:List D} {st':ST} (hf:XV K te f) (hg:xP K vs g k) (ht:∀W',XT K W' tt t) (he:∀W',XE K W' tb e) (C:aq K A st σ H ts Hb ι) (h:xU f k t e vs st=some (all,st')) (p:∀v H2,eU K A st' σ H2 ts (.lst all) v→Q v H2):Iu (tLc (iKeys te) g tt tb vs) σ H Q:=by
 unfold xU at h
 cases ef:f st with
 | none=>rw[ef] at h;cases h
 | some r=>
  rw[ef] at h
  obtain⟨v,hv,go⟩:=hf A st σ H ts Hb ι r C ef
  have ne:∀{a:Addr} {kvs:List (Key×V)} {u:HO},H a=some (.dK kvs)→∀x C dx fs,H x=some (.ins C dx fs)→upd H a u x=some (.ins C dx fs):=fun {a kvs u} h x C dx fs q=>by
   have z:x≠a:=fun z=>by rw[z,h] at q;cases q
   rw[upd_ne z];exact q
  cases r with
  | w i=>cases h
  | d x=>
   obtain⟨ks,ds,rfl⟩:∃ks ds,x=.aM ks ds:=by cases x<;>first|exact⟨_,_,rfl⟩|cases h
   simp only at h
   by_cases hlen:ks.length≤16000000
   ·rw[if_pos hlen] at h
    obtain⟨al,hal,e2⟩:=Option.map_eq_some_iff.mp h
    cases e2
    have hv:Rp K Hb (.aM ks ds) v:=hv
    unfold Rp at hv
    obtain⟨a,us,rfl,s,hl,q⟩:=hv
    rcases s with s|⟨od,s⟩
    ·refine .inr ⟨a,_,C.bH a _ s,trivial,fun od=>go _ (ne (C.bH a _ s)) _ ⟨a,od,rfl,.inl ⟨ks.zip us,upd_same,?_⟩⟩⟩
     have C1:=C.Py (od:=od) s
     refine Ar (Q:=fun v H'=>H' a=some (.frz od (.dK (ks.zip us)))∧Q v (upd H' a (.dK (ks.zip us)))) (W:=fun _ _ _ _=>False) (w:=⟨lN ks,bR⟩) (tp:=jm) (ts:=jm::ts) (s1:=st) hg (ht _) (he _) ⟨_,ι,C1.temps fun q hq=>?_⟩ (pY hl upd_same) (by simpa [lN] using hlen) hal fun v H2 CO=>?_
     ·rcases List.mem_cons.mp hq with rfl|hq
      ·trivial
      ·rcases List.mem_cons.mp hq with rfl|hq
       ·trivial
       ·exact C1.tmp q hq
     ·obtain⟨e1,Jx⟩:=CO.unlock (QT C s) rfl
      exact⟨e1,p _ _ Jx⟩
    ·refine .inl (go H (fun _ _ _ _ h=>h) _ ⟨a,od,rfl,.inl ⟨ks.zip us,C.bH a _ s,?_⟩⟩)
     have C1:=C.pin s
     refine Ar (Q:=Q) (W:=fun _ _ _ _=>False) (w:=⟨lN ks,bR⟩) (tp:=jm) (ts:=ts) (s1:=st) hg (ht _) (he _) ⟨_,ι,C1.temps fun q hq=>?_⟩ (pY hl upd_same) (by simpa [lN] using hlen) hal fun v H2 CO=>p _ _ (CO.unpin C s)
     rcases List.mem_cons.mp hq with rfl|hq
     ·trivial
     ·exact C1.tmp q hq
   ·rw[if_neg hlen] at h;cases h
  | o n=>
   simp only at h
   cases q:st.h[n]? with
   | none=>rw[q] at h;cases h
   | some c=>
    rw[q] at h
    obtain⟨ks,ds,rfl⟩:∃ks ds,c=.aM ks ds:=by cases c<;>first|exact⟨_,_,rfl⟩|cases h
    simp only at h
    by_cases hlen:ks.length≤16000000
    ·rw[if_pos hlen] at h
     obtain⟨al,hal,e2⟩:=Option.map_eq_some_iff.mp h
     cases e2
     obtain⟨a,ea,rfl⟩:=hv
     obtain⟨a',u,g1,g2,⟨us,rfl,hl,qq⟩,g4⟩:=C.obj n _ q
     rw[ea] at g1;cases g1
     refine .inr ⟨a,_,g2,trivial,fun od=>go _ (ne g2) _ ⟨a,od,rfl,.inl ⟨ks.zip us,upd_same,?_⟩⟩⟩
     have C1:=C.PB (od:=od) q ea g2 hl qq
     refine Ar (Q:=fun v H'=>H' a=some (.frz od (.dK (ks.zip us)))∧Q v (upd H' a (.dK (ks.zip us)))) (W:=fun _ _ _ _=>False) (w:=⟨lN ks,bR⟩) (tp:=jm) (ts:=nu a n::ts) (s1:=⟨st.s,st.h.set n (.cZ ks ds)⟩) hg (ht _) (he _) ⟨_,ι,C1.temps fun q hq=>?_⟩ (pY hl upd_same) (by simpa [lN] using hlen) hal fun v H2 CO=>?_
     ·rcases List.mem_cons.mp hq with rfl|hq
      ·trivial
      ·rcases List.mem_cons.mp hq with rfl|hq
       ·exact ea
       ·exact C1.tmp q hq
     ·obtain⟨e1,Jx⟩:=CO.unlock (QW C q ea g2 hl) (Mv q)
      exact⟨e1,p _ _ Jx⟩
    ·rw[if_neg hlen] at h;cases h
theorem N_ {f:ST→Option R} (hf:XV K te f) (hg:xP K vs g k) (ht:∀W',XT K W' tt t) (he:∀W',XE K W' tb e):XN K W (Iu (tLc (iKeys te) g tt tb vs)) (rD f k t e vs):=fun A st σ H ts ⟨Hb,ι,C⟩ Q y hy p=>by
 obtain⟨z,hz,rfl⟩:=Option.map_eq_some_iff.mp hy
 exact Yq hf hg ht he C hz p
end
end AL
set_option maxHeartbeats 2000000
namespace AL
open PySem L2 DL PyProof.Rows
section
variable {st s1 s2 s3:ST} {a b:S} {t:M Bool} {f g:M R} {fa:M (List R)} {y:Option Rs} {x:XD} {r:R} {k:G} {o:Ob} {i:Nat} {rs:List R} {n:M Ob} {d:D} {ds es:List D}
theorem Av {n m:Nat} {args:List R} {h:List Ob} {z:Rs} {w:Option (Ot×List Ob)} (hl:args.length=n) (hb:a ⟨nj m args,h⟩=some z) (he:endF z=w):AL.runN n m a args h=w:=by
 unfold AL.runN Bu
 rw[if_pos hl,hb];exact he
theorem P_ {it:M Wk} {w:Wk} (h:it st=some (.ok w s1)) (h2:forL w.lk k b w.xs s1=y):iQ it k b st=y:=(Wr h).trans h2
theorem aaj (h:fa st=some (.ok rs s1)) (hd:cQ rs=some ds) (hl:rs.length≤16000000):kZ fa st=some (.ok (.lst ds) s1):=rC h (by rw[if_pos hl];unfold wV;rw[hd])
theorem aa8 (h:n st=some (.ok o s1)) (hd:fY o=some d):lZ n st=some (.ok (.d d) s1):=rC h (by rw[hd];rfl)
theorem aak (h:fa st=some (.ok rs s1)) (hd:cQ rs=some ds) (hl:ds.length≤16000000):qY fa st=some (.ok (.d (.tup ds)) s1):=rC h (by rw[hd];show (if _ then _ else _)=_;rw[if_pos hl])
theorem aal (h:st.s[i]?=some (.own o)) (hd:fY o=some d):rB i st=some (.ok (.d d) ⟨st.s.set i (.v (.d d)),st.h⟩):=by unfold rB;rw[h];simp only[hd];rfl
theorem aam (h1:f st=some (.ok (.w i) s1)) (h2:s1.s[i]?=some (.own (.lst es))) (h3:fa s1=some (.ok [.d d] s2)) (h4:s2.s[i]?=some (.own (.lst ds))) (hl:ds.length<16000000):uZ f fa rA st=some (.ok (.d .non) ⟨s2.s.set i (.own (.lst (ds++[d]))),s2.h⟩):=by
 unfold uZ
 rw[bQ h1]
 have e1:aU s1 (.w i)=some (.lst es):=by unfold aU;simp only[h2]
 have e2:aU s2 (.w i)=some (.lst ds):=by unfold aU;simp only[h4]
 have:uM s1 (.w i)=true:=by unfold uM;rw[e1]
 rw[if_pos this,bQ h3]
 simp only[rA,e2,QJ,hl,if_true,Option.bind_some,Option.map_some,jx]
theorem aa9 {j:Int} {m:Nat} (h1:f st=some (.ok (.w i) s1)) (h2:g s1=some (.ok (.d (.int j)) s2)) (h3:s2.s[i]?=some (.own (.lst ds))) (hm:ixN ds.length j=some m):gS f g (.d d) st=some (.ok () ⟨s2.s.set i (.own (.lst (ds.set m d))),s2.h⟩):=by
 unfold gS
 rw[bQ h1,bQ h2]
 have e2:aU s2 (.w i)=some (.lst ds):=by unfold aU;simp only[h3]
 rw[e2]
 simp only[lO,hm,Option.bind_some,Option.map_some,jx]
theorem aa_ {dk:D} {kk:Key} {ks:List Key} (h1:f st=some (.ok (.w i) s1)) (h2:g s1=some (.ok (.d dk) s2)) (h3:s2.s[i]?=some (.own (.aM ks ds))) (hk:keyD dk=some kk) (hl:ks.length<16000000):gS f g (.d d) st=some (.ok () ⟨s2.s.set i (.own (.aM (jN ks kk) (ug ks ds kk d))),s2.h⟩):=by
 unfold gS
 rw[bQ h1,bQ h2]
 have e2:aU s2 (.w i)=some (.aM ks ds):=by unfold aU;simp only[h3]
 rw[e2]
 simp only[lO,hk,hl,if_true,Option.bind_some,Option.map_some,jx]
theorem Yr {F:Fn} {h2:List Ob} (h:fa st=some (.ok rs s1)) (hw:rs.all dZ=true) (hF:F rs s1.h=some (.ret (.d d),h2)):jO F fa st=some (.ok (.d d) ⟨s1.s,h2⟩):=by
 unfold jO
 rw[bQ h]
 unfold dR
 rw[if_pos hw,hF]
theorem at_of {α:Type} {xs:List α} {i:Int} {x:α} (h0:0≤i) (h:xs[i.toNat]?=some x):atI xs i=some x:=by
 have e:i=((i.toNat:Nat):Int):=by omega
 rw[e];exact atI_nat h
theorem Ys {i:Int} (h:atI ds i=some d):bF st (.d (.lst ds)) (.d (.int i))=some (.d d):=by rw[Z8,h];rfl
theorem Yt {ns:List Int} {i j:Int} (h:atI ns i=some j):bF st (.d (.cM ns)) (.d (.int i))=some (.d (.int j)):=by rw[Z7,h];rfl
theorem Yu {s:Str} {i:Int} {c:Nat} (hs:s.length≤16000000) (h:atI s.cps.toList i=some c):bF st (.d (.str s)) (.d (.int i))=some (.d (.str ⟨#[c]⟩)):=by rw[Z9 hs,h];rfl
theorem abb {it:M Wk} {e:M R} {vs:List Nat} {xs:List R} (h:it st=some (.ok ⟨xs,bR⟩ s1)) (hl:xs.length≤16000000) (hc:gJ bR k t e vs ⟨cR s1.s vs,s1.h⟩ xs=some ds):rY it k t e vs st=some (.ok (.lst ds) ⟨cR s1.s vs,s1.h⟩):=by
 unfold rY;rw[h];simp only[hl,if_true,hc];rfl
theorem Yv {s:Str} {ss:List Str} (h1:f st=some (.ok (.d (.str s)) s1)) (h2:g s1=some (.ok r s2)) (h3:bT s2 r=some (ss.map .str)) (hl:(ss.map (·.length)).sum+ss.length*s.length≤16777216):wC f g st=some (.ok (.d (.str (Txt.join s ss))) s2):=by
 unfold wC
 rw[bQ h1]
 simp only[]
 rw[bQ h2,h3]
 simp only[Option.bind_some,Wq,hl,if_true]
end
end AL
namespace TY
open PySem L2 DL AL PyProof.Rows
abbrev En:=List (Nat×Option Sv)
def lk:En→Nat→Option Sv
 | [],_=>none
 | (j,v)::p,i=>bif Nat.beq j i then v else lk p i
theorem vO {p:En} {i j:Nat} {v:Option Sv}:lk ((j,v)::p) i=if j=i then v else lk p i:=by
 show (bif Nat.beq j i then v else lk p i)=_
 by_cases e:j=i
 ·subst e;simp
 ·have:Nat.beq j i=false:=by
   cases q:Nat.beq j i
   ·rfl
   ·exact absurd (Nat.eq_of_beq_eq_true q) e
  rw[this,if_neg e];rfl
structure bG (n:Nat) (p:En) (s:List Sv):Prop where
 len:s.length=n
 get:∀i v,lk p i=some v→s[i]?=some v
section
variable {n i j:Nat} {p q p1 p2 p3:En} {s:List Sv} {v w:Sv} {ex:List Nat}
theorem bG.set (m:bG n p s) (hi:Nat.blt i n=true) (v:Sv):bG n ((i,some v)::p) (s.set i v):=⟨by rw[List.length_set];exact m.len,fun j w e=>by
 have hi:i<n:=Nat.lt_of_lt_of_le (Nat.lt_succ_self _) (Nat.le_of_ble_eq_true hi)
 rw[vO] at e
 rw[List.getElem?_set]
 split at e
 ·rename_i q;cases e;rw[if_pos q,if_pos (by rw[m.len];exact hi)]
 ·rename_i q;rw[if_neg q];exact m.get j w e⟩
def fG (ex:List Nat) (q p:En):Prop:=∀i v,i∉ex→lk q i=some v→lk p i=some v
theorem cW:fG ex p p:=fun _ _ _ h=>h
theorem dX (h:lk p i=some v) (k:fG (i::ex) q p):fG ex ((i,some v)::q) p:=fun j w hj e=>by
 rw[vO] at e
 split at e
 ·rename_i z;cases e;rw[← z];exact h
 ·rename_i z;exact k j w (fun hm=>(List.mem_cons.mp hm).elim (fun e=>z e.symm) hj) e
theorem bL (k:fG (i::ex) q p):fG ex ((i,none)::q) p:=fun j w hj e=>by
 rw[vO] at e
 split at e
 ·cases e
 ·rename_i z;exact k j w (fun hm=>(List.mem_cons.mp hm).elim (fun e=>z e.symm) hj) e
theorem n_ {x:Option Sv} (h:ex.contains i=true) (k:fG ex q p):fG ex q ((i,x)::p):=fun j w hj e=>by
 rw[vO,if_neg]
 ·exact k j w hj e
 ·intro z;subst z;exact hj (by simpa using h)
theorem bG.sub (m:bG n p s) (h:fG [] q p):bG n q s:=⟨m.len,fun i v e=>m.get i v (h i v (by simp) e)⟩
def EV {α:Type} (n:Nat) (p:En) (h:List Ob) (e:M α) (r:α) (u:List Sv→List Sv) (p':En) (h':List Ob):Prop:=∀s,bG n p s→e ⟨s,h⟩=some (.ok r ⟨u s,h'⟩)∧bG n p' (u s)
abbrev EP {α:Type} (n:Nat) (p:En) (h:List Ob) (e:M α) (r:α):Prop:=EV n p h e r id p h
def KV (n:Nat) (p:En) (h:List Ob) (k:K2) (x y z:R):Prop:=∀s,bG n p s→k ⟨s,h⟩ x y=some z
variable {α β γ ρ:Type} {h h1 h2 h3:List Ob} {f g e:M R} {fa ga:M (List R)} {x y z r:R} {rs:List R} {u u1 u2 u3:List Sv→List Sv} {k l:K2} {d:D} {ds es:List D} {o:Ob} {b b1 b2:Bool} {t t1 t2:M Bool}
theorem ao (e:lk p i=some (.v r)):EV n p h (eV i) r id p h:=fun s m=>⟨e_V (m.get i _ e),m⟩
theorem abd (e:lk p i=some (.own o)):EV n p h (eV i) (.w i) id p h:=fun s m=>⟨Cp (m.get i _ e),m⟩
theorem aJ:EV n p h (eC d) (.d d) id p h:=fun s m=>⟨rfl,m⟩
theorem bf:EV n p h aN [] id p h:=fun s m=>⟨rfl,m⟩
theorem aO (hf:EV n p h f r u p1 h1) (hg:EV n p1 h1 ga rs u1 p2 h2):EV n p h (aC f ga) (r::rs) (fun s=>u1 (u s)) p2 h2:=fun s m=>⟨Ju (hf s m).1 (hg _ (hf s m).2).1,(hg _ (hf s m).2).2⟩
theorem aG (hf:EV n p h f x u p1 h1) (hg:EV n p1 h1 g y u1 p2 h2) (hk:KV n p2 h2 k x y z):EV n p h (eB k f g) z (fun s=>u1 (u s)) p2 h2:=fun s m=>⟨e_B (hf s m).1 (hg _ (hf s m).2).1 (hk _ (hg _ (hf s m).2).2),(hg _ (hf s m).2).2⟩
theorem gA {f:M α} {a:α} {c:β} {k:ST→α→Option β} (hf:EV n p h f a u p1 h1) (hk:∀s,bG n p1 s→k ⟨s,h1⟩ a=some c):EV n p h (M.of f k) c u p1 h1:=fun s m=>⟨rC (hf s m).1 (hk _ (hf s m).2),(hf s m).2⟩
theorem zV (hf:EV n p h fa rs u p1 h1) (hd:cQ rs=some ds) (hl:Nat.ble ds.length 16000000=true):EV n p h (qY fa) (.d (.tup ds)) u p1 h1:=fun s m=>⟨aak (hf s m).1 hd (Nat.le_of_ble_eq_true hl),(hf s m).2⟩
theorem wj (hf:EV n p h fa rs u p1 h1) (hd:cQ rs=some ds) (hl:Nat.ble rs.length 16000000=true):EV n p h (kZ fa) (.lst ds) u p1 h1:=fun s m=>⟨aaj (hf s m).1 hd (Nat.le_of_ble_eq_true hl),(hf s m).2⟩
theorem qT {f:M Ob} (hf:EV n p h f o u p1 h1) (hd:fY o=some d):EV n p h (lZ f) (.d d) u p1 h1:=fun s m=>⟨aa8 (hf s m).1 hd,(hf s m).2⟩
theorem Oa:EV n p h Bs (.aM [] []) id p h:=fun s m=>⟨rfl,m⟩
theorem Oc (e:lk p i=some (.own o)) (hi:Nat.blt i n=true) (hd:fY o=some d):EV n p h (rB i) (.d d) (fun s=>s.set i (.v (.d d))) ((i,some (.v (.d d)))::p) h:=fun s m=>⟨aal (m.get i _ e) hd,m.set hi _⟩
theorem ev_call {F:Fn} (hf:EV n p h fa rs u p1 h1) (hw:rs.all dZ=true) (hF:F rs h1=some (.ret (.d d),h2)):EV n p h (jO F fa) (.d d) u p1 h2:=fun s m=>⟨Yr (hf s m).1 hw hF,(hf s m).2⟩
theorem Ax (hf:EV n p h f x u p1 h1) (hg:EV n p1 h1 g y u1 p2 h2) (hk:KV n p2 h2 k x y (.d (.bl b1))) (he:EV n p2 h2 e z id p2 h2) (hl:KV n p2 h2 l y z (.d (.bl b2))):EV n p h (o8 k l f g e) (.d (.bl (b1&&b2))) (fun s=>u1 (u s)) p2 h2:=fun s m=>by
 have m1:=(hf s m).2
 have m2:=(hg _ m1).2
 exact⟨Z_ (hf s m).1 (hg _ m1).1 (hk _ m2) (he _ m2).1 (hl _ m2),m2⟩
theorem aan (hf:EV n p h f (.d (.bl b)) u p1 h1):EV n p h (Cg f) (.d (.bl (!b))) u p1 h1:=fun s m=>⟨by unfold Cg;rw[bQ (Rz (hf s m).1)];rfl,(hf s m).2⟩
theorem d_ (hf:EV n p h f (.d (.bl b)) u p1 h1):EV n p h (tF f) b u p1 h1:=fun s m=>⟨Rz (hf s m).1,(hf s m).2⟩
theorem wF (hf:EV n p h f r u p1 h1) (ht:∀s,bG n p1 s→rN ⟨s,h1⟩ r=some b):EV n p h (tR f) b u p1 h1:=fun s m=>⟨t_R (hf s m).1 (ht _ (hf s m).2),(hf s m).2⟩
theorem oF (hf:EV n p h t b u p1 h1):EV n p h (jW t) (!b) u p1 h1:=fun s m=>⟨Yh (hf s m).1,(hf s m).2⟩
theorem Od (hf:EV n p h t b u p1 h1) (hg:EV n p1 h1 t1 b1 id p1 h1):EV n p h (jE t t1) (b || b1) u p1 h1:=fun s m=>⟨Yi (hf s m).1 (hg _ (hf s m).2).1,(hf s m).2⟩
theorem aao (hf:EV n p h f (.d (.bl b)) u p1 h1) (hg:EV n p1 h1 g (.d (.bl b1)) id p1 h1):EV n p h (xM f g) (.d (.bl (b&&b1))) u p1 h1:=fun s m=>⟨Yj (hf s m).1 (hg _ (hf s m).2).1,(hf s m).2⟩
def nM (b:Bool) (o:Option Bool):Option Bool:=if b=true then some true else o
def EO {α β:Type} (n:Nat) (p:En) (h:List Ob) (e:M α) (V:β→α) (t:Option β):Prop:=∀c,t=some c→EV n p h e (V c) id p h
theorem jw {V:β→α} {e:M α} {o:Option γ} {t:γ→Option β} (H:∀a,o=some a→EO n p h e V (t a)):EO n p h e V (o.bind t):=fun c hc=>by
 cases ho:o with
 | none=>rw[ho] at hc;cases hc
 | some a=>rw[ho] at hc;exact H a ho c hc
theorem eo_some {V:β→α} {e:M α} {c:β} (H:EV n p h e (V c) id p h):EO n p h e V (some c):=fun c' hc=>by cases hc;exact H
theorem zA {ob:Option Bool} {c:Bool} (hc:nM b ob=some c) (hf:EV n p h t b id p h) (hg:EO n p h t1 (fun x=>x) ob):EV n p h (jE t t1) c id p h:=fun s m=>by
 unfold nM at hc
 cases b with
 | false=>exact⟨by unfold jE;rw[bQ (hf s m).1];exact(hg c hc s m).1,m⟩
 | true=>cases hc;exact⟨by unfold jE;rw[bQ (hf s m).1];rfl,m⟩
end
theorem UJ (k:Nat) {ex:List Nat} {q p:En} (h:(p.take k).all (fun x=>ex.contains x.1)=true) (s:fG ex q (p.drop k)):fG ex q p:=by
 have key:∀l:En,l.all (fun x=>ex.contains x.1)=true→fG ex q (l++p.drop k):=by
  intro l
  induction l with
  | nil=>exact fun _=>s
  | cons x l ih=>
   intro hl
   rw[List.all_cons,Bool.and_eq_true] at hl
   exact n_ hl.1 (ih hl.2)
 have:=key _ h
 rwa [List.take_append_drop] at this
theorem j9 (k:Nat) {ex:List Nat} {p q:En} (h:(p.take k).all (fun x=>ex.contains x.1)=true) (e:q=p.drop k):fG ex q p:=by
 subst e
 exact UJ k h cW
theorem jr {n:Nat} {s:List Sv} {p:En} (h:p=(List.range n).map fun i=>(i,s[i]?)) (hn:s.length=n):bG n p s:=by
 subst h
 refine⟨hn,fun j w e=>?_⟩
 have key:∀(l:List Nat) (w:Sv),lk (l.map fun i=>(i,s[i]?)) j=some w→s[j]?=some w:=by
  intro l
  induction l with
  | nil=>intro w h;cases h
  | cons i l ih=>
   intro w h
   rw[List.map_cons,vO] at h
   split at h
   ·rename_i z;rw[← z];exact h
   ·exact ih w h
 exact key _ w e
inductive EC where
 | BadTable|NoOperation|NoCell|BadName|BadNumber|BadClient|BadRun|Over|TooLarge|BadStep|BadRow
 deriving DecidableEq
structure CL where
 OrderError:Addr
 BadTable:Addr
 NoOperation:Addr
 NoCell:Addr
 BadName:Addr
 BadNumber:Addr
 BadClient:Addr
 BadRun:Addr
 Over:Addr
 TooLarge:Addr
 BadStep:Addr
 BadRow:Addr
 Table:Addr
 Kind:Addr
 Shown:Addr
 Raised:Addr
 Emptied:Addr
 Counter:Addr
 Full:Addr
 Memory:Addr
 Operation:Addr
 Alone:Addr
 Build:Addr
 Space:Addr
 Desk:Addr
 Call:Addr
 Fixer:Addr
 Spoiler:Addr
 Verdict:Addr
 AtOnce:Addr
 Afterwards:Addr
 Never:Addr
 Repair:Addr
 Standing:Addr
 w:World
 has:List EC
def CL.at (c:CL):EC→Addr
 | .BadTable=>c.BadTable|.NoOperation=>c.NoOperation|.NoCell=>c.NoCell|.BadName=>c.BadName|.BadNumber=>c.BadNumber|.BadClient=>c.BadClient
 | .BadRun=>c.BadRun|.Over=>c.Over|.TooLarge=>c.TooLarge|.BadStep=>c.BadStep|.BadRow=>c.BadRow
def EC.fs:EC→List Str
 | .BadTable=>["name"]|.NoOperation=>["name"]|.NoCell=>["name"]|.BadName=>["name"]|.BadNumber=>["number"]|.BadClient=>["caller"]
 | .BadRun=>["at"]|.Over=>["caller"]|.TooLarge=>["bound"]|.BadStep=>["name","at"]|.BadRow=>["row"]
def CL.who (c:CL) (C:Addr):Option EC:=c.has.find? fun e=>decide (c.at e=C)
def CL.m (c:CL) (X:EC):Addr→Option Bool:=fun C=>(c.who C).map fun e=>decide (e=X)
def CL.sub (c:CL):Addr→Addr→Option Bool:=fun D C=>if C=c.OrderError then(c.who D).map fun _=>true else none
structure CL.Ok (c:CL):Prop where
 inj:∀e∈c.has,∀e'∈c.has,c.at e=c.at e'→e=e'
theorem CL.Ok.who {c:CL} (ok:c.Ok) {e:EC} (h:e∈c.has):c.who (c.at e)=some e:=by
 unfold CL.who
 cases q:c.has.find? fun e'=>decide (c.at e'=c.at e) with
 | none=>have:=List.find?_eq_none.mp q e h;simp at this
 | some e'=>
  have h1:=List.mem_of_find?_eq_some q
  have h2:=List.find?_some q
  rw[ok.inj e' h1 e h (by simpa using h2)]
structure Err where
 c:EC
 ds:List D
def Err.xd (c:CL) (e:Err):XD:=⟨c.at e.c,e.c.fs,e.ds⟩
def b_ {α β:Type} (a:α) (t:α→β):β:=t a
inductive Ct (α ρ:Type) where
 | nx (a:α)|bk (a:α)|rt (v:ρ)
def J {ρ:Type} (Fin:ρ→Rs→Prop) (n:Nat) (b:S) (p:En) (h:List Ob) (t:Option ρ):Prop:=∀s,bG n p s→∀v,t=some v→∃r,b ⟨s,h⟩=some r∧Fin v r
def isX:Rs→Bool
 | .rt _ _=>true|.rn _ _=>true|.ex _ _=>true|_=>false
def isN:Rs→Bool
 | .nx _=>true|_=>false
def jQ {ρ:Type} (out:ρ→Ot×List Ob) (v:ρ) (r:Rs):Prop:=endF r=some (out v)
def rE {α:Type} (n:Nat) (P:α→En) (hp:α→List Ob) (a:α) (r:Rs):Prop:=∃s,bG n (P a) s∧r=.nx ⟨s,hp a⟩
def xq {α:Type} (n:Nat) (P:α→En) (hp:α→List Ob) (a:α) (r:Rs):Prop:=∃s,bG n (P a) s∧(r=.nx ⟨s,hp a⟩∨r=.ct ⟨s,hp a⟩)
def Bv {α ρ:Type} (n:Nat) (P:α→En) (hp:α→List Ob) (Fin:ρ→Rs→Prop):Ct α ρ→Rs→Prop
 | .nx a,r=>xq n P hp a r
 | .bk a,r=>∃s,bG n (P a) s∧r=.bk ⟨s,hp a⟩
 | .rt v,r=>Fin v r∧isX r=true
def Iv {α ρ:Type} (n:Nat) (P:α→En) (hp:α→List Ob) (Fin:ρ→Rs→Prop):Ct α ρ→Rs→Prop
 | .nx a,r=>rE n P hp a r
 | .bk _,_=>False
 | .rt v,r=>Fin v r∧isN r=false
section
variable {n i j:Nat} {p q p1 p2 p3:En} {s:List Sv} {w:Sv} {ex:List Nat} {α β γ ρ ι:Type} {h h1 h2 h3:List Ob} {f g e:M R} {fa ga:M (List R)} {x y z r:R} {rs:List R} {u u1 u2 u3:List Sv→List Sv} {d:D} {ds es:List D} {o:Ob} {b b1 b2:Bool} {tt:M Bool} {Fin:ρ→Rs→Prop} {A A2 B:S} {v:ρ} {t t1 t2:Option ρ}
theorem aX {o:Option γ} {t:γ→Option ρ} (H:∀a,o=some a→J Fin n B p h (t a)):J Fin n B p h (o.bind t):=fun s m v e=>by
 cases ho:o with
 | none=>rw[ho] at e;cases e
 | some a=>rw[ho] at e;exact H a ho s m v e
theorem jf (H:J Fin n B p h t):J Fin n (au aP B) p h t:=H
theorem seq_assoc {a b c:S}:au (au a b) c=au a (au b c):=by
 funext st;unfold au
 cases a st with
 | none=>rfl
 | some r=>cases r<;>rfl
theorem iZ (H:J Fin n (au A (au A2 B)) p h t):J Fin n (au (au A A2) B) p h t:=by rw[seq_assoc];exact H
theorem Ay (hw:dZ r=true) {st:ST}:gN i r st=some (.ok () ⟨st.s.set i (.v r),st.h⟩):=by
 cases r with
 | d x=>rfl
 | o n=>rfl
 | w i=>cases hw
theorem gq {st s1:ST} {r:Rs} (h1:A st=some (.nx s1)) (h2:B s1=some r):au A B st=some r:=by rw[X_ h1,h2]
theorem oX {V:α→R} {a:α} {t:α→Option ρ} (H:EV n p h e (V a) u p1 h1) (hi:Nat.blt i n=true) (hw:dZ (V a)=true) (K:∀x,J Fin n B ((i,some (.v (V x)))::p1) h1 (t x)):J Fin n (au (bB e (gN i)) B) p h (b_ a t):=fun s m v ev=>by
 obtain⟨r,hr,hf⟩:=K a _ ((H s m).2.set hi _) v ev
 exact⟨r,gq (oV (H s m).1 (Ay hw)) hr,hf⟩
theorem dH (H:EV n p h e r u p1 h1) (hi:Nat.blt i n=true) (hw:dZ r=true) (K:J Fin n B ((i,some (.v r))::p1) h1 t):J Fin n (au (bB e (gN i)) B) p h t:=fun s m v ev=>by
 obtain⟨r,hr,hf⟩:=K _ ((H s m).2.set hi _) v ev
 exact⟨r,gq (oV (H s m).1 (Ay hw)) hr,hf⟩
theorem zW {o:Ob} {f:M Ob} (H:EV n p h f o u p1 h1) (hi:Nat.blt i n=true) (K:J Fin n B ((i,some (.own o))::p1) h1 t):J Fin n (au (ni i f) B) p h t:=fun s m v ev=>by
 obtain⟨r,hr,hf⟩:=K _ ((H s m).2.set hi _) v ev
 exact⟨r,gq (aac (H s m).1) hr,hf⟩
theorem tY (K:∀s,bG n p s→Fin v (.nx ⟨s,h⟩)):J Fin n aP p h (some v):=fun s m v' ev=>by cases ev;exact⟨_,rfl,K s m⟩
theorem fQ (H:EV n p h e r u p1 h1) (K:∀s,bG n p1 s→Fin v (.rt r ⟨s,h1⟩)):J Fin n (au (cJ e) B) p h (some v):=fun s m v' ev=>by
 cases ev;exact⟨_,by rw[N7 (s_ret (H s m).1)],K _ (H s m).2⟩
noncomputable def iV (x:D) (v:ρ):Option ρ:=open Classical in if dU x then some v else none
theorem qH {x:D} (hx:dU x):iV x v=some v:=by unfold iV;rw[if_pos hx]
theorem rF {C:Addr} {nm:Str} {x:D} (H:EV n p h fa [.d x] u p1 h1) (K:∀s,bG n p1 s→Fin v (.ex ⟨C,[nm],[x]⟩ ⟨s,h1⟩)):J Fin n (au (jY C nm fa) B) p h (iV x v):=fun s m v' ev=>by
 unfold iV at ev
 split at ev
 ·rename_i hx
  cases ev
  have:jY C nm fa ⟨s,h⟩=some (.ex ⟨C,[nm],[x]⟩ ⟨u s,h1⟩):=by unfold jY;simp only[(H s m).1,hx,if_true]
  exact⟨_,by rw[G7 this],K _ (H s m).2⟩
 ·cases ev
theorem jg (H:EV n p h tt b u p1 h1) (K1:J Fin n (au A B) p1 h1 t1) (K2:J Fin n (au A2 B) p1 h1 t2):J Fin n (au (bY tt A A2) B) p h (if b=true then t1 else t2):=fun s m v ev=>by
 have e1:au (bY tt A A2) B ⟨s,h⟩=if b=true then au A B ⟨u s,h1⟩ else au A2 B ⟨u s,h1⟩:=by
  show (match bY tt A A2 ⟨s,h⟩ with|some (.nx st')=>B st'|o=>o)=_
  rw[aa4 (H s m).1]
  cases b<;>rfl
 rw[e1]
 cases b with
 | true=>exact K1 _ (H s m).2 v ev
 | false=>exact K2 _ (H s m).2 v ev
theorem Az {pre:α→En} {hp:α→List Ob} {t:α→Option ρ} {o1 o2:Option α} (H:EV n p h tt b u p1 h1) (K1:J (rE n (fun a=>pre a++p1) hp) n A p1 h1 o1) (K2:J (rE n (fun a=>pre a++p1) hp) n A2 p1 h1 o2) (K:∀a,J Fin n B (pre a++p1) (hp a) (t a)):J Fin n (au (bY tt A A2) B) p h ((if b=true then o1 else o2).bind t):=fun s m v ev=>by
 cases b with
 | true=>
  rw[if_pos rfl] at ev
  cases ho:o1 with
  | none=>rw[ho] at ev;cases ev
  | some a=>
   rw[ho] at ev
   obtain⟨_,e1,s1,m1,rfl⟩:=K1 _ (H s m).2 a ho
   obtain⟨r,e2,hf⟩:=K a s1 m1 v ev
   exact⟨r,gq (by rw[aa2 (H s m).1];exact e1) e2,hf⟩
 | false=>
  rw[if_neg (by simp)] at ev
  cases ho:o2 with
  | none=>rw[ho] at ev;cases ev
  | some a=>
   rw[ho] at ev
   obtain⟨_,e1,s1,m1,rfl⟩:=K2 _ (H s m).2 a ho
   obtain⟨r,e2,hf⟩:=K a s1 m1 v ev
   exact⟨r,gq (by rw[aa3 (H s m).1];exact e1) e2,hf⟩
theorem Hr {pre:α→En} {hp:α→List Ob} {t:α→Option ρ} {o1 o2:α} (H:EV n p h tt b u p1 h1) (K1:J (rE n (fun a=>pre a++p1) hp) n A p1 h1 (some o1)) (K2:J (rE n (fun a=>pre a++p1) hp) n A2 p1 h1 (some o2)) (K:∀a,J Fin n B (pre a++p1) (hp a) (t a)):J Fin n (au (bY tt A A2) B) p h (b_ (if b=true then o1 else o2) t):=by
 have:=Az H K1 K2 K
 have e:((if b=true then some o1 else some o2).bind t)=b_ (if b=true then o1 else o2) t:=by cases b<;>rfl
 rw[← e];exact this
def eE (o:Option (Ct α ρ)) (t:α→Option ρ):Option ρ:=match o with
 | some (.nx a)=>t a
 | some (.bk a)=>t a
 | some (.rt v)=>some v
 | none=>none
theorem FP {P:α→En} {hp:α→List Ob} {t:α→Option ρ} {o:Option (Ct α ρ)} {C:S} (K1:J (Iv n P hp Fin) n C p h o) (K:∀a,J Fin n B (P a) (hp a) (t a)):J Fin n (au C B) p h (eE o t):=fun s m v ev=>by
 cases ho:o with
 | none=>rw[ho] at ev;cases ev
 | some c=>
  rw[ho] at ev
  obtain⟨r,e1,hf⟩:=K1 s m c ho
  cases c with
  | nx a=>
   obtain⟨s1,m1,rfl⟩:=hf
   obtain⟨r,e2,hf⟩:=K a s1 m1 v ev
   exact⟨r,gq e1 e2,hf⟩
  | bk a=>exact hf.elim
  | rt w=>
   cases ev
   refine⟨r,?_,hf.1⟩
   show (match C ⟨s,h⟩ with|some (.nx st')=>B st'|o=>o)=_
   rw[e1]
   have:=hf.2
   cases r<;>first|cases this;done|rfl
theorem jM {P:α→En} {hp:α→List Ob} {a:α} (hs:fG [] (P a) p) (he:hp a=h):J (rE n P hp) n aP p h (some a):=tY fun s m=>⟨s,m.sub hs,by rw[he]⟩
theorem vP {P:α→En} {hp:α→List Ob} {a:α} (hs:fG [] (P a) p) (he:hp a=h):J (xq n P hp) n aP p h (some a):=tY fun s m=>⟨s,m.sub hs,.inl (by rw[he])⟩
theorem vQ {P:α→En} {hp:α→List Ob} {a:α} (hs:fG [] (P a) p) (he:hp a=h):J (Bv n P hp Fin) n aP p h (some (.nx a)):=tY fun s m=>⟨s,m.sub hs,.inl (by rw[he])⟩
def dW (f:ι→α→Option α):List ι→α→Option α
 | [],a=>some a
 | y::ys,a=>(f y a).bind (dW f ys)
def cA (f:ι→α→Option (Ct α ρ)):List ι→α→Option (Ct α ρ)
 | [],a=>some (.nx a)
 | y::ys,a=>match f y a with
  | some (.nx a)=>cA f ys a
  | some (.bk a)=>some (.nx a)
  | some (.rt v)=>some (.rt v)
  | none=>none
def TG (n:Nat) (k:G) (φ:ι→R) (tg:ι→En):Prop:=∀y h s p,bG n p s→∃s',k (φ y) ⟨s,h⟩=some (.ok () ⟨s',h⟩)∧bG n (tg y++p) s'
theorem lX {φ:ι→R} (hi:Nat.blt i n=true) (hw:∀y,dZ (φ y)=true):TG n (gN i) φ (fun y=>[(i,some (.v (φ y)))]):=fun y h s p m=>⟨_,Ay (hw y),m.set hi _⟩
theorem KH {k:G} {st s1:ST} {rs:List R} (hk:k r st=some (.ok () s1)) {res:Rs} (hb:B s1=some res):forL bR k B (r::rs) st=match res with
  | .nx s=>forL bR k B rs s
  | .ct s=>forL bR k B rs s
  | .bk s=>some (.nx s)
  | o=>some o:=by
 conv=>lhs;unfold forL
 rw[if_pos (show bR st from trivial),hk]
 simp only[hb]
 cases res<;>rfl
theorem FQ {P:α→En} {hp:α→List Ob} {φ:ι→R} {tg:ι→En} {k:G} {f:ι→α→Option α} (hk:TG n k φ tg) (hb:∀y a,J (xq n P hp) n A (tg y++P a) (hp a) (f y a)):∀(ys:List ι) (a a':α) (s:List Sv),dW f ys a=some a'→bG n (P a) s→∃s',forL bR k A (ys.map φ) ⟨s,hp a⟩=some (.nx ⟨s',hp a'⟩)∧bG n (P a') s'
 | [],a,a',s,e,m=>by cases e;exact⟨s,Lk,m⟩
 | y::ys,a,a',s,e,m=>by
  obtain⟨a1,e1,e2⟩:=Option.bind_eq_some_iff.mp e
  obtain⟨s1,k1,m1⟩:=hk y (hp a) s _ m
  obtain⟨r,r1,s2,m2,hr⟩:=hb y a s1 m1 a1 e1
  obtain⟨s',h1,h2⟩:=FQ hk hb ys a1 a' s2 e2 m2
  refine⟨s',?_,h2⟩
  rw[List.map_cons,KH k1 r1]
  rcases hr with rfl|rfl<;>exact h1
theorem FT {P:α→En} {hp:α→List Ob} {φ:ι→R} {tg:ι→En} {k:G} {f:ι→α→Option (Ct α ρ)} (hk:TG n k φ tg) (hb:∀y a,J (Bv n P hp Fin) n A (tg y++P a) (hp a) (f y a)):∀(ys:List ι) (a:α) (c:Ct α ρ) (s:List Sv),cA f ys a=some c→bG n (P a) s→∃r,forL bR k A (ys.map φ) ⟨s,hp a⟩=some r∧Iv n P hp Fin c r
 | [],a,c,s,e,m=>by cases e;exact⟨_,Lk,s,m,rfl⟩
 | y::ys,a,c,s,e,m=>by
  obtain⟨s1,k1,m1⟩:=hk y (hp a) s _ m
  unfold cA at e
  cases hf:f y a with
  | none=>rw[hf] at e;cases e
  | some c1=>
   rw[hf] at e
   obtain⟨r,r1,hr⟩:=hb y a s1 m1 c1 hf
   rw[List.map_cons,KH k1 r1]
   cases c1 with
   | nx a1=>
    obtain⟨s2,m2,hr⟩:=hr
    obtain⟨r2,h1,h2⟩:=FT hk hb ys a1 c s2 e m2
    refine⟨r2,?_,h2⟩
    rcases hr with rfl|rfl<;>exact h1
   | bk a1=>
    obtain⟨s2,m2,rfl⟩:=hr
    cases e
    exact⟨_,rfl,s2,m2,rfl⟩
   | rt v=>
    cases e
    refine⟨r,?_,hr.1,?_⟩
    ·have:=hr.2;cases r<;>first|cases this;done|rfl
    ·have:=hr.2;cases r<;>first|cases this;done|rfl
theorem zX {it:M Wk} {ys:List ι} {φ:ι→R} {pre:α→En} {hp:α→List Ob} {tg:ι→En} {k:G} {f:ι→α→Option α} {a0:α} {t:α→Option ρ} (H:EV n p h it ⟨ys.map φ,bR⟩ u p1 (hp a0)) (hs:fG [] (pre a0++p1) p1) (hk:TG n k φ tg) (hb:∀y a,J (xq n (fun a=>pre a++p1) hp) n A (tg y++(pre a++p1)) (hp a) (f y a)) (K:∀a,J Fin n B (pre a++p1) (hp a) (t a)):J Fin n (au (iQ it k A) B) p h ((dW f ys a0).bind t):=fun s m v ev=>by
 obtain⟨a,ha,ev⟩:=Option.bind_eq_some_iff.mp ev
 obtain⟨s',h1,h2⟩:=FQ (P:=fun a=>pre a++p1) hk hb ys a0 a _ ha ((H s m).2.sub hs)
 obtain⟨r,hr,hf⟩:=K a s' h2 v ev
 exact⟨r,gq (P_ (H s m).1 h1) hr,hf⟩
theorem zY {it:M Wk} {ys:List ι} {φ:ι→R} {pre:α→En} {hp:α→List Ob} {tg:ι→En} {k:G} {f:ι→α→Option (Ct α ρ)} {a0:α} {t:α→Option ρ} (H:EV n p h it ⟨ys.map φ,bR⟩ u p1 (hp a0)) (hs:fG [] (pre a0++p1) p1) (hk:TG n k φ tg) (hb:∀y a,J (Bv n (fun a=>pre a++p1) hp Fin) n A (tg y++(pre a++p1)) (hp a) (f y a)) (K:∀a,J Fin n B (pre a++p1) (hp a) (t a)):J Fin n (au (iQ it k A) B) p h (eE (cA f ys a0) t):=
 FP (P:=fun a=>pre a++p1) (fun s m c ev=>by
  obtain⟨r,h1,h2⟩:=FT (P:=fun a=>pre a++p1) hk hb ys a0 c _ ev ((H s m).2.sub hs)
  exact⟨r,P_ (H s m).1 h1,h2⟩) K
theorem fn_of {m k:Nat} {args:List R} {out:ρ→Ot×List Ob} (hm:bG m p (nj m args)) (hl:args.length=k) (H:J (jQ out) m B p h t) (e:t=some v):AL.runN k m B args h=some (out v):=by
 obtain⟨r,h1,h2⟩:=H _ hm v e
 exact Av hl h1 h2
end
section
variable {α β γ δ ε ζ:Type}
abbrev vL (V:α→D) (xs:List α):D:=.lst (xs.map V)
abbrev kS (xs:List (Str×α)):List Key:=xs.map fun x=>.inr x.1
abbrev dV (V:α→D) (xs:List (β×α)):List D:=xs.map fun x=>V x.2
end
section
variable {α β γ ρ ι:Type}
def xr (xs:List α) (x:α):Option (List α):=if xs.length<16000000 then some (xs++[x]) else none
def Bw (xs ys:List α):Option (List α):=if xs.length+ys.length≤16000000 then some (xs++ys) else none
def oY (xs:List α) (i:Int) (x:α):Option (List α):=(ixN xs.length i).map fun j=>xs.set j x
def jh [DecidableEq β] (xs:List (β×α)) (k:β) (v:α):List (β×α):=if k∈xs.map (·.1) then xs.map fun x=>if x.1=k then(k,v) else x else xs++[(k,v)]
def jy [DecidableEq β] (xs:List (β×α)) (k:β) (v:α):Option (List (β×α)):=if xs.length<16000000 then some (jh xs k v) else none
def fJ [DecidableEq β] (xs:List (β×α)) (k:β):Option α:=(xs.find? fun x=>decide (x.1=k)).map (·.2)
def Bx (i j:Int):Option Int:=if CMul i j then some (i*j) else none
def jR (i j:Int):Option Int:=if 0<j then some (i%j) else none
def Iw (s:Str):Option Int:=if s.length≤16000000 then some (s.length:Int) else none
def strAt (s:Str) (i:Int):Option Str:=if s.length≤16000000 then(atI s.cps.toList i).map fun c=>⟨#[c]⟩ else none
def Cq (s t:Str):Option Bool:=(Ii s).map fun c=>decide (c∈t.cps.toList)
def signs (s:Str):List Str:=s.cps.toList.map fun c=>⟨#[c]⟩
def rng (lo hi:Int):List Int:=(List.range (hi-lo).toNat).map fun i=>lo+(i:Nat)
def jC (lo hi:Int):Option (List Int):=if (-1000000000≤lo∧lo≤1000000000)∧-1000000000≤hi∧hi≤1000000000 then some (rng lo hi) else none
def A_ (s:Str) (ss:List Str):Option Str:=if (ss.map (·.length)).sum+ss.length*s.length≤16777216 then some (Txt.join s ss) else none
def lA (x y:D):Option Bool:=if (cX x&&cX y) || (fu x&&fu y) then some (dN x y) else none
def jT (c:ι→Option Bool) (f:ι→Option β):List ι→Option (List β)
 | []=>some []
 | y::ys=>(c y).bind fun b=>if b=true then(f y).bind fun x=>(jT c f ys).map (x::·) else jT c f ys
def gK (c:ι→Option Bool) (f:ι→Option β) (ys:List ι):Option (List β):=if ys.length≤16000000 then jT c f ys else none
end
section
variable {n i j:Nat} {p q p1 p2 p3:En} {s:List Sv} {α β γ ρ ι:Type} {h h1 h2 h3:List Ob} {f g e:M R} {fa ga:M (List R)} {x y z r:R} {rs:List R} {u u1 u2 u3:List Sv→List Sv} {k l:K2} {d:D} {ds es:List D} {o:Ob} {b b1 b2:Bool} {Fin:ρ→Rs→Prop} {A B:S} {V:α→D} {xs ys:List α} {a c:Int}
theorem eZ {kk:D→D→Option D} {d1 d2 d3:D} (h:kk d1 d2=some d3):KV n p h1 (aK kk) (.d d1) (.d d2) (.d d3):=fun _ _=>aa6 h
theorem iJ:KV n p h eO (.d (.int a)) (.d (.int c)) (.d (.int (a+c))):=fun _ _=>v_add
theorem Mw (hc:(decide (-(2 ^ 64)<c)&&decide (c<2 ^ 64))=true):KV n p h (aK jB) (.d (.int a)) (.d (.int c)) (.d (.int (a*c))):=eZ (Yc (by simpa using hc))
theorem Gn (hc:(decide (-(2 ^ 64)<a)&&decide (a<2 ^ 64))=true):KV n p h (aK jB) (.d (.int a)) (.d (.int c)) (.d (.int (a*c))):=eZ (Yb (by simpa using hc))
theorem lH (hc:decide (0<c)=true):KV n p h (aK fj) (.d (.int a)) (.d (.int c)) (.d (.int (a%c))):=eZ (v_mod (by simpa using hc))
theorem qp (hc:(decide (0<c)&&decide (c<1073741824))=true):KV n p h (aK lU) (.d (.int a)) (.d (.int c)) (.d (.int (a/c))):=eZ (v_div (by simpa using hc))
theorem Mx (hc:(decide (0≤c)&&decide (c≤1000000)&&decide (a.natAbs<2 ^ 64))=true):KV n p h (aK wN) (.d (.int a)) (.d (.int c)) (.d (.int (a ^ c.toNat))):=eZ (v_pow (by simp at hc;omega))
theorem jF {P:Prop} [Decidable P] {v w:α} (h:(if P then some v else none)=some w):P∧v=w:=by
 split at h
 ·cases h;exact⟨by assumption,rfl⟩
 ·cases h
theorem Wu {v:Int} (e:Bx a c=some v):KV n p h (aK jB) (.d (.int a)) (.d (.int c)) (.d (.int v)):=by obtain⟨h1,rfl⟩:=jF e;exact eZ (v_mul h1)
theorem tM {v:Int} (e:jR a c=some v):KV n p h (aK fj) (.d (.int a)) (.d (.int c)) (.d (.int v)):=by obtain⟨h1,rfl⟩:=jF e;exact eZ (v_mod h1)
theorem Ba:KV n p h (aK kLt) (.d (.int a)) (.d (.int c)) (.d (.bl (decide (a<c)))):=eZ rfl
theorem ux:KV n p h (aK o7) (.d (.int a)) (.d (.int c)) (.d (.bl (decide (a≤c)))):=eZ rfl
theorem aap:KV n p h (aK Jk) (.d (.int a)) (.d (.int c)) (.d (.bl (decide (c<a)))):=eZ rfl
theorem Qa:KV n p h (aK Ce) (.d (.int a)) (.d (.int c)) (.d (.bl (decide (c≤a)))):=eZ rfl
theorem Oe:KV n p h (aK (kEq false)) (.d (.int a)) (.d (.int c)) (.d (.bl (decide (a=c)))):=eZ (by rw[PL];simp;rfl)
theorem Og:KV n p h (aK (kEq true)) (.d (.int a)) (.d (.int c)) (.d (.bl (!decide (a=c)))):=eZ (by rw[PL];simp;rfl)
theorem Yw {v:Bool} {d1 d2:D} (e:lA d1 d2=some v):KV n p h (aK (kEq false)) (.d d1) (.d d2) (.d (.bl v)):=by obtain⟨h1,rfl⟩:=jF e;exact eZ (by unfold kEq;rw[if_pos h1];rfl)
theorem z_ {v:Bool} {d1 d2:D} (e:lA d1 d2=some v):KV n p h (aK (kEq true)) (.d d1) (.d d2) (.d (.bl (!v))):=by obtain⟨h1,rfl⟩:=jF e;exact eZ (by unfold kEq;rw[if_pos h1];rfl)
theorem gU {v:α} (e:atI xs a=some v):KV n p h bF (.d (vL V xs)) (.d (.int a)) (.d (V v)):=fun _ _=>Ys (by rw[zm,e];rfl)
theorem Yx {ns:List Int} {v:Int} (e:atI ns a=some v):KV n p h bF (.d (.cM ns)) (.d (.int a)) (.d (.int v)):=fun _ _=>Yt e
theorem Oh {s v:Str} (e:strAt s a=some v):KV n p h bF (.d (.str s)) (.d (.int a)) (.d (.str v)):=fun _ _=>by
 unfold strAt at e
 split at e
 ·rename_i hs
  obtain⟨c,h1,rfl⟩:=Option.map_eq_some_iff.mp e
  exact Yu hs h1
 ·cases e
theorem G9 {k:Str} {zs:List (Str×α)} {v:α} (e:fJ zs k=some v):dget (kS zs) (dV V zs) (.inr k)=some (V v):=by
 unfold fJ at e
 obtain⟨z,hz,rfl⟩:=Option.map_eq_some_iff.mp e
 unfold dget
 induction zs with
 | nil=>cases hz
 | cons w ws ih=>
  simp only[kS,dV,List.map_cons,List.zip_cons_cons,List.find?_cons] at hz ⊢
  by_cases q:w.1=k
  ·simp only[q,decide_true] at hz ⊢;cases hz;rfl
  ·have q2:¬((Sum.inr w.1:Key)=.inr k):=fun z=>q (by cases z;rfl)
   simp only[q,q2,decide_false] at hz ⊢
   exact ih hz (by rw[hz];rfl)
theorem Gp {st:ST} {ks:List Key} {dk:D} {kk:Key} (hx:eX st x=some (ks,ds)) (hl:bT st x=none) (ht:∀z,jP st x z=none) (hk:keyD dk=some kk) (e:dget ks ds kk=some d):bF st x (.d dk)=some (.d d):=by
 have h1:lV st x (.d dk)=none:=by unfold lV;cases dk<;>simp[hl]
 have h2:m9 st x (.d dk)=some (.d d):=by simp[m9,hx,hk,e]
 simp[bF,K2.or,ht,h1,h2]
theorem abe {st:ST} (hw:st.s[i]?=some (.own o)):aU st (.w i)=some o:=by unfold aU;simp only[hw]
end
section
variable {n i j:Nat} {p q p1 p2 p3:En} {s:List Sv} {α β γ ρ ι:Type} {h h1 h2 h3:List Ob} {f g e:M R} {fa ga:M (List R)} {x y z r:R} {rs:List R} {u u1 u2 u3:List Sv→List Sv} {k l:K2} {d:D} {ds es:List D} {o:Ob} {b b1 b2:Bool} {Fin:ρ→Rs→Prop} {A B:S} {V:α→D} {xs ys:List α} {a c:Int}
theorem Vt {s t:Str} {v:Bool} (e:Cq s t=some v):KV n p h (kIn true) (.d (.str s)) (.d (.str t)) (.d (.bl (!v))):=fun st m=>by
 obtain⟨c,hc,rfl⟩:=Option.map_eq_some_iff.mp e
 simp[kIn,K2.or,wU,aK,snap,hc]
theorem Oi {s:Str} {zs:List (Str×α)}:decide ((Sum.inr s:Key)∈kS zs)=decide (s∈zs.map (·.1)):=decide_eq_decide.mpr (by simp)
theorem Qc {st:ST} {neg:Bool} {ks:List Key} {kk:Key} (hk:keyD d=some kk) (hc:eX st y=some (ks,ds)) (hs:jd st y=none) (hn:∀t,snap st y≠some (.str t)):kIn neg st (.d d) y=some (.d (.bl (if neg then !decide (kk∈ks) else decide (kk∈ks)))):=by
 have h1:wU neg st (.d d) y=none:=by
  unfold wU aK
  show ((snap st y).bind fun b=>_)=none
  cases q:snap st y with
  | none=>rfl
  | some b=>cases b<;>cases d<;>first|rfl|exact absurd q (hn _)
 have h2:Bq neg st (.d d) y=none:=by
  unfold Bq
  show ((jd st y).bind fun ds=>_)=_
  rw[hs];rfl
 have h3:wR neg st (.d d) y=some (.d (.bl (if neg then !decide (kk∈ks) else decide (kk∈ks)))):=by
  unfold wR;simp only[hk,hc,Option.bind_some]
 unfold kIn K2.or
 rw[h1,h2,h3];rfl
theorem iK (hf:EV n p h fa [.d (.int a)] u p1 h1):EV n p h (M.of fa fD) (.d (.int a)) u p1 h1:=gA hf fun _ _=>rfl
theorem Wv (hf:EV n p h fa [.d (.bl b)] u p1 h1):EV n p h (M.of fa fD) (.d (.int (if b=true then 1 else 0))) u p1 h1:=gA hf fun _ _=>rfl
theorem Mz (hf:EV n p h fa [.d (vL V xs)] u p1 h1):EV n p h (M.of fa iw) (.d (.int (xs.length:Int))) u p1 h1:=gA hf fun _ _=>by rw[Ye];simp
theorem Ww {ns:List Int} (hf:EV n p h fa [.d (.cM ns)] u p1 h1):EV n p h (M.of fa iw) (.d (.int (ns.length:Int))) u p1 h1:=gA hf fun _ _=>Yg
theorem Wx {s:Str} {v:Int} (e:Iw s=some v) (hf:EV n p h fa [.d (.str s)] u p1 h1):EV n p h (M.of fa iw) (.d (.int v)) u p1 h1:=gA hf fun _ _=>by obtain⟨h1,rfl⟩:=jF e;exact Yd h1
theorem Ln (hf:EV n p h fa [.d (.lst ds)] u p1 h1):EV n p h (M.of fa kList) (.lst ds) u p1 h1:=gA hf fun _ _=>rfl
theorem Yy {zs:List (Str×α)}:(kS zs).map kD=(zs.map (·.1)).map D.str:=by simp[kD]
theorem Oj {ty tn:String} (hf:EV n p h fa [.d d,.d (.ty tn)] u p1 h1) (ht:Ca d=some ty) (hb:isT ty tn=some b):EV n p h (M.of fa uL) (.d (.bl b)) u p1 h1:=gA hf fun _ _=>by simp[uL,snap,ht,hb]
theorem Wy (e:Bw xs ys=some zs):KV n p h eO (.d (vL V xs)) (.d (vL V ys)) (.d (vL V zs)):=fun s m=>by
 obtain⟨h1,rfl⟩:=jF e
 simp[eO,K2.or,Ph,Pj,Hl,Pk,aK,snap,kI,bT,h1]
theorem Wz {s v:Str} {ss:List Str} (e:A_ s ss=some v) (hf:EV n p h f (.d (.str s)) u p1 h1) (hg:EV n p1 h1 g r u1 p2 h2) (hl:∀s,bG n p2 s→bT ⟨s,h2⟩ r=some (ss.map D.str)):EV n p h (wC f g) (.d (.str v)) (fun s=>u1 (u s)) p2 h2:=fun st m=>by
 obtain⟨h1,rfl⟩:=jF e
 exact⟨Yv (hf st m).1 (hg _ (hf st m).2).1 (hl _ (hg _ (hf st m).2).2) h1,(hg _ (hf st m).2).2⟩
theorem abf (hw:lk p i=some (.own (.lst ds))):∀s,bG n p s→bT ⟨s,h⟩ (.w i)=some ds:=fun s m=>by simp only[bT,abe (st:=⟨s,h⟩) (m.get i _ hw)]
theorem Qe (hf:EV n p h f (.d (vL V xs)) u p1 h1):EV n p h (wL f) ⟨xs.map (fun x=>.d (V x)),bR⟩ u p1 h1:=gA hf fun _ _=>by simp[Jq,u_]
theorem aaq {s:Str} (hf:EV n p h f (.d (.str s)) u p1 h1):EV n p h (wS f) ⟨(signs s).map (fun x=>.d (.str x)),bR⟩ u p1 h1:=gA hf fun _ _=>by simp[signs,uF]
theorem WD {lo hi:Int}:(mY lo (hi-lo).toNat).map R.d=(rng lo hi).map fun x=>.d (.int x):=by simp[mY,rng]
theorem qu {v:List Int} (e:jC 0 a=some v) (hf:EV n p h fa [.d (.int a)] u p1 h1):EV n p h (lM fa) ⟨v.map (fun x=>.d (.int x)),bR⟩ u p1 h1:=by
 obtain⟨h0,rfl⟩:=jF e
 have:=WD (lo:=0) (hi:=a)
 rw[Int.sub_zero] at this
 rw[← this]
 exact fun s m=>⟨aa7 (hf s m).1 h0.2,(hf s m).2⟩
def cut (xs:List α) (lo hi:Option Int):List α:=(xs.drop (HT.sIx xs.length 0 lo)).take (HT.sIx xs.length xs.length hi-HT.sIx xs.length 0 lo)
theorem WK {lo hi:Option Int}:DL.cutD (xs.map V) lo hi=(cut xs lo hi).map V:=by unfold DL.cutD cut;simp
theorem Bb:EV n p h oN none id p h:=fun s m=>⟨rfl,m⟩
theorem Bc (hf:EV n p h f (.d (.int a)) u p1 h1):EV n p h (oS f) (some a) u p1 h1:=gA hf fun _ _=>rfl
theorem Aa {lo hi:M (Option Int)} {x1 x2:Option Int} (hf:EV n p h f (.d (vL V xs)) id p h) (hl:EV n p h lo x1 id p h) (hh:EV n p h hi x2 id p h):EV n p h (rP f lo hi) (.d (vL V (cut xs x1 x2))) id p h:=fun s m=>⟨by
 unfold rP
 rw[bQ (show f ⟨s,h⟩=some (.ok _ ⟨s,h⟩) from(hf s m).1),bQ (show lo ⟨s,h⟩=some (.ok _ ⟨s,h⟩) from(hl s m).1),bQ (show hi ⟨s,h⟩=some (.ok _ ⟨s,h⟩) from(hh s m).1)]
 simp only[Jl,bT,Option.map_some,WK];rfl,m⟩
theorem xG:∀s,bG n p s→rN ⟨s,h⟩ (.d (.bl b))=some b:=fun _ _=>rfl
end
section
variable {n i j:Nat} {p q p1 p2 p3:En} {s:List Sv} {α β γ ρ ι:Type} {h h1 h2 h3:List Ob} {f g e:M R} {fa ga:M (List R)} {x y z r:R} {rs:List R} {u u1 u2 u3:List Sv→List Sv} {k l:K2} {d:D} {ds es:List D} {o:Ob} {b b1 b2:Bool} {Fin:ρ→Rs→Prop} {A B:S} {V:α→D} {xs ys:List α} {a c:Int}
theorem Qg {v:α} {t:List α→Option ρ} (hw:lk p i=some (.own (.lst (xs.map V)))) (H:EV n p h e (.d (V v)) u p1 h1) (hw1:lk p1 i=some (.own (.lst (xs.map V)))) (hi:Nat.blt i n=true) (K:∀x,J Fin n B ((i,some (.own (.lst (x.map V))))::p1) h1 (t x)):J Fin n (au (lK (uZ (eV i) (aC e aN) rA)) B) p h ((xr xs v).bind t):=fun s m w ev=>by
 obtain⟨xs',hx,ev⟩:=Option.bind_eq_some_iff.mp ev
 obtain⟨hl,rfl⟩:=jF hx
 have e1:=aam (f:=eV i) (fa:=aC e aN) (Cp (m.get i _ hw)) (m.get i _ hw) (Ju (H s m).1 Ry) ((H s m).2.get i _ hw1) (by simpa using hl)
 have e2:xs.map V++[V v]=(xs++[v]).map V:=by simp
 rw[e2] at e1
 obtain⟨r,hr,hf⟩:=K (xs++[v]) _ ((H s m).2.set hi _) w ev
 exact⟨r,gq (s_drop e1) hr,hf⟩
theorem map_set {xs:List α} {m:Nat} {v:α}:(xs.map V).set m (V v)=(xs.set m v).map V:=by
 refine List.ext_getElem? fun j=>?_
 simp only[List.getElem?_set,List.getElem?_map,List.length_map]
 split
 ·split<;>rfl
 ·rfl
theorem Yz {v:α} {t:List α→Option ρ} (H:EV n p h e (.d (V v)) u p1 h1) (H2:EV n p1 h1 g (.d (.int a)) u1 p2 h2) (hw1:lk p1 i=some (.own (.lst (xs.map V)))) (hw:lk p2 i=some (.own (.lst (xs.map V)))) (hi:Nat.blt i n=true) (K:∀x,J Fin n B ((i,some (.own (.lst (x.map V))))::p2) h2 (t x)):J Fin n (au (bB e (gS (eV i) g)) B) p h ((oY xs a v).bind t):=fun s m w ev=>by
 obtain⟨xs',hx,ev⟩:=Option.bind_eq_some_iff.mp ev
 obtain⟨m',hm,rfl⟩:=Option.map_eq_some_iff.mp hx
 have m1:=(H s m).2
 have m2:=(H2 _ m1).2
 have e1:=aa9 (d:=V v) (f:=eV i) (g:=g) (Cp (m1.get i _ hw1)) (H2 _ m1).1 (m2.get i _ hw) (m:=m') (by rw[List.length_map];exact hm)
 rw[map_set] at e1
 obtain⟨r,hr,hf⟩:=K (xs.set m' v) _ (m2.set hi _) w ev
 exact⟨r,gq (oV (H s m).1 e1) hr,hf⟩
theorem uz {zs:List (Str×α)} {k:Str} {v:α}:jN (kS zs) (.inr k)=kS (jh zs k v)∧ug (kS zs) (dV V zs) (.inr k) (V v)=dV V (jh zs k v):=by
 unfold jh jN ug
 by_cases hm:k∈zs.map (·.1)
 ·have hm2:(Sum.inr k:Key)∈kS zs:=by simpa using hm
  rw[if_pos hm2,if_pos hm,if_pos hm2]
  refine⟨?_,?_⟩
  ·simp only[kS,List.map_map]
   refine List.map_congr_left fun w _=>?_
   by_cases q:w.1=k<;>simp[q]
  ·clear hm hm2
   induction zs with
   | nil=>rfl
   | cons w ws ih=>
    simp only[kS,dV,List.map_cons,List.zipWith_cons_cons] at ih ⊢
    rw[ih]
    by_cases q:w.1=k
    ·simp[q]
    ·have q2:¬((Sum.inr w.1:Key)=.inr k):=fun z=>q (by cases z;rfl)
     simp[q,q2]
 ·have hm2:¬(Sum.inr k:Key)∈kS zs:=by simpa using hm
  rw[if_neg hm2,if_neg hm,if_neg hm2]
  simp
theorem WL {zs:List (Str×α)} {k:Str} {v:α} {t:List (Str×α)→Option ρ} (H:EV n p h e (.d (V v)) u p1 h1) (H2:EV n p1 h1 g (.d (.str k)) u1 p2 h2) (hw1:lk p1 i=some (.own (.aM (kS zs) (dV V zs)))) (hw:lk p2 i=some (.own (.aM (kS zs) (dV V zs)))) (hi:Nat.blt i n=true) (K:∀x,J Fin n B ((i,some (.own (.aM (kS x) (dV V x))))::p2) h2 (t x)):J Fin n (au (bB e (gS (eV i) g)) B) p h ((jy zs k v).bind t):=fun s m w ev=>by
 obtain⟨xs',hx,ev⟩:=Option.bind_eq_some_iff.mp ev
 obtain⟨hl,rfl⟩:=jF hx
 have m1:=(H s m).2
 have m2:=(H2 _ m1).2
 have e1:=aa_ (d:=V v) (f:=eV i) (g:=g) (kk:=.inr k) (Cp (m1.get i _ hw1)) (H2 _ m1).1 (m2.get i _ hw) rfl (by rw[List.length_map];exact hl)
 rw[(uz (V:=V) (v:=v)).1,uz.2] at e1
 obtain⟨r,hr,hf⟩:=K (jh zs k v) _ (m2.set hi _) w ev
 exact⟨r,gq (oV (H s m).1 e1) hr,hf⟩
theorem yV:∀{vs:List Nat} {s:List Sv},(∀v∈vs,s[v]?=some .no)→cR s vs=s
 | [],s,_=>rfl
 | v::vs,s,hv=>by
  unfold cR
  rw[yV fun w hw=>hv w (List.mem_cons_of_mem _ hw)]
  refine List.ext_getElem? fun j=>?_
  rw[List.getElem?_set]
  split
  ·rename_i q;subst q
   have:=hv v (List.mem_cons_self ..)
   rw[this]
   split
   ·rfl
   ·rename_i z;rw[List.getElem?_eq_none (by omega)] at this;cases this
  ·rfl
theorem Vu {s s':List Sv}:∀{vs:List Nat},s'.length=s.length→(∀v∈vs,s[v]?=some .no)→(∀j,j∉vs→s'[j]?=s[j]?)→cR s' vs=s:=by
 intro vs hl hv hs
 have key:∀(vs:List Nat) (t:List Sv) (j:Nat),(cR t vs)[j]?=if j∈vs then(t[j]?).map fun _=>.no else t[j]?:=by
  intro vs
  induction vs with
  | nil=>intro t j;simp[cR]
  | cons v vs ih=>
   intro t j
   unfold cR
   rw[List.getElem?_set]
   by_cases q:v=j
   ·subst q
    simp only[if_true,List.mem_cons,true_or]
    have hl2:(cR t vs).length=t.length:=by
     clear ih
     induction vs with
     | nil=>rfl
     | cons w ws ih=>unfold cR;simp[ih]
    by_cases z:v<t.length
    ·rw[if_pos (by rw[hl2];exact z),List.getElem?_eq_getElem z];rfl
    ·rw[if_neg (by rw[hl2];exact z),List.getElem?_eq_none (by omega)];rfl
   ·rw[if_neg q,ih]
    have:(j∈v::vs)↔j∈vs:=by simp;intro z;exact absurd z.symm q
    simp only[this]
 refine List.ext_getElem? fun j=>?_
 rw[key]
 split
 ·rename_i hm
  rw[hv j hm]
  have:j<s.length:=(List.getElem?_eq_some_iff.mp (hv j hm)).1
  rw[List.getElem?_eq_getElem (by omega)];rfl
 ·rename_i hm;exact hs j hm
def xV (n:Nat) (vs:List Nat) (k:G) (φ:ι→R) (tg:ι→En):Prop:=∀y h s p,bG n p s→∃s',k (φ y) ⟨s,h⟩=some (.ok () ⟨s',h⟩)∧bG n (tg y++p) s'∧s'.length=s.length∧∀j,j∉vs→s'[j]?=s[j]?
theorem Bf {φ:ι→R} (hi:Nat.blt i n=true) (hw:∀y,dZ (φ y)=true):xV n [i] (gN i) φ (fun y=>[(i,some (.v (φ y)))]):=fun y h s p m=>⟨_,Ay (hw y),m.set hi _,by simp,fun j hj=>by rw[List.getElem?_set_ne];simpa using fun z:i=j=>hj (by simp[z])⟩
theorem wu {vs:List Nat} {k:G} {φ:ι→R} {tg:ι→En} {t:M Bool} {W:β→D} {cc:ι→Option Bool} {ff:ι→Option β} (hv:∀v∈vs,lk p v=some .no) (hk:xV n vs k φ tg) (hc:∀y,EO n (tg y++p) h t (fun x=>x) (cc y)) (hf:∀y,EO n (tg y++p) h e (fun x=>.d (W x)) (ff y)) {s:List Sv} (m:bG n p s):∀(ys:List ι) (zs:List β),jT cc ff ys=some zs→gJ bR k t e vs ⟨s,h⟩ (ys.map φ)=some (zs.map W)
 | [],zs,hz=>by cases hz;rw[List.map_nil];unfold gJ;rw[if_pos (show bR _ from trivial)];rfl
 | y::ys,zs,hz=>by
  unfold jT at hz
  obtain⟨bb,hb,hz⟩:=Option.bind_eq_some_iff.mp hz
  obtain⟨s',k1,k2,k3,k4⟩:=hk y h s p m
  have e1:(⟨cR s' vs,h⟩:ST)=⟨s,h⟩:=by rw[Vu k3 (fun v hm=>m.get v _ (hv v hm)) k4]
  have e2:=(hc y bb hb s' k2).1
  rw[List.map_cons]
  conv=>lhs;unfold gJ
  rw[if_pos (show bR _ from trivial),k1]
  simp only[]
  rw[if_pos e1,e2]
  simp only[id]
  cases bb with
  | true=>
   rw[if_pos rfl] at hz
   obtain⟨w,hw,hz⟩:=Option.bind_eq_some_iff.mp hz
   obtain⟨ws,hws,rfl⟩:=Option.map_eq_some_iff.mp hz
   have e3:=(hf y w hw s' k2).1
   simp only[id] at e3
   simp only[if_true,e3,wu hv hk hc hf m ys ws hws]
   rfl
  | false=>
   rw[if_neg (by simp)] at hz
   simp only[if_true,wu hv hk hc hf m ys zs hz]
theorem Qh {it:M Wk} {vs:List Nat} {k:G} {φ:ι→R} {tg:ι→En} {t:M Bool} {W:β→D} {cc:ι→Option Bool} {ff:ι→Option β} {ys:List ι} {zs:List β} (hz:gK cc ff ys=some zs) (H:EV n p h it ⟨ys.map φ,bR⟩ id p h) (hv:∀v∈vs,lk p v=some .no) (hk:xV n vs k φ tg) (hc:∀y,EO n (tg y++p) h t (fun x=>x) (cc y)) (hf:∀y,EO n (tg y++p) h e (fun x=>.d (W x)) (ff y)):EV n p h (rY it k t e vs) (.lst (zs.map W)) id p h:=fun s m=>by
 have hl:ys.length≤16000000∧jT cc ff ys=some zs:=by
  unfold gK at hz
  split at hz
  ·exact⟨by assumption,hz⟩
  ·cases hz
 have ew:cR s vs=s:=yV fun v hm=>m.get v _ (hv v hm)
 have:=abb (st:=⟨s,h⟩) (s1:=⟨s,h⟩) (k:=k) (t:=t) (e:=e) (vs:=vs) (ds:=zs.map W) (H s m).1 (by rw[List.length_map];exact hl.1) (by simp only[ew];exact wu hv hk hc hf m ys zs hl.2)
 simp only[ew] at this
 exact⟨this,m⟩
theorem vs1 (h1:lk p i=some .no):∀v∈[i],lk p v=some .no:=fun v hv=>by rw[List.mem_singleton.mp hv];exact h1
theorem vs2 (h1:lk p i=some .no) (h2:lk p j=some .no):∀v∈[i,j],lk p v=some .no:=fun v hv=>by
 rcases List.mem_cons.mp hv with rfl|hv
 ·exact h1
 ·rw[List.mem_singleton.mp hv];exact h2
theorem vs3 {k:Nat} (h1:lk p i=some .no) (h2:lk p j=some .no) (h3:lk p k=some .no):∀v∈[i,j,k],lk p v=some .no:=fun v hv=>by
 rcases List.mem_cons.mp hv with rfl|hv
 ·exact h1
 ·exact vs2 h2 h3 v hv
theorem Ad:EO n p h (M.ret true) (fun x=>x) (some true):=eo_some fun s m=>⟨rfl,m⟩
theorem Bg (hv:lk p i=some (.v r)):∀s,bG n p s→pV i ⟨s,h⟩=some r:=fun s m=>by unfold pV;simp only[m.get i _ hv]
theorem Gq {zs:List (Str×α)}:lN (kS zs)=(zs.map (·.1)).map fun x=>.d (.str x):=by simp[lN,kD]
def outD (V:α→D) (h:List Ob) (v:α):Ot×List Ob:=(.ret (.d (V v)),h)
def oZ (c:CL) (V:α→D) (h:List Ob):Except Err α→Ot×List Ob
 | .ok v=>(.ret (.d (V v)),h)
 | .error e=>(.exc (e.xd c),h)
def mW (o:Option (Except Err α)) (inj:Err→ρ) (k:α→Option ρ):Option ρ:=match o with
 | none=>none
 | some (.error e)=>some (inj e)
 | some (.ok a)=>k a
def EX (c:CL) (n:Nat) (p:En) (h:List Ob) (e:M R) (V:α→D) (o:Option (Except Err α)) (u:List Sv→List Sv) (p':En) (h':List Ob):Prop:=∀s,bG n p s→∀v,o=some v→bG n p' (u s)∧e ⟨s,h⟩=some (match v with
 | .ok a=>.ok (.d (V a)) ⟨u s,h'⟩
 | .error x=>.ex (x.xd c) ⟨u s,h'⟩)
theorem WM {cl:CL} {o:Option (Except Err α)} {inj:Err→ρ} {t:α→Option ρ} (H:EX cl n p h e V o u p1 h1) (hx:∀er s,bG n p1 s→Fin (inj er) (.ex (er.xd cl) ⟨s,h1⟩)) (K:∀x,J Fin n B p1 h1 (t x)):J Fin n (au (lK e) B) p h (mW o inj t):=fun s m v ev=>by
 cases ho:o with
 | none=>rw[ho] at ev;cases ev
 | some w=>
  rw[ho] at ev
  obtain⟨m1,e1⟩:=H s m w ho
  cases w with
  | error er=>
   cases ev
   exact⟨_,by rw[G7 (by unfold lK;rw[e1])],hx er _ m1⟩
  | ok a=>
   obtain⟨r,hr,hf⟩:=K a _ m1 v ev
   exact⟨r,gq (s_drop e1) hr,hf⟩
end
section
variable {n i j:Nat} {p q p1 p2 px:En} {s:List Sv} {α β γ ρ ι:Type} {h h1 h2 h3:List Ob} {f g e:M R} {fa ga:M (List R)} {x y z r:R} {rs:List R} {u u1 u2 u3:List Sv→List Sv} {d:D} {ds es:List D} {o:Ob} {b b1 b2:Bool} {Fin:ρ→Rs→Prop} {A B:S} {V:α→D} {xs ys:List α} {a c:Int} {cl:CL}
def isR:Rs→Bool
 | .rt _ _=>true|.rn _ _=>true|.bk _=>true|.ct _=>true|_=>false
def QZ (cl:CL) (n:Nat) (P:α→En) (hp:α→List Ob) (px:En) (hx:List Ob) (Fin:ρ→Rs→Prop):Ct α (ρ ⊕ Err)→Rs→Prop
 | .nx a,r=>rE n P hp a r
 | .bk _,_=>False
 | .rt (.inl v),r=>Fin v r∧isR r=true
 | .rt (.inr e),r=>∃s,bG n px s∧r=.ex (e.xd cl) ⟨s,hx⟩
def k_ (cl:CL) (tb:Option (Ct α (ρ ⊕ Err))) (hd:Err→Option (Ct α ρ)):Option (Ct α ρ):=match tb with
 | none=>none
 | some (.nx a)=>some (.nx a)
 | some (.bk a)=>some (.bk a)
 | some (.rt (.inl v))=>some (.rt v)
 | some (.rt (.inr e))=>if e.c∈cl.has then hd e else none
def HD (cl:CL) (n:Nat) (p:En) (h:List Ob) (hs:List Hd) (e:Err) (Fin:ρ→Rs→Prop) (t:Option ρ):Prop:=∀s,bG n p s→∀y,t=some y→∃r,hdl hs (e.xd cl) ⟨s,h⟩=some r∧Fin y r
theorem MF {P:α→En} {hp:α→List Ob} {px:En} {hx:List Ob} {a:α} (hs:fG [] (P a) p) (he:hp a=h):J (QZ cl n P hp px hx Fin) n aP p h (some (.nx a)):=tY fun s m=>⟨s,m.sub hs,by rw[he]⟩
theorem Qi {hv:En} {pre:α→En} {hp:α→List Ob} {hs:List Hd} {t:α→Option ρ} {tb:Option (Ct α (ρ ⊕ Err))} {hd:Err→Option (Ct α ρ)} (hb:J (QZ cl n (fun a=>pre a++p) hp (hv++p) h1 Fin) n A p h tb) (hh:∀e,e.c∈cl.has→HD cl n (hv++p) h1 hs e (Iv n (fun a=>pre a++p) hp Fin) (hd e)) (K:∀a,J Fin n B (pre a++p) (hp a) (t a)):J Fin n (au (oU A hs) B) p h (eE (k_ cl tb hd) t):=
 FP (P:=fun a=>pre a++p) (fun s m y ev=>by
  cases ho:tb with
  | none=>rw[ho] at ev;cases ev
  | some w=>
   rw[ho] at ev
   obtain⟨r,e1,hf⟩:=hb s m w ho
   cases w with
   | nx a=>
    cases ev
    obtain⟨s1,m1,rfl⟩:=hf
    exact⟨_,by unfold oU;rw[e1],s1,m1,rfl⟩
   | bk a=>exact hf.elim
   | rt w=>
    cases w with
    | inl v=>
     cases ev
     refine⟨r,?_,hf.1,?_⟩
     ·unfold oU;rw[e1]
      have:=hf.2
      cases r<;>first|cases this;done|rfl
     ·have:=hf.2
      cases r<;>first|cases this;done|rfl
    | inr er=>
     obtain⟨s1,m1,rfl⟩:=hf
     simp only[k_] at ev
     split at ev
     ·rename_i hm
      obtain⟨r,e2,hr⟩:=hh er hm s1 m1 y ev
      exact⟨r,by unfold oU;rw[e1];exact e2,hr⟩
     ·cases ev) K
theorem aar (ok:cl.Ok) {ec X:EC} (hm:ec∈cl.has):cl.m X (cl.at ec)=some (decide (ec=X)):=by unfold CL.m;rw[ok.who hm];rfl
def HR (cl:CL) (n i:Nat) (p:En) (h:List Ob) (X:EC) (gg:XD→Addr→Addr→M R) (Fin:ρ→Rs→Prop) (es:List D) (t:Option ρ):Prop:=∀v,t=some v→∃r:R,(∀a d,EV n ((i,some (.v (.d (.exc a (cl.at X) d X.fs es))))::p) h (gg ⟨cl.at X,X.fs,es⟩ a d) r id ((i,some (.v (.d (.exc a (cl.at X) d X.fs es))))::p) h)∧dZ r=true∧∀s,bG n p s→Fin v (.rt r ⟨s.set i .no,h⟩)
theorem Ae {X:EC} {gg:XD→Addr→Addr→M R} {o:Option γ} {t:γ→Option ρ} (H:∀a,o=some a→HR cl n i p h X gg Fin es (t a)):HR cl n i p h X gg Fin es (o.bind t):=fun v e=>by
 cases ho:o with
 | none=>rw[ho] at e;cases e
 | some a=>rw[ho] at e;exact H a ho v e
theorem Gr {X:EC} {gg:XD→Addr→Addr→M R} {v:ρ} {r:R} (H:∀a d,EV n ((i,some (.v (.d (.exc a (cl.at X) d X.fs es))))::p) h (gg ⟨cl.at X,X.fs,es⟩ a d) r id ((i,some (.v (.d (.exc a (cl.at X) d X.fs es))))::p) h) (hw:dZ r=true) (K:∀s,Fin v (.rt r ⟨s,h⟩)):HR cl n i p h X gg Fin es (some v):=fun v' e=>by cases e;exact⟨r,H,hw,fun s _=>K _⟩
def vh (X:EC) (er:Err) (t1:List D→Option ρ) (t2:Option ρ):Option ρ:=if er.c=X then t1 er.ds else t2
theorem G_ {X:EC} {er:Err} {hs:List Hd} {gg:XD→Addr→Addr→M R} {t2:Option ρ} {t1:List D→Option ρ} (ok:cl.Ok) (hm:er.c∈cl.has) (hi:Nat.blt i n=true) (K1:∀es:List D,X∈cl.has→HR cl n i p h X gg Fin es (t1 es)) (K2:HD cl n p h hs er Fin t2):HD cl n p h (⟨cl.m X,some i,fun x a d=>au (cJ (gg x a d)) aP⟩::hs) er Fin (vh X er t1 t2):=fun s m y hy=>by
 unfold vh at hy
 obtain⟨ec,es⟩:=er
 have hw:=aar (X:=X) ok hm
 by_cases hx:ec=X
 ·subst hx
  simp only[if_true] at hy
  obtain⟨r,h1,h2,h3⟩:=K1 es hm y hy
  refine⟨.rt r ⟨s.set i .no,h⟩,?_,h3 s m⟩
  have hmm:cl.m ec (Err.xd cl ⟨ec,es⟩).C=some true:=by show cl.m ec (cl.at ec)=_;rw[hw];simp
  unfold hdl
  simp only[hmm]
  refine Wm fun a d=>?_
  have e1:=(h1 a d _ (m.set hi _)).1
  have e2:au (cJ (gg ⟨cl.at ec,ec.fs,es⟩ a d)) aP ⟨s.set i (.v (.d (.exc a (cl.at ec) d ec.fs es))),h⟩=some (.rt r ⟨s.set i (.v (.d (.exc a (cl.at ec) d ec.fs es))),h⟩):=by rw[N7 (s_ret e1)];rfl
  show (au (cJ (gg ⟨cl.at ec,ec.fs,es⟩ a d)) aP ⟨s.set i (.v (.d (.exc a (cl.at ec) d ec.fs es))),h⟩).map (QS i)=_
  rw[e2]
  show some (Rs.rt r ⟨(s.set i (.v (.d (.exc a (cl.at ec) d ec.fs es)))).set i .no,h⟩)=_
  rw[List.set_set]
 ·simp only[if_neg hx] at hy
  obtain⟨r,e1,hr⟩:=K2 s m y hy
  refine⟨r,?_,hr⟩
  have hmm:cl.m X (Err.xd cl ⟨ec,es⟩).C=some false:=by show cl.m X (cl.at ec)=_;rw[hw];simp[hx]
  unfold hdl
  simp only[hmm]
  exact e1
theorem Gu {C:Addr} {e1 e2:M R} (H:EV n p h e1 r u p1 h1):EV n p h (if C=C then e1 else e2) r u p1 h1:=by rw[if_pos rfl];exact H
theorem Ht {C a' dd:Addr} {fs:List Str} {nm:Str} {v:D} (e:lk p i=some (.v (.d (.exc a' C dd fs es)))) (hl:(fs.zip es).lookup nm=some v):EV n p h (xQ a' C dd nm (eV i)) (.d v) id p h:=gA (ao e) fun _ _=>by simp[hl]
theorem Hu {nm:Str} {fs:List Str} {v:D} (e:es[0]?=some v):((nm::fs).zip es).lookup nm=some v:=by
 cases es with
 | nil=>cases e
 | cons x xs=>cases e;simp[List.lookup]
end
end TY
namespace AL
open PySem L2 DL PyProof.Rows
open Classical in
noncomputable def rG (F:Fn):Fn:=fun args h=>match F args h with
 | some (.ret (.d x),h')=>some (.ret (.d x),if h'.take h.length=h then h else h')
 | some (.exc x,h')=>some (.exc x,if h'.take h.length=h then h else h')
 | o=>o
section
variable {K:PySem.W.Frag}
theorem YB {F:Fn} (vs:List V) (H:Hp) (Q:VK) (E:XK) (h:bJ K (rG F) vs H Q E):bJ K F vs H Q E:=by
 obtain⟨Hb,ι,args,h,y,C,r,e,p⟩:=h
 unfold rG at e
 cases hF:F args h with
 | none=>rw[hF] at e;cases e
 | some z=>
  rw[hF] at e
  refine⟨Hb,ι,args,h,z,C,r,hF,?_⟩
  obtain⟨o,h'⟩:=z
  cases o with
  | exc x=>
   cases e
   show Jo K H Hb ι Q E (.exc x,h')
   intro cls d H2 X
   by_cases q:h'.take h.length=h
   ·obtain⟨t,rfl⟩:=Fy q
    rw[if_pos q] at p
    obtain⟨cC,dh,dd,us,C2,g⟩:=X
    exact p cls d H2 ⟨cC,ι,dd,us,aq.pop C C2 C2.pre (by simp),g⟩
   ·rw[if_neg q] at p;exact p cls d H2 X
  | ret w=>
   cases w with
   | d x=>
    cases e
    show Jo K H Hb ι Q E (.ret (.d x),h')
    intro v H2 C2
    by_cases q:h'.take h.length=h
    ·obtain⟨t,rfl⟩:=Fy q
     rw[if_pos q] at p
     obtain⟨cC,dh,C2⟩:=C2
     have C3:=aq.pop C C2 C2.pre (by simp)
     exact p v H2 ⟨cC,ι,C3.temps fun q hq=>by rw[List.mem_singleton.mp hq];exact C2.tmp (rt K [] (.d x) v) (by simp)⟩
    ·rw[if_neg q] at p;exact p v H2 C2
   | o n=>cases e;exact p
   | n b=>cases e;exact p
theorem YC {P:Program} {w:World} {mg:Str→Option Value} {base:Heap} {k:Nat} {f:Addr} {fd:FuncData} {ps:List Str} {F:Fn} (h:FnOk P w K mg base (L2.CX P w) k f fd ps (bJ K F)):FnOk P w K mg base (L2.CX P w) k f fd ps (bJ K (rG F)):=h.imp YB
end
end AL
namespace TY
open PySem L2 DL AL PyProof.Rows
section
variable {n i j:Nat} {p q p1 p2 px:En} {s:List Sv} {α β γ ρ ι:Type} {h h0 h1 h2 h3 tl:List Ob} {f g e fo fv:M R} {fa ga:M (List R)} {x y z r:R} {rs xs:List R} {u u1 u2 u3:List Sv→List Sv} {d:D} {ds es:List D} {o:Ob} {b b1 b2:Bool} {Fin:ρ→Rs→Prop} {A B:S} {V:α→D} {a c:Int} {cl:CL} {t:Option ρ} {v:ρ}
theorem hget {ob:Ob}:(h++ob::tl)[h.length]?=some ob:=by rw[List.getElem?_append_right (Nat.le_refl _),Nat.sub_self];rfl
theorem Iz {ob ob':Ob}:(h++ob::tl).set h.length ob'=h++ob'::tl:=by
 rw[List.set_append_right _ _ (Nat.le_refl _),Nat.sub_self];rfl
theorem Ol {C:Addr} {Cs:List Addr} {fs:List Str} {nm:Str} (H:EV n p h0 fv r u p1 (h++.ins C fs xs::tl)) (ho:EV n p1 (h++.ins C fs xs::tl) fo (.o h.length) id p1 (h++.ins C fs xs::tl)) (hC:C∈Cs) (hw:dZ r=true) (hn:fs.contains nm=false) (hd:decide (fs.length<900∧fs.Nodup)=true) (K:J Fin n B p1 (h++.ins C (fs++[nm]) (xs++[r])::tl) t):J Fin n (au (u6 Cs nm fo fv) B) p h0 t:=fun s m v ev=>by
 have m1:=(H s m).2
 obtain⟨r',hr,hf⟩:=K _ m1 v ev
 refine⟨r',gq ?_ hr,hf⟩
 have hd:=of_decide_eq_true hd
 have hk:qR fs nm=fs++[nm]:=by unfold qR;rw[if_neg (by simpa using hn)]
 have hx:wB fs xs nm r=xs++[r]:=by unfold wB;rw[if_neg (by simpa using hn)]
 have ob:aU ⟨u s,h++.ins C fs xs::tl⟩ (.o h.length)=some (.ins C fs xs):=hget
 unfold u6
 rw[bQ (H s m).1,bQ (show fo ⟨u s,_⟩=some (.ok _ ⟨u s,_⟩) from(ho _ m1).1)]
 simp only[ob,Option.bind_some,hC,hw,hd.1,hd.2,and_self,if_true,jx,Iz,hk,hx]
theorem YD {ob:Ob} (e:lk p i=some (.own o)) (hi:Nat.blt i n=true):EV n p (h++ob::tl) (wZ i) (.o (h.length+1+tl.length)) (fun s=>s.set i (.v (.o (h.length+1+tl.length)))) ((i,some (.v (.o (h.length+1+tl.length))))::p) (h++ob::(tl++[o])):=fun s m=>⟨by
 unfold wZ
 simp only[m.get i _ e]
 have e1:(h++ob::tl).length=h.length+1+tl.length:=by simp;omega
 rw[e1];simp,m.set hi _⟩
def Q5 (cl:CL) (h:List Ob) (W:α→List Ob) (v:Except Err α) (r:Rs):Prop:=match v with
 | .ok a=>endF r=some (.ret (.d .non),h++W a)
 | .error e=>∃t,endF r=some (.exc (e.xd cl),h++t)
def IK (cl:CL) (C:Addr) (F:Fn) (h:List Ob) (rs:List R) (W:α→List Ob) (v:Except Err α):Prop:=match v with
 | .ok a=>F (.o h.length::rs) (h++[.ins C [] []])=some (.ret (.d .non),h++W a)
 | .error e=>∃t,F (.o h.length::rs) (h++[.ins C [] []])=some (.exc (e.xd cl),h++t)
theorem YF {m k:Nat} {W:α→List Ob} {C:Addr} {t:Option (Except Err α)} {v:Except Err α} (hm:bG m p (nj m (.o h.length::rs))) (hl:(.o h.length::rs:List R).length=k) (H:J (Q5 cl h W) m B p (h++[.ins C [] []]) t) (e:t=some v):IK cl C (AL.runN k m B) h rs W v:=by
 obtain⟨r,h1,h2⟩:=H _ hm v e
 cases v with
 | ok a=>exact Av hl h1 h2
 | error er=>obtain⟨t,h2⟩:=h2;exact⟨t,Av hl h1 h2⟩
structure bU where
 base:Int
 numbers:List (Str×Int)
structure dI (cl:CL) (h:List Ob) (n m:Nat) (r:bU):Prop where
 o:h[n]?=some (.ins cl.Memory ["base","numbers"] [.d (.int r.base),.o m])
 d:h[m]?=some (.aM (kS r.numbers) (dV D.int r.numbers))∨h[m]?=some (.cZ (kS r.numbers) (dV D.int r.numbers))
abbrev fU (cl:CL) (m:Nat) (r:bU):List Ob:=[.ins cl.Memory ["base","numbers"] [.d (.int r.base),.o m],.aM (kS r.numbers) (dV D.int r.numbers)]
theorem Om {b:Int} {m:Nat}:fget ["base","numbers"] [R.d (.int b),R.o m] "numbers"=some (R.o m):=by
 have hne:(Str.ofString "numbers" == Str.ofString "base")=false:=by decide +kernel
 simp[fget,List.lookup,hne]
theorem WQ {b:Int} {m:Nat}:fget ["base","numbers"] [R.d (.int b),R.o m] "base"=some (R.d (.int b)):=by
 simp[fget,List.lookup]
variable {k m:Nat} {M:bU}
theorem dI.inV (H:dI cl h k m M) {s:List Sv}:AL.inV ⟨s,h⟩ (.o k)=some (cl.Memory,(["base","numbers"]:List Str),[R.d (.int M.base),R.o m]):=by unfold AL.inV;simp only[aU,H.o]
theorem dI.dc (H:dI cl h k m M) {s:List Sv}:eX ⟨s,h⟩ (.o m)=some (kS M.numbers,dV D.int M.numbers):=by
 rcases H.d with e|e<;>simp only[eX,aU,e]
theorem dI.sq (H:dI cl h k m M) {s:List Sv}:jd ⟨s,h⟩ (.o m)=none∧bT ⟨s,h⟩ (.o m)=none∧∀t,snap ⟨s,h⟩ (.o m)≠some (.str t):=by
 refine⟨?_,?_,fun t z=>?_⟩
 ·show bT ⟨s,h⟩ (.o m)=_
  rcases H.d with e|e<;>simp only[bT,aU,e]
 ·rcases H.d with e|e<;>simp only[bT,aU,e]
 ·have z:(aU ⟨s,h⟩ (.o m)).bind fY=_:=z
  rcases H.d with e|e<;>simp only[aU,e] at z<;>cases z
theorem tO (H:dI cl h k m M) (hf:EV n p h f (.o k) id p h):EV n p h (lW [cl.Memory] "numbers" f) (.o m) id p h:=gA hf fun s _=>by
 rw[H.inV];simp only[Option.bind_some,List.mem_singleton,if_true];exact Om
theorem Vv (H:dI cl h k m M) (hf:EV n p h f (.o k) id p h):EV n p h (lW [cl.Memory] "base" f) (.d (.int M.base)) id p h:=gA hf fun s _=>by
 rw[H.inV];simp only[Option.bind_some,List.mem_singleton,if_true];exact WQ
theorem YG (H:dI cl h k m M) {s:Str}:KV n p h (kIn false) (.d (.str s)) (.o m) (.d (.bl (decide (s∈M.numbers.map (·.1))))):=fun st _=>by rw[Qc rfl H.dc H.sq.1 H.sq.2.2,Oi];rfl
theorem MJ (H:dI cl h k m M) {s:Str}:KV n p h (kIn true) (.d (.str s)) (.o m) (.d (.bl (!decide (s∈M.numbers.map (·.1))))):=fun st _=>by rw[Qc rfl H.dc H.sq.1 H.sq.2.2,Oi];rfl
theorem YH (H:dI cl h k m M) {s:Str} {v:Int} (e:fJ M.numbers s=some v):KV n p h bF (.o m) (.d (.str s)) (.d (.int v)):=fun st _=>Gp H.dc H.sq.2.1 (fun _=>by unfold jP;rfl) rfl (G9 e)
end
end TY
set_option maxHeartbeats 2000000
namespace TY
open PySem L2 DL AL PyProof.Rows
noncomputable def yO (c:CL):S:=(au (bY (jW (tF (o8 (aK o7) (aK o7) (eC (.int 1)) (M.of (aC (eV 0) aN) iw) (eC (.int 8))))) (au (cJ (eC (.bl false)))
 aP) aP)
 (au (iQ (wS (eV 0)) (gN 1) (au (bY (tF (eB (kIn true) (eV 1) (eC (.str "abcdefghijklmnopqrstuvwxyz")))) (au (cJ (eC (.bl false)))
 aP) aP)
 aP))
 (au (cJ (eC (.bl true)))
 aP)))
@[irreducible] noncomputable def tG (c:CL):Fn:=(runN 1 2 (yO c))
theorem J_ (c:CL):tG c=(runN 1 2 (yO c)):=by unfold tG;rfl
noncomputable def pQ (text:Str):Option Bool:=
 (Iw text).bind fun v=>
 if (!(decide ((1:Int)≤v)&&decide (v≤(8:Int))))=true then some false
 else eE (cA (fun letter s_=>
 (Cq letter ("abcdefghijklmnopqrstuvwxyz":Str)).bind fun q=>
 if (!q)=true then some (.rt false)
 else some (.nx ())) (signs text) ()) fun s_1=>
 some true
theorem UL {c:CL} {text:Str} {h:List Ob} {v:Bool}  (e:pQ text=some v):tG c [.d (D.str text)] h=some (outD D.bl h v):=by
 rw[J_]
 exact fn_of (p:=[(0,some (.v (.d (D.str text)))),(1,some .no)]) (jr rfl rfl) rfl  (show J (jQ (outD D.bl h)) 2 (yO c) _ h (pQ text) from
 aX fun v jG=>
 jg (oF (d_ (Ax aJ (Wx jG (aO (ao rfl) bf)) ux aJ ux))) (iZ (fQ aJ fun s m=>rfl))
 (jf (zY (α:=Unit) (pre:=fun s_=>[(1,none)]) (hp:=fun s_=>h) (a0:=()) (aaq (ao rfl)) (bL cW) (lX rfl (fun _=>rfl)) (fun letter s_=>
 aX fun q sG=>
 jg (d_ (aG (ao rfl) aJ (Vt sG))) (iZ (fQ aJ fun s m=>⟨rfl,rfl⟩))
 (jf (vQ (bL (j9 2 rfl rfl)) rfl))) fun s_1=>
 fQ aJ fun s m=>rfl))) e
noncomputable def yc (c:CL):S:=(au (bY (tF (eB (kIn true) (eV 1) (lW [c.Memory] "numbers" (eV 0)))) (au (jY c.NoCell "name" (aC (eV 1) aN))
 aP) aP)
 (au (cJ (eB bF (lW [c.Memory] "numbers" (eV 0)) (eV 1)))
 aP))
@[irreducible] noncomputable def j7 (c:CL):Fn:=(runN 2 2 (yc c))
theorem JF (c:CL):j7 c=(runN 2 2 (yc c)):=by unfold j7;rfl
noncomputable def yd (c:CL):S:=(au (bY (tF (eB (kIn true) (eV 1) (lW [c.Memory] "numbers" (eV 0)))) (au (jY c.NoCell "name" (aC (eV 1) aN))
 aP) aP)
 (au (bY (jW (tF (o8 (aK o7) (aK kLt) (eC (.int 0)) (eV 2) (lW [c.Memory] "base" (eV 0))))) (au (jY c.BadNumber "number" (aC (eV 2) aN))
 aP) aP)
 (au (bB (eV 2) (gS (lW [c.Memory] "numbers" (eV 0)) (eV 1)))
 aP)))
@[irreducible] noncomputable def mD (c:CL):Fn:=(runN 3 3 (yd c))
theorem JG (c:CL):mD c=(runN 3 3 (yd c)):=by unfold mD;rfl
noncomputable def xZ (c:CL):S:=(au (cJ (eB (kIn false) (eV 1) (lW [c.Memory] "numbers" (eV 0))))
 aP)
@[irreducible] noncomputable def jZ (c:CL):Fn:=(runN 2 2 (xZ c))
theorem JD (c:CL):jZ c=(runN 2 2 (xZ c)):=by unfold jZ;rfl
noncomputable def yr (c:CL):S:=(au (cJ (M.of (aC (lW [c.Memory] "numbers" (eV 0)) aN) iw))
 aP)
@[irreducible] noncomputable def nU (c:CL):Fn:=(runN 1 1 (yr c))
theorem JM (c:CL):nU c=(runN 1 1 (yr c)):=by unfold nU;rfl
section
variable {n i j k m:Nat} {p q p1 p2 px:En} {s:List Sv} {α β γ ρ ι:Type} {h h0 h1 h2 h3 tl:List Ob} {f g e fo fv:M R} {fa ga:M (List R)} {x y z r:R} {rs xs:List R} {u u1 u2 u3:List Sv→List Sv} {d:D} {ds es:List D} {o:Ob} {b b1 b2:Bool} {Fin:ρ→Rs→Prop} {A B:S} {V:α→D} {a c:Int} {cl:CL} {t:Option ρ} {v:ρ} {Y Y':bU}
structure cY (cl:CL) (h:List Ob) (n m:Nat) (r:bU):Prop where
 o:h[n]?=some (.ins cl.Memory ["base","numbers"] [.d (.int r.base),.o m])
 d:h[m]?=some (.aM (kS r.numbers) (dV D.int r.numbers))
theorem cY.at (H:cY cl h k m Y):dI cl h k m Y:=⟨H.o,.inl H.d⟩
theorem cY.app (H:cY cl h k m Y):cY cl (h++tl) k m Y:=⟨by rw[List.getElem?_append_left (List.getElem?_eq_some_iff.mp H.o).1];exact H.o,by rw[List.getElem?_append_left (List.getElem?_eq_some_iff.mp H.d).1];exact H.d⟩
theorem cY.ne (H:cY cl h k m Y):k≠m:=fun z=>by have:=H.o;rw[z,H.d] at this;cases this
theorem cY.lock (H:cY cl h k m Y):dI cl (h.set m (.cZ (kS Y.numbers) (dV D.int Y.numbers))) k m Y:=⟨by rw[List.getElem?_set_ne (fun z=>H.ne z.symm)];exact H.o,.inr (by rw[List.getElem?_set_self (List.getElem?_eq_some_iff.mp H.d).1])⟩
def bU.put (Y:bU) (s:Str) (v:Int):bU:=⟨Y.base,jh Y.numbers s v⟩
def fV (h:List Ob) (m:Nat) (Y:bU):List Ob:=h.set m (.aM (kS Y.numbers) (dV D.int Y.numbers))
theorem cY.put (H:cY cl h k m Y) (hb:Y'.base=Y.base):cY cl (fV h m Y') k m Y':=⟨by unfold fV;rw[List.getElem?_set_ne (fun z=>H.ne z.symm),hb];exact H.o,by unfold fV;rw[List.getElem?_set_self (List.getElem?_eq_some_iff.mp H.d).1]⟩
noncomputable def mO (Y:bU) (s:Str):Option (Except Err Int):=if (!decide (s∈Y.numbers.map (·.1)))=true then iV (.str s) (.error ⟨.NoCell,[.str s]⟩) else(fJ Y.numbers s).bind fun v=>some (.ok v)
theorem YJ {s:Str} {v:Except Err Int} (H:dI cl h k m Y) (e:mO Y s=some v):j7 cl [.o k,.d (.str s)] h=some (oZ cl D.int h v):=by
 rw[JF]
 exact fn_of (p:=[(0,some (.v (.o k))),(1,some (.v (.d (.str s))))]) (jr rfl rfl) rfl (show J (jQ (oZ cl D.int h)) 2 (yc cl) _ h (mO Y s) from
 jg (d_ (aG (ao rfl) (tO H (ao rfl)) (MJ H))) (iZ (rF (aO (ao rfl) bf) fun _ _=>rfl)) (jf (aX fun v hv=>fQ (aG (tO H (ao rfl)) (ao rfl) (YH H hv)) fun _ _=>rfl))) e
theorem Ql {s:Str} (H:dI cl h k m Y):jZ cl [.o k,.d (.str s)] h=some (.ret (.d (.bl (decide (s∈Y.numbers.map (·.1))))),h):=by
 rw[JD]
 exact fn_of (v:=(decide (s∈Y.numbers.map fun(x:Str×Int)=>x.1))) (args:=[.o k,.d (.str s)]) (p:=[(0,some (.v (.o k))),(1,some (.v (.d (.str s))))]) (jr rfl rfl) rfl (show J (jQ (outD D.bl h)) 2 (xZ cl) _ h (some (decide (s∈Y.numbers.map fun(x:Str×Int)=>x.1))) from
 fQ (aG (ao rfl) (tO H (ao rfl)) (YG H)) fun _ _=>rfl) rfl
theorem aas (H:dI cl h k m Y) (s:List Sv):iw ⟨s,h⟩ [.o m]=some (.d (.int (Y.numbers.length:Int))):=by
 rcases H.d with e|e<;>simp[iw,kLen,snap,aU,e,fY,Ij]
theorem YK (H:dI cl h k m Y):nU cl [.o k] h=some (.ret (.d (.int (Y.numbers.length:Int))),h):=by
 rw[JM]
 exact fn_of (v:=(Y.numbers.length:Int)) (p:=[(0,some (.v (.o k)))]) (jr rfl rfl) rfl (show J (jQ (outD D.int h)) 1 (yr cl) _ h (some (Y.numbers.length:Int)) from
 fQ (gA (aO (tO H (ao rfl)) bf) fun s _=>aas H s) fun _ _=>rfl) rfl
theorem WR {F:Fn} {v:Except Err α} {st:List Sv} (hw:rs.all dZ=true) (hF:F rs h=some (oZ cl V h v)):dR F rs ⟨st,h⟩=some (match v with
 | .ok a=>.ok (.d (V a)) ⟨st,h⟩
 | .error x=>.ex (x.xd cl) ⟨st,h⟩):=by
 unfold dR;rw[if_pos hw];simp only[hF];cases v<;>rfl
theorem Gv {F:Fn} {st:List Sv} (hw:rs.all dZ=true) (hF:F rs h=some (.ret (.d d),h1)):dR F rs ⟨st,h⟩=some (.ok (.d d) ⟨st,h1⟩):=by
 unfold dR;rw[if_pos hw];simp only[hF]
noncomputable def i_ (Y:bU) (s:Str) (v:Int):Option (Except Err bU):=if (!decide (s∈Y.numbers.map (·.1)))=true then iV (.str s) (.error ⟨.NoCell,[.str s]⟩) else if (!(decide ((0:Int)≤v)&&decide (v<Y.base)))=true then iV (.int v) (.error ⟨.BadNumber,[.int v]⟩) else(jy Y.numbers s v).bind fun ns=>some (.ok ⟨Y.base,ns⟩)
def Q6 (cl:CL) (h:List Ob) (m:Nat):Except Err bU→Ot×List Ob
 | .ok Y=>(.ret (.d .non),fV h m Y)
 | .error e=>(.exc (e.xd cl),h)
theorem YL {fi:M R} {s:Str} {ns:List (Str×Int)} {t:List (Str×Int)→Option ρ} (H:cY cl h k m Y) (hv:EV n p h e (.d (.int a)) id p h) (ho:EV n p h fo (.o m) id p h) (hi:EV n p h fi (.d (.str s)) id p h) (K:∀ns,J Fin n B p (fV h m ⟨Y.base,ns⟩) (t ns)):J Fin n (au (bB e (gS fo fi)) B) p h ((jy Y.numbers s a).bind t):=fun st mm w ev=>by
 obtain⟨xs',hx,ev⟩:=Option.bind_eq_some_iff.mp ev
 obtain⟨hl,rfl⟩:=jF hx
 obtain⟨r,hr,hf⟩:=K (jh Y.numbers s a) _ mm w ev
 refine⟨r,gq (oV (hv st mm).1 ?_) hr,hf⟩
 show (fo.bind _) ⟨st,h⟩=_
 rw[bQ (show fo ⟨st,h⟩=some (.ok _ ⟨st,h⟩) from(ho st mm).1),bQ (show fi ⟨st,h⟩=some (.ok _ ⟨st,h⟩) from(hi st mm).1)]
 have e2:aU ⟨st,h⟩ (.o m)=some (.aM (kS Y.numbers) (dV D.int Y.numbers)):=H.d
 have hl2:(kS Y.numbers).length<16000000:=by rw[List.length_map];exact hl
 rw[e2]
 simp only[Option.bind_some,lO,keyD,hl2,if_true,Option.map_some,jx,(uz (V:=D.int) (v:=a)).1,uz.2,fV]
theorem YM {s:Str} {a:Int} {v:Except Err bU} (H:cY cl h k m Y) (e:i_ Y s a=some v):mD cl [.o k,.d (.str s),.d (.int a)] h=some (Q6 cl h m v):=by
 rw[JG]
 exact fn_of (p:=[(0,some (.v (.o k))),(1,some (.v (.d (.str s)))),(2,some (.v (.d (.int a))))]) (jr rfl rfl) rfl (show J (jQ (Q6 cl h m)) 3 (yd cl) _ h (i_ Y s a) from
 jg (d_ (aG (ao rfl) (tO H.at (ao rfl)) (MJ H.at))) (iZ (rF (aO (ao rfl) bf) fun _ _=>rfl)) (jf
 (jg (oF (d_ (Ax aJ (ao rfl) ux (Vv H.at (ao rfl)) Ba))) (iZ (rF (aO (ao rfl) bf) fun _ _=>rfl)) (jf
 (YL (ns:=[]) H (ao rfl) (tO H.at (ao rfl)) (ao rfl) fun ns=>tY fun _ _=>rfl))))) e
theorem MK {s:Str} (H:dI cl h k m Y) (ho:EV n p h fo (.o k) id p h) (hi:EV n p h f (.d (.str s)) id p h):EX cl n p h (rR cl.Memory (j7 cl) fo (aC f aN)) D.int (mO Y s) id p h:=fun st mm v hv=>⟨mm,by
 unfold rR
 rw[bQ (show fo ⟨st,h⟩=some (.ok _ ⟨st,h⟩) from(ho st mm).1)]
 simp only[H.inV]
 rw[bQ (show aC f aN ⟨st,h⟩=some (.ok [.d (.str s)] ⟨st,h⟩) from Ju (hi st mm).1 Ry)]
 simp only[H.inV,if_true]
 rw[WR (V:=D.int) rfl (YJ H hv)]
 cases v<;>rfl⟩
theorem MN {s:Str} {v:Int} (H:dI cl h k m Y) (e:fJ Y.numbers s=some v) (ho:EV n p h fo (.o k) id p h) (hi:EV n p h f (.d (.str s)) id p h):EV n p h (rR cl.Memory (j7 cl) fo (aC f aN)) (.d (.int v)) id p h:=fun st mm=>⟨by
 have hm:s∈Y.numbers.map (·.1):=by
  unfold fJ at e
  obtain⟨z,hz,_⟩:=Option.map_eq_some_iff.mp e
  exact List.mem_map.mpr ⟨z,List.mem_of_find?_eq_some hz,by simpa using List.find?_some hz⟩
 have hT:mO Y s=some (.ok v):=by unfold mO;rw[if_neg (by simp only[hm,decide_true];simp),e];rfl
 exact(MK H ho hi st mm _ hT).2,mm⟩
theorem WT {s:Str} (H:dI cl h k m Y):KV n p h (oW false cl.Memory (jZ cl)) (.d (.str s)) (.o k) (.d (.bl (decide (s∈Y.numbers.map (·.1))))):=fun st mm=>by
 unfold oW
 simp only[H.inV,if_true]
 have:dR (jZ cl) [.o k,.d (.str s)] ⟨st,h⟩=some (.ok (.d (.bl (decide (s∈Y.numbers.map (·.1))))) ⟨st,h⟩):=Gv rfl (Ql H)
 rw[this];simp
theorem Vw {s:Str} (H:dI cl h k m Y):KV n p h (oW true cl.Memory (jZ cl)) (.d (.str s)) (.o k) (.d (.bl (!decide (s∈Y.numbers.map (·.1))))):=fun st mm=>by
 unfold oW
 simp only[H.inV,if_true]
 have:dR (jZ cl) [.o k,.d (.str s)] ⟨st,h⟩=some (.ok (.d (.bl (decide (s∈Y.numbers.map (·.1))))) ⟨st,h⟩):=Gv rfl (Ql H)
 rw[this];simp
theorem Vx {w:Int} (H:dI cl h k m Y) (hw:(if Y.numbers.length<16000000 then some (Y.numbers.length:Int) else none)=some w) (hf:EV n p h fa [.o k] id p h):EV n p h (M.of fa (xg cl.Memory (nU cl))) (.d (.int w)) id p h:=gA hf fun st mm=>by
 obtain⟨hl,rfl⟩:=jF hw
 unfold xg
 simp only[H.inV,if_true]
 have:dR (nU cl) [.o k] ⟨st,h⟩=some (.ok (.d (.int (Y.numbers.length:Int))) ⟨st,h⟩):=Gv rfl (YK H)
 rw[this]
 have h3:(Y.numbers.length:Int)<2 ^ 63:=by omega
 have h4:(0:Int)≤(Y.numbers.length:Int):=by omega
 simp only[true_and,h3,h4,and_self,if_true]
theorem WW {s:Str} {fi:M R} {inj:Err→ρ} {t:bU→Option ρ} (H:cY cl h k m Y) (hv:EV n p h e (.d (.int a)) id p h) (ho:EV n p h fo (.o k) id p h) (hi:EV n p h fi (.d (.str s)) id p h) (hx:∀er s,bG n p s→Fin (inj er) (.ex (er.xd cl) ⟨s,h⟩)) (K:∀Y',J Fin n B p (fV h m Y') (t Y')):J Fin n (au (bB e (vg cl.Memory (mD cl) fo fi)) B) p h (mW (i_ Y s a) inj t):=fun st mm w ev=>by
 cases ho':i_ Y s a with
 | none=>rw[ho'] at ev;cases ev
 | some o=>
  rw[ho'] at ev
  have hF:=YM H ho'
  have e1:vg cl.Memory (mD cl) fo fi (.d (.int a)) ⟨st,h⟩=(match o with
   | .ok Y'=>some (.ok () ⟨st,fV h m Y'⟩)
   | .error er=>some (.ex (er.xd cl) ⟨st,h⟩)):=by
   unfold vg
   rw[bQ (show fo ⟨st,h⟩=some (.ok _ ⟨st,h⟩) from(ho st mm).1),bQ (show fi ⟨st,h⟩=some (.ok _ ⟨st,h⟩) from(hi st mm).1)]
   simp only[H.at.inV,if_true]
   unfold M.bind dR
   rw[if_pos (show ([.o k,.d (.str s),.d (.int a)]:List R).all dZ=true from rfl)]
   simp only[hF]
   cases o<;>rfl
  cases o with
  | error er=>
   cases ev
   refine⟨.ex (er.xd cl) ⟨st,h⟩,?_,hx er _ mm⟩
   have:bB e (vg cl.Memory (mD cl) fo fi) ⟨st,h⟩=some (.ex (er.xd cl) ⟨st,h⟩):=by
    unfold bB
    rw[(hv st mm).1]
    simp only[id,e1]
   rw[G7 this]
  | ok Y'=>
   obtain⟨r,hr,hf⟩:=K Y' _ mm w ev
   exact⟨r,gq (oV (hv st mm).1 e1) hr,hf⟩
theorem YQ {vs:List Nat} {kk:G} {tg:Str→En} {tb:M Bool} {W:β→D} {cc:Str→Option Bool} {ff:Str→Option β} {zs:List β} (H:cY cl h k m Y) (hz:gK cc ff (Y.numbers.map (·.1))=some zs) (hv0:lk p i=some (.v (.o k))) (hv:∀v∈vs,lk p v=some .no) (hk:xV n vs kk (fun x=>.d (.str x)) tg) (hc:dI cl (h.set m (.cZ (kS Y.numbers) (dV D.int Y.numbers))) k m Y→∀y,EO n (tg y++p) (h.set m (.cZ (kS Y.numbers) (dV D.int Y.numbers))) tb (fun x=>x) (cc y)) (hf:dI cl (h.set m (.cZ (kS Y.numbers) (dV D.int Y.numbers))) k m Y→∀y,EO n (tg y++p) (h.set m (.cZ (kS Y.numbers) (dV D.int Y.numbers))) e (fun x=>.d (W x)) (ff y)):EV n p h (rD (pF [cl.Memory] "numbers" (pV i)) kk tb e vs) (.lst (zs.map W)) id p h:=fun s mm=>by
 have hl:(Y.numbers.map (·.1)).length≤16000000∧jT cc ff (Y.numbers.map (·.1))=some zs:=by
  unfold gK at hz
  split at hz
  ·exact⟨by assumption,hz⟩
  ·cases hz
 have ew:cR s vs=s:=yV fun v hm=>mm.get v _ (hv v hm)
 have hp:pF [cl.Memory] "numbers" (pV i) ⟨s,h⟩=some (.o m):=by
  unfold pF
  rw[Bg hv0 s mm]
  simp only[Option.bind_some,H.at.inV,List.mem_singleton,if_true]
  exact Om
 have hkl:(kS Y.numbers).length≤16000000:=by simpa using hl.1
 refine⟨?_,mm⟩
 unfold rD xU
 rw[hp]
 simp only[H.d,hkl,if_true,ew,Gq,wu hv hk (hc H.lock) (hf H.lock) mm (Y.numbers.map (·.1)) zs hl.2]
 rfl
def Q7 (h:List Ob) (out:ρ→Ot×List Ob) (v:ρ) (r:Rs):Prop:=∃h',endF r=some ((out v).1,h')∧h'.take h.length=h
theorem YS {mm kk:Nat} {args:List R} {out:ρ→Ot×List Ob} (hm:bG mm p (nj mm args)) (hl:args.length=kk) (ho:∀v,(out v).2=h∧∀x,(out v).1≠.ret (.o x)∧∀b,(out v).1≠.ret (.n b)) (H:J (Q7 h out) mm B p h t) (e:t=some v):rG (AL.runN kk mm B) args h=some (out v):=by
 obtain⟨r,h1,h',h2,h3⟩:=H _ hm v e
 have hr:=Av (n:=kk) (m:=mm) hl h1 h2
 obtain⟨ho1,ho2⟩:=ho v
 unfold rG
 rw[hr]
 cases hv:out v with
 | mk o hh=>
  rw[hv] at ho1 ho2
  have ho1:hh=h:=ho1
  subst ho1
  cases o with
  | exc x=>simp only[h3,if_true]
  | ret w=>
   cases w with
   | d x=>simp only[h3,if_true]
   | o y=>exact absurd rfl (ho2 y).1
   | n y=>exact absurd rfl ((ho2 0).2 y)
theorem WY {V:α→D}:∀v,(oZ cl V h v).2=h∧∀x,(oZ cl V h v).1≠.ret (.o x)∧∀b,(oZ cl V h v).1≠.ret (.n b):=fun v=>by
 cases v<;>exact⟨rfl,fun x=>⟨(fun z=>by cases z),(fun b z=>by cases z)⟩⟩
theorem MP {er:Err} {hs:List Hd}:HD cl n p h hs er Fin none:=fun s mm y hy=>by cases hy
end
section
variable {K:PySem.W.Frag}
def wG (K:PySem.W.Frag):Sp:=fun vs H Q _=>∃(a:Addr) (ns:List Int),vs=[.ref a]∧SqL K H a (ns.map V.int)∧ns.length≤63∧∀H2,Q (.bl true) H2
theorem Vy (H:Hp):aq K ⟨H,H,[]⟩ ⟨[],[]⟩ [] H [] H [] where
 keep:=fun a o h _=>h
 eB:=Ex.refl _
 bH:=Ex.refl _
 ap:=fun a h1 h2=>absurd h1 h2
 pre:=bD.refl _
 hl:=rfl
 len:=rfl
 val:=fun i r h=>by simp at h
 obj:=fun n b h=>by simp at h
 own:=fun i b h=>by simp at h
 inj:=List.nodup_nil
 new:=fun a h=>by simp at h
 dsl:=fun i j b c a h=>by simp at h
 tmp:=fun p h=>by simp at h
theorem YT {F:Fn} (hF:∀ns:List Int,ns.length≤63→∃h',F [.d (.cM ns)] []=some (.ret (.d (.bl true)),h')) (vs:List V) (H:Hp) (Q:VK) (E:XK) (h:wG K vs H Q E):bJ K F vs H Q E:=by
 obtain⟨a,ns,rfl,hS,hl,hQ⟩:=h
 obtain⟨h',e⟩:=hF ns hl
 refine⟨H,[],[.d (.cM ns)],[],_,Vy H,.cons (show Rp K H (.cM ns) (.ref a) by unfold Rp;exact⟨a,rfl,hS⟩) .nil,e,?_⟩
 intro v H2 ⟨Hb,ι,C⟩
 have hv:v=.bl true:=C.tmp (rt K [] (.d (.bl true)) v) (by simp)
 rw[hv];exact hQ H2
theorem YW {P:Program} {w:World} {mg:Str→Option Value} {base:Heap} {k:Nat} {f:Addr} {fd:FuncData} {ps:List Str} {F:Fn} (h:FnOk P w K mg base (L2.CX P w) k f fd ps (bJ K F)) (hF:∀ns:List Int,ns.length≤63→∃h',F [.d (.cM ns)] []=some (.ret (.d (.bl true)),h')):FnOk P w K mg base (L2.CX P w) k f fd ps (wG K):=h.imp (YT hF)
theorem W0 {c:CL} {C:Addr} {e:EC} (h:c.who C=some e):e∈c.has∧c.at e=C:=by
 unfold CL.who at h
 exact⟨List.mem_of_find?_eq_some h,by simpa using List.find?_some h⟩
theorem M4 {c:CL} {X:EC} (h:∀e∈c.has,PySem.W.exmOne K (.ref (c.at e)) (.ref (c.at X))=some (decide (e=X))):∀C b,c.m X C=some b→PySem.W.exmOne K (.ref C) (.ref (c.at X))=some b:=fun C b e=>by
 unfold CL.m at e
 obtain⟨x,hx,rfl⟩:=Option.map_eq_some_iff.mp e
 obtain⟨h1,rfl⟩:=W0 hx
 exact h x h1
theorem Vz {c:CL} (h:(c.has.map c.at).Nodup):c.Ok:=⟨fun e h1 e' h2 he=>by
 have key:∀l:List EC,(l.map c.at).Nodup→e∈l→e'∈l→e=e':=by
  intro l
  induction l with
  | nil=>intro _ h;simp at h
  | cons x l ih=>
   intro hn m1 m2
   rw[List.map_cons,List.nodup_cons] at hn
   rcases List.mem_cons.mp m1 with rfl|m1
   ·rcases List.mem_cons.mp m2 with rfl|m2
    ·rfl
    ·exact absurd (List.mem_map.mpr ⟨e',m2,he.symm⟩) hn.1
   ·rcases List.mem_cons.mp m2 with q|m2
    ·subst q;exact absurd (List.mem_map.mpr ⟨e,‹e∈l›,he⟩) hn.1
    ·exact ih hn.2 m1 m2
 exact key _ h h1 h2⟩
theorem all1 {α:Type} {p:α→Prop} {a:α} {l:List α} (h:p a) (k:∀x∈l,p x):∀x∈a::l,p x:=fun x hx=>(List.mem_cons.mp hx).elim (fun e=>by rw[e];exact h) (k x)
theorem BJ {α:Type} {p:α→Prop}:∀x∈([]:List α),p x:=fun x hx=>by simp at hx
theorem aat {l:PySem.W.OpenLaw} {q:Program} {loose:List Str} {XP:(Str→Option Value)→Heap→Prop} {YP:World→Heap→Prop} {d:DefRec} {K:Params→PySem.W.Frag} {k:Nat} {x:Str} (hk:Room k callerA) (hn:l.most=some 63) (hdf:d.params.defaults=[])
  (hY:∀(w:World) (h:Heap),YP w h→(K w.params).In h)
  (F:∀(w:World) (mg:Str→Option Value) (fa:Addr) (h:Heap),(K w.params).In h→h.Ns mainGlobals mg→mg d.name=some (.ref fa)→
   ∃fd:FuncData,(∀(s:Shared) (u:Value),BindsTo s fd ⟨[u],[]⟩ [(x,u)])∧∀base:Heap,(K w.params).In base→base.Ns mainGlobals mg→FnOk l.prog w (K w.params) mg base (L2.CX l.prog w) k fa fd [x] (wG (K w.params))) :
  PySem.W.WalkO q loose XP YP l.row.toRowW d [] (fun f vs=>PySem.call f vs):=
 L2.walk_of (n:=63) (k:=k) (x:=x) (CX:=fun w=>L2.CX l.prog w) (sp:=fun w=>wG (K w.params)) hn (by decide) hdf hk hY F
  (fun w H a ns hl _ hS=>⟨a,ns,rfl,hS,hl,fun _=>rfl⟩)
  fun _ _ _ _ _ ⟨_,_,_,_,_,_,_,_,_,_,_,_,z⟩=>z
end
end TY
namespace TY
open PySem PySem.W L2 PyProof.Rows
end TY
namespace AL
open PySem L2 DL PyProof.Rows
end AL
set_option maxHeartbeats 4000000
namespace PySem
namespace eG
open PySem.W PySem.Calls PyProof.Rows PySem.HandSPX
abbrev RB (p1 p2 pre mid:Str) (c1 c2:Nat) (j1 j2 j3 j4 j5 j6:Pos):List Expr:=[.Constant (.str pre) c1 j1,.FormattedValue (.Name p1 j2) 114 none j3,.Constant (.str mid) c2 j4,.FormattedValue (.Name p2 j5) (-1) none j6]
abbrev as2 (p1 p2:Str) (q1 q2 q3 q4 r1 r2 r3 r4:Pos):List Stmt:=[.Assign [.Attribute (.Name "self" q1) p1 q2] (.Name p1 q3) q4,.Assign [.Attribute (.Name "self" r1) p2 r2] (.Name p2 r3) r4]
def vm (P:Program) (K:Frag) (mg:Str→Option Value) (cn p1 p2:Str) (C:Addr):Prop:=∃(fI:Addr) (qual:Str) (st:Stmt) (pre mid:Str) (c1 c2:Nat) (j1 j2 j3 j4 j5 j6 q1 q2 q3 q4 r1 r2 r3 r4:Pos),
 zK P K mg C fI cn qual st [p1,p2] (RB p1 p2 pre mid c1 c2 j1 j2 j3 j4 j5 j6) (as2 p1 p2 q1 q2 q3 q4 r1 r2 r3 r4)∧vW st qual [p1,p2] (RB p1 p2 pre mid c1 c2 j1 j2 j3 j4 j5 j6) (as2 p1 p2 q1 q2 q3 q4 r1 r2 r3 r4)∧
 (p1 == ("__debug__":Str))=false∧(p2 == ("__debug__":Str))=false∧(p1 == p2)=false∧findIn K (.ref C) p1=some none∧findIn K (.ref C) p2=some none∧pre.length≤100∧mid.length≤100
section
variable {P:Program} {K:Frag} {mg:Str→Option Value} {cn p1 p2:Str} {C:Addr}
theorem vm.xf (T:vm P K mg cn p1 p2 C):L2.XfC K C:=by
 obtain⟨fI,qual,st,pre,mid,c1,c2,j1,j2,j3,j4,j5,j6,q1,q2,q3,q4,r1,r2,r3,r4,T,S,_⟩:=T
 exact⟨T.ga,T.gg,T.exC,T.hdC⟩
theorem vm.no (T:vm P K mg cn p1 p2 C):findIn K (.ref C) p1=some none:=by
 obtain⟨fI,qual,st,pre,mid,c1,c2,j1,j2,j3,j4,j5,j6,q1,q2,q3,q4,r1,r2,r3,r4,T,S,_,_,_,h,_⟩:=T
 exact h
theorem vm.g (T:vm P K mg cn p1 p2 C):mg cn=some (.ref C):=by
 obtain⟨fI,qual,st,pre,mid,c1,c2,j1,j2,j3,j4,j5,j6,q1,q2,q3,q4,r1,r2,r3,r4,T,S,_⟩:=T
 exact T.gC
end
end eG
end PySem
namespace DL
open PySem L2 PyProof.Rows
end DL
namespace AL
open PySem L2 DL PyProof.Rows
end AL
namespace TY
open PySem L2 DL AL PyProof.Rows
section
variable {n i j:Nat} {p q p1 p2 px:En} {α β γ ρ ι:Type} {h h1 h2:List Ob} {f g e:M R} {fa:M (List R)} {x y z r:R} {u u1:List Sv→List Sv} {d v:D} {ds:List D} {Fin:ρ→Rs→Prop} {A B:S} {a:Int} {ps:List (Str×Int)}
theorem mH (k:Key):keyD (kD k)=some k:=by cases k<;>rfl
end
end TY
namespace AL
open PySem L2 DL PyProof.Rows
end AL
namespace TY
open PySem L2 DL AL PyProof.Rows
end TY
namespace AL
open PySem L2 DL PyProof.Rows
end AL
namespace TY
open PySem L2 DL AL PyProof.Rows
section
variable {n:Nat} {p p1 p2:En} {h h1 h2:List Ob} {f:M R} {fa:M (List R)} {u u1:List Sv→List Sv}
def BK (ss:List Str) (s:Str):Option Int:=(ss.findIdx? fun z=>decide (z=s)).map fun(j:Nat)=>(j:Int)
end
section
variable {n:Nat} {α:Type} {p p1 p2:En} {h h1 h2 h3:List Ob} {f fo e:M R} {fa:M (List R)} {rs:List R} {u u1:List Sv→List Sv} {d:D} {ds:List D} {C:Addr} {fs:List Str} {nm:Str} {F:Fn} {V:α→D} {cl:CL}
def vp (o:Option (Except Err α)):Option α:=match o with
 | some (.ok a)=>some a
 | _=>none
theorem W3 {o:Option (Except Err α)} {a:α} (h:vp o=some a):o=some (.ok a):=by
 unfold vp at h
 split at h
 ·cases h;rfl
 ·cases h
end
end TY
namespace AL
open PySem L2 DL PyProof.Rows
end AL
namespace TY
open PySem L2 DL AL PyProof.Rows
def Rk (h:List Ob) (r:R) (k:Str) (x:R):Prop:=∀s,bF ⟨s,h⟩ r (.d (.str k))=some x
section
variable {n i:Nat} {α β ρ:Type} {p p1 p2:En} {h hh h1 h2 h3:List Ob} {f fo e:M R} {fa:M (List R)} {rs xs:List R} {u u1:List Sv→List Sv} {d:D} {ds:List D} {r x:R} {k:Str} {ks:List Key} {m:Nat} {Fin:ρ→Rs→Prop} {A B:S} {V:α→D} {v:ρ}
theorem wH {o:Ob} {fo:M Ob} (H:EV n p h fo o u p1 h1) (hm:h1.length=m):EV n p h (o_ fo) (.o m) u p1 (h1++[o]):=fun s mm=>⟨by
 subst hm
 unfold o_
 rw[bQ (H s mm).1],(H s mm).2⟩
end
end TY
namespace AL
open PySem L2 DL PyProof.Rows
section
variable {X:Cx} {a b e o:Expr} {ta tb te to:TE} {pos p apos cpos:Pos} {k:Nat}
def rIxS:V→List V→Hp→VK→Prop:=fun x xs H Q=>∃(a b:Str) (k:Nat),x=.str a∧xs=[.str b]∧Txt.index0 a b=some k∧Q (.int (k:Nat)) H
end
end AL
namespace TY
open PySem L2 DL AL PyProof.Rows
end TY
set_option maxHeartbeats 2000000
namespace TY
open PySem L2 DL AL PyProof.Rows
noncomputable def yh (c:CL):S:=(au (bY (jW (tF (o8 (aK o7) (aK o7) (eC (.int 2)) (eV 1) (eC (.int 10))))) (au (jY c.BadNumber "number" (aC (eV 1) aN))
 aP) aP)
 (au (bB (eC (.int 1)) (gN 3))
 (au (oH (pV 2) (gN 4) (au (bB (eB (aK jB) (eV 3) (eV 1)) (gN 3))
 aP))
 (au (bY (tF (eB (aK Jk) (eV 3) (eC (.int 100)))) (au (jY c.TooLarge "bound" (aC (eC (.int 100)) aN))
 aP) aP)
 (au (ni 5 Bs)
 (au (oH (pV 2) (gN 4) (au (bY (jW (tR (jO (tG c) (aC (eV 4) aN)))) (au (jY c.BadName "name" (aC (eV 4) aN))
 aP) aP)
 (au (bY (jW (tF (o8 (aK o7) (aK kLt) (eC (.int 0)) (eB bF (eV 2) (eV 4)) (eV 1)))) (au (jY c.BadNumber "number" (aC (eB bF (eV 2) (eV 4)) aN))
 aP) aP)
 (au (bB (eB bF (eV 2) (eV 4)) (gS (eV 5) (eV 4)))
 aP))))
 (au (u6 [c.Memory] "base" (eV 0) (eV 1))
 (au (u6 [c.Memory] "numbers" (eV 0) (wZ 5))
 aP))))))))
@[irreducible] noncomputable def pJ (c:CL):Fn:=(runN 3 6 (yh c))
theorem JK (c:CL):pJ c=(runN 3 6 (yh c)):=by unfold pJ;rfl
noncomputable def nR (base:Int) (cells:List (Str×Int)):Option (Except Err bU):=
 if (!(decide ((2:Int)≤base)&&decide (base≤(10:Int))))=true then iV (D.int base) (.error ⟨.BadNumber,[(D.int base)]⟩)
 else(dW (fun name contents=>
 (Bx contents base).bind fun yP=>
 some yP) (cells.map (·.1)) (1:Int)).bind fun KJ=>
 if (decide ((100:Int)<KJ))=true then iV (D.int (100:Int)) (.error ⟨.TooLarge,[(D.int (100:Int))]⟩)
 else eE (cA (fun name1 numbers=>
 (pQ name1).bind fun v=>
 if (!v)=true then iV (D.str name1) (.rt (.error ⟨.BadName,[(D.str name1)]⟩))
 else(fJ cells name1).bind fun v1=>
 if (!(decide ((0:Int)≤v1)&&decide (v1<base)))=true then iV (D.int v1) (.rt (.error ⟨.BadNumber,[(D.int v1)]⟩))
 else(jy numbers name1 v1).bind fun mG=>
 some (.nx mG)) (cells.map (·.1)) ([]:List (Str×Int))) fun Lp=>
 some (.ok ⟨base,Lp⟩)
end TY
set_option maxHeartbeats 2000000
namespace TY
open PySem L2 DL AL PyProof.Rows
noncomputable def yL (c:CL):S:=(au (bB (eC (.int 0)) (gN 3))
 (au (bY (tF (eB (aK kLt) (eV 1) (M.of (aC (eV 0) aN) iw))) (au (bB (M.of (aC (eB bF (eV 0) (eV 1)) aN) fD) (gN 3))
 aP) aP)
 (au (bB (eB (aK Ce) (eV 3) (eB (aK wN) (eC (.int 10)) (eC (.int 18)))) (gN 4))
 (au (bB (eB bF (lZ (kZ (aC (eB eO (eV 3) (eB (aK jB) (eC (.int 7919)) (eV 1))) (aC (eB (aK uI) (eV 3) (eB (aK wN) (eC (.int 10)) (eC (.int 18)))) aN)))) (M.of (aC (eV 4) aN) fD)) (gN 5))
 (au (ni 6 (kZ aN))
 (au (iQ (lM (aC (eV 2) aN)) (gN 7) (au (bY (jW (tR (eV 4))) (au (bB (eB (aK fj) (M.of (aC (eB eO (eB eO (eB (aK jB) (eV 5) (eC (.int 48271))) (eB (aK jB) (eC (.int 11)) (eV 7))) (eC (.int 7))) aN) fD) (eC (.int 2147483647))) (gN 5))
 (au (bB (eB (aK fj) (M.of (aC (eB eO (eB eO (eB (aK jB) (eV 5) (eC (.int 69621))) (eB (aK jB) (eC (.int 5)) (eV 7))) (eC (.int 3))) aN) fD) (eC (.int 2147483647))) (gN 5))
 aP)) aP)
 (au (lK (uZ (eV 6) (aC (eB (aK fj) (M.of (aC (eV 5) aN) fD) (eC (.int 10000000))) aN) rA))
 (au (bY (tR (eV 4)) (au (bB (eB (aK lU) (eV 5) (eC (.int 10000000))) (gN 5))
 aP) aP)
 aP))))
 (au (cJ (rB 6))
 aP)))))))
@[irreducible] noncomputable def pN (c:CL):Fn:=(runN 3 8 (yL c))
theorem J5 (c:CL):pN c=(runN 3 8 (yL c)):=by unfold pN;rfl
noncomputable def mF (script:List Int) (k:Int) (many:Int):Option (List Int):=
 (if (decide (k<(script.length:Int)))=true then(atI script k).bind fun v=>
 some v else some (0:Int)).bind fun cell=>
 b_ (decide (((10:Int) ^ (18:Int).toNat)≤cell)) fun great=>
 (atI [cell+((7919:Int)*k),cell-((10:Int) ^ (18:Int).toNat)] (if great=true then(1:Int) else 0)).bind fun left=>
 (jC (0:Int) many).bind fun r=>
 (dW (fun at_ s_=>
 b_ (if (!great)=true then((((((((s_.1*(48271:Int))+((11:Int)*at_))+(7:Int))%(2147483647:Int))*(69621:Int))+((5:Int)*at_))+(3:Int))%(2147483647:Int)) else s_.1) fun qU=>
 (xr s_.2 (qU%(10000000:Int))).bind fun lG=>
 b_ (if great=true then(qU/(10000000:Int)) else qU) fun wI=>
 some (wI,lG)) r (left,([]:List Int))).bind fun s_1=>
 some s_1.2
theorem Ku {c:CL} {script:List Int} {k:Int} {many:Int} {h:List Ob} {v:List Int}  (e:mF script k many=some v):pN c [.d (D.cM script),.d (D.int k),.d (D.int many)] h=some (outD (vL D.int) h v):=by
 rw[J5]
 exact fn_of (p:=[(0,some (.v (.d (D.cM script)))),(1,some (.v (.d (D.int k)))),(2,some (.v (.d (D.int many)))),(3,some .no),(4,some .no),(5,some .no),(6,some .no),(7,some .no)]) (jr rfl rfl) rfl  (show J (jQ (outD (vL D.int) h)) 8 (yL c) _ h (mF script k many) from
 dH aJ rfl rfl (Az (α:=Int) (pre:=fun cell=>[(3,some (.v (.d (D.int cell))))]) (hp:=fun cell=>h) (d_ (aG (ao rfl) (Ww (aO (ao rfl) bf)) Ba)) (aX fun v jG=>
 dH (iK (aO (aG (ao rfl) (ao rfl) (Yx jG)) bf)) rfl rfl (jM (dX rfl (n_ rfl cW)) rfl)) (jM (dX rfl cW) rfl) fun cell=>
 oX (V:=fun x=>.d (D.bl x)) (aG (ao rfl) (aG aJ aJ (Mx rfl)) Qa) rfl rfl fun great=>
 aX fun left YX=>
 dH (aG (qT (wj (aO (aG (ao rfl) (aG aJ (ao rfl) (Gn rfl)) iJ) (aO (aG (ao rfl) (aG aJ aJ (Mx rfl)) (eZ rfl)) bf)) rfl rfl) rfl) (Wv (aO (ao rfl) bf)) (gU (V:=D.int) YX)) rfl rfl (zW (wj bf rfl rfl) rfl (aX fun r pB=>
 zX (α:=Int×(List Int)) (pre:=fun s_=>[(5,some (.v (.d (D.int s_.1)))),(6,some (.own (.lst (s_.2.map D.int)))),(7,none)]) (hp:=fun s_=>h) (a0:=(left,([]:List Int))) (qu pB (aO (ao rfl) bf)) (dX rfl (dX rfl (bL cW))) (lX rfl (fun _=>rfl)) (fun at_ s_=>
 Hr (α:=Int) (pre:=fun qU=>[(5,some (.v (.d (D.int qU))))]) (hp:=fun qU=>h) (oF (wF (ao rfl) xG)) (dH (aG (iK (aO (aG (aG (aG (ao rfl) aJ (Mw rfl)) (aG aJ (ao rfl) (Gn rfl)) iJ) aJ iJ) bf)) aJ (lH rfl)) rfl rfl (dH (aG (iK (aO (aG (aG (aG (ao rfl) aJ (Mw rfl)) (aG aJ (ao rfl) (Gn rfl)) iJ) aJ iJ) bf)) aJ (lH rfl)) rfl rfl (jM (dX rfl (j9 2 rfl rfl)) rfl))) (jM (dX rfl cW) rfl) fun qU=>
 Qg (V:=D.int) rfl (aG (iK (aO (ao rfl) bf)) aJ (lH rfl)) rfl rfl fun lG=>
 Hr (α:=Int) (pre:=fun wI=>[(5,some (.v (.d (D.int wI))))]) (hp:=fun wI=>h) (wF (ao rfl) xG) (dH (aG (ao rfl) aJ (qp rfl)) rfl rfl (jM (dX rfl (n_ rfl cW)) rfl)) (jM (dX rfl cW) rfl) fun wI=>
 vP (dX rfl (dX rfl (bL (j9 7 rfl rfl)))) rfl) fun s_1=>
 fQ (Oc rfl rfl rfl) fun s m=>rfl)))) e
noncomputable def yC (c:CL):S:=(au (bB (eC (.str "abcdefghijklmnopqrstuvwxyz")) (gN 2))
 (au (bB (eB eO (eC (.int 1)) (eB (aK fj) (eB (aK lU) (M.of (aC (eV 0) aN) fD) (eC (.int 2))) (eC (.int 8)))) (gN 3))
 (au (ni 4 (kZ aN))
 (au (iQ (lM (aC (eV 1) aN)) (gN 5) (au (bB (eV 3) (gN 6))
 (au (bY (tF (eB (aK (kEq false)) (eB (aK fj) (M.of (aC (eV 0) aN) fD) (eC (.int 2))) (eC (.int 1)))) (au (bB (eB eO (eC (.int 1)) (eB (aK fj) (eB eO (eV 3) (eV 5)) (eC (.int 8)))) (gN 6))
 aP) aP)
 (au (ni 7 (rY (lM (aC (eV 6) aN)) (gN 9) (M.ret true) (eB bF (eV 2) (eB (aK fj) (M.of (aC (eB eO (eB (aK lU) (eV 0) (eC (.int 7))) (eV 9)) aN) fD) (eC (.int 26)))) [9]))
 (au (bB (eB (aK fj) (eB (aK fj) (M.of (aC (eB (aK lU) (eV 0) (eC (.int 16))) aN) fD) (eV 3)) (eV 6)) (gN 8))
 (au (bB (eB bF (eV 2) (eB (aK fj) (M.of (aC (eB eO (eB (aK lU) (eV 0) (eC (.int 128))) (eV 5)) aN) fD) (eC (.int 26)))) (gS (eV 7) (eV 8)))
 (au (lK (uZ (eV 4) (aC (wC (eC (.str "")) (eV 7)) aN) rA))
 aP)))))))
 (au (cJ (rB 4))
 aP)))))
@[irreducible] noncomputable def sX (c:CL):Fn:=(runN 2 10 (yC c))
theorem JR (c:CL):sX c=(runN 2 10 (yC c)):=by unfold sX;rfl
noncomputable def vD (number:Int) (many:Int):Option (List Str):=
 b_ ((1:Int)+((number/(2:Int))%(8:Int))) fun size=>
 (jC (0:Int) many).bind fun r=>
 (dW (fun k dO=>
 b_ (if (decide ((number%(2:Int))=(1:Int)))=true then((1:Int)+((size+k)%(8:Int))) else size) fun length=>
 (jC (0:Int) length).bind fun r1=>
 (gK (fun at_=>some true) (fun at_=>(strAt ("abcdefghijklmnopqrstuvwxyz":Str) (((number/(7:Int))+at_)%(26:Int))).bind fun v=>some v) r1).bind fun name=>
 (jR (number/(16:Int)) size).bind fun v1=>
 (jR v1 length).bind fun spot=>
 (strAt ("abcdefghijklmnopqrstuvwxyz":Str) (((number/(128:Int))+k)%(26:Int))).bind fun v2=>
 (oY name spot v2).bind fun name1=>
 (A_ ("":Str) name1).bind fun v3=>
 (xr dO v3).bind fun Kf=>
 some Kf) r ([]:List Str)).bind fun Kg=>
 some Kg
theorem T5 {c:CL} {number:Int} {many:Int} {h:List Ob} {v:List Str}  (e:vD number many=some v):sX c [.d (D.int number),.d (D.int many)] h=some (outD (vL D.str) h v):=by
 rw[JR]
 exact fn_of (p:=[(0,some (.v (.d (D.int number)))),(1,some (.v (.d (D.int many)))),(2,some .no),(3,some .no),(4,some .no),(5,some .no),(6,some .no),(7,some .no),(8,some .no),(9,some .no)]) (jr rfl rfl) rfl  (show J (jQ (outD (vL D.str) h)) 10 (yC c) _ h (vD number many) from
 dH aJ rfl rfl (oX (V:=fun x=>.d (D.int x)) (aG aJ (aG (aG (iK (aO (ao rfl) bf)) aJ (qp rfl)) aJ (lH rfl)) iJ) rfl rfl fun size=>
 zW (wj bf rfl rfl) rfl (aX fun r pB=>
 zX (α:=(List Str)) (pre:=fun dO=>[(4,some (.own (.lst (dO.map D.str)))),(5,none),(6,none),(7,none),(8,none)]) (hp:=fun dO=>h) (a0:=([]:List Str)) (qu pB (aO (ao rfl) bf)) (dX rfl (bL (bL (bL (bL cW))))) (lX rfl (fun _=>rfl)) (fun k dO=>
 dH (ao rfl) rfl rfl (Hr (α:=Int) (pre:=fun length=>[(6,some (.v (.d (D.int length))))]) (hp:=fun length=>h) (d_ (aG (aG (iK (aO (ao rfl) bf)) aJ (lH rfl)) aJ Oe)) (dH (aG aJ (aG (aG (ao rfl) (ao rfl) iJ) aJ (lH rfl)) iJ) rfl rfl (jM (dX rfl (n_ rfl cW)) rfl)) (jM (dX rfl cW) rfl) fun length=>
 aX fun r1 IV=>
 aX fun name YZ=>
 zW (Qh (W:=D.str) YZ (qu IV (aO (ao rfl) bf)) (vs1 rfl) (Bf rfl (fun _=>rfl)) (fun at_=>Ad) (fun at_=>(jw fun v jG=>(eo_some (aG (ao rfl) (aG (iK (aO (aG (aG (ao rfl) aJ (qp rfl)) (ao rfl) iJ) bf)) aJ (lH rfl)) (Oh jG)))))) rfl (aX fun v1 jD=>
 aX fun spot Y0=>
 dH (aG (aG (iK (aO (aG (ao rfl) aJ (qp rfl)) bf)) (ao rfl) (tM jD)) (ao rfl) (tM Y0)) rfl rfl (aX fun v2 rH=>
 Yz (V:=D.str) (aG (ao rfl) (aG (iK (aO (aG (aG (ao rfl) aJ (qp rfl)) (ao rfl) iJ) bf)) aJ (lH rfl)) (Oh rH)) (ao rfl) rfl rfl rfl fun name1=>
 aX fun v3 uP=>
 Qg (V:=D.str) rfl (Wz uP aJ (abd rfl) (abf rfl)) rfl rfl fun Kf=>
 vP (dX rfl (bL (bL (bL (bL (j9 12 rfl rfl)))))) rfl)))) fun Kg=>
 fQ (Oc rfl rfl rfl) fun s m=>rfl))) e
section
variable {α β γ ι ρ:Type}
theorem FW {e:Err} {inj:Err→ρ} {k:α→Option ρ}:mW (some (.error e)) inj k=some (inj e):=rfl
theorem M5 {xs:List α} {x:α} (h:xs.length<16000000):xr xs x=some (xs++[x]):=if_pos h
theorem W4 {xs ys:List α} (h:xs.length+ys.length≤16000000):Bw xs ys=some (xs++ys):=if_pos h
theorem tQ {i j:Int} (h:0<j):jR i j=some (i%j):=if_pos h
theorem W6 {i j:Int} (h:-(2 ^ 64)<j∧j<2 ^ 64):Bx i j=some (i*j):=if_pos (.inr h)
theorem W7 {s:Str} (h:s.length≤16000000):Iw s=some (s.length:Int):=if_pos h
theorem M6 {lo hi:Int} (h:(-1000000000≤lo∧lo≤1000000000)∧-1000000000≤hi∧hi≤1000000000):jC lo hi=some (rng lo hi):=if_pos h
theorem abg (n:Nat):rng 0 (n:Int)=(List.range n).map fun(i:Nat)=>(i:Int):=by unfold rng;simp
theorem Bh {n:Nat} (h:n≤1000000000):jC 0 (n:Int)=some ((List.range n).map fun(i:Nat)=>(i:Int)):=by rw[M6 (by omega),abg]
theorem M7 {lo hi:Int}:(rng lo hi).length=(hi-lo).toNat:=by simp[rng]
theorem Lq {f:ι→α→Option α} {a:α}:dW f [] a=some a:=rfl
theorem vH {f:ι→α→Option α} {y:ι} {ys:List ι} {a:α}:dW f (y::ys) a=(f y a).bind (dW f ys):=rfl
theorem Lr {f:ι→α→Option α} (I:List ι→α→Prop) {ys:List ι} {a:α} (h0:I [] a) (hs:∀done y rest b,ys=done++y::rest→I done b→∃b',f y b=some b'∧I (done++[y]) b'):∃b,dW f ys a=some b∧I ys b:=by
 have key:∀(rest done:List ι) (b:α),ys=done++rest→I done b→∃b',dW f rest b=some b'∧I ys b':=by
  intro rest
  induction rest with
  | nil=>intro done b e hb;rw[List.append_nil] at e;subst e;exact⟨b,rfl,hb⟩
  | cons y rest ih=>
   intro done b e hb
   obtain⟨b1,h1,h2⟩:=hs done y rest b e hb
   obtain⟨b2,h3,h4⟩:=ih (done++[y]) b1 (by rw[e];simp) h2
   exact⟨b2,by rw[vH,h1];exact h3,h4⟩
 exact key ys [] a rfl h0
theorem Ls {f:ι→List α→Option (List α)} {g:ι→α}:∀{ys:List ι} {acc:List α},acc.length+ys.length≤16000000→(∀y∈ys,∀acc:List α,acc.length<16000000→f y acc=some (acc++[g y]))→dW f ys acc=some (acc++ys.map g)
 | [],acc,_,_=>by simp[Lq]
 | y::ys,acc,hl,h=>by
  simp only[List.length_cons] at hl
  rw[vH,h y (by simp) acc (by omega)]
  show dW f ys (acc++[g y])=_
  rw[Ls (by simp;omega) fun z hz b=>h z (by simp[hz]) b];simp
theorem Lw {c:ι→Option Bool} {f:ι→Option β} {g:ι→β}:∀{ys:List ι},(∀y∈ys,c y=some true)→(∀y∈ys,f y=some (g y))→jT c f ys=some (ys.map g)
 | [],_,_=>rfl
 | y::ys,hc,hf=>by
  unfold jT
  rw[hc y (by simp),hf y (by simp)]
  simp only[Option.bind_some,if_true,Lw (ys:=ys) (fun z hz=>hc z (by simp[hz])) fun z hz=>hf z (by simp[hz])];rfl
theorem Gx {c:ι→Option Bool} {f:ι→Option β} {g:ι→β} {ys:List ι} (hl:ys.length≤16000000) (hc:∀y∈ys,c y=some true) (hf:∀y∈ys,f y=some (g y)):gK c f ys=some (ys.map g):=by unfold gK;rw[if_pos hl];exact Lw hc hf
theorem Gy {f:ι→α→Option (Ct α ρ)} {y:ι} {ys:List ι} {a b:α} (h:f y a=some (.nx b)):cA f (y::ys) a=cA f ys b:=by
 conv=>lhs;unfold cA
 rw[h]
theorem zB {f:ι→α→Option (Ct α ρ)} {y:ι} {ys:List ι} {a:α} {v:ρ} (h:f y a=some (.rt v)):cA f (y::ys) a=some (.rt v):=by unfold cA;rw[h]
theorem W8 {f:ι→α→Option (Ct α ρ)} {y:ι} {ys:List ι} {a b:α} (h:f y a=some (.bk b)):cA f (y::ys) a=some (.nx b):=by unfold cA;rw[h]
end
theorem qW {α:Type} {xs:List α} {i:Nat}:atI xs (i:Int)=xs[i]?:=by
 cases h:xs[i]? with
 | some x=>exact at_of (by omega) (by simpa using h)
 | none=>
  have:xs.length≤i:=List.getElem?_eq_none_iff.mp h
  unfold atI ixN
  rw[if_pos (by omega),if_neg (by omega)];rfl
def uQ (f:Nat→Int) (n:Nat):List Int:=(List.range n).map f
theorem zE {f:Nat→Int} {n:Nat} {i:Int} (h0:0≤i) (h1:i<n):atI (uQ f n) i=some (f i.toNat):=at_of h0 (by unfold uQ;rw[List.getElem?_map,List.getElem?_range (by omega)];rfl)
def Drawn (f:Nat→Int):Prop:=∀i,0≤f i∧f i<10000000
theorem Ly (sc:List Int) (k many:Nat) (hm:many≤100000):∃f,Drawn f∧mF sc (k:Int) (many:Int)=some (uQ f many):=by
 suffices ∃ws:List Int,ws.length=many∧(∀w∈ws,0≤w∧w<10000000)∧mF sc (k:Int) (many:Int)=some ws by
  obtain⟨ws,h1,h2,h3⟩:=this
  refine⟨fun i=>ws.getD i 0,fun i=>?_,?_⟩
  ·show 0≤ws.getD i 0∧ws.getD i 0<10000000
   rw[List.getD_eq_getElem?_getD]
   cases q:ws[i]? with
   | none=>exact⟨by decide,by decide⟩
   | some w=>exact h2 w (List.mem_of_getElem? q)
  ·rw[h3]
   congr 1
   refine List.ext_getElem? fun i=>?_
   unfold uQ
   rw[List.getElem?_map]
   by_cases hi:i<many
   ·rw[List.getElem?_range hi,List.getElem?_eq_getElem (by omega)]
    simp[List.getD_eq_getElem?_getD,List.getElem?_eq_getElem (show i<ws.length by omega)]
   ·rw[List.getElem?_eq_none (by omega),List.getElem?_eq_none (by simp;omega)];rfl
 unfold mF
 have hcell:∃cell,(if (decide ((k:Int)<(sc.length:Int)))=true then(atI sc (k:Int)).bind fun v=>some v else some (0:Int))=some cell:=by
  by_cases hk:k<sc.length
  ·rw[if_pos (by simpa using hk)]
   exact⟨sc[k],by rw[qW,List.getElem?_eq_getElem hk];rfl⟩
  ·exact⟨0,by rw[if_neg (by simpa using hk)]⟩
 obtain⟨cell,hc⟩:=hcell
 rw[hc]
 simp only[Option.bind_some,b_]
 have hl:∃left,atI [cell+((7919:Int)*k),cell-((10:Int) ^ (18:Int).toNat)] (if (decide (((10:Int) ^ (18:Int).toNat)≤cell))=true then(1:Int) else 0)=some left:=by
  split
  ·exact⟨_,rfl⟩
  ·exact⟨_,rfl⟩
 obtain⟨left,hl⟩:=hl
 rw[hl,Bh (by omega)]
 simp only[Option.bind_some]
 obtain⟨b,h1,h2⟩:=Lr (f:=fun at_ (s_:Int×List Int)=>(xr s_.2 ((if (!decide (((10:Int) ^ (18:Int).toNat)≤cell))=true then(((((((s_.1*(48271:Int))+((11:Int)*at_))+(7:Int))%(2147483647:Int))*(69621:Int))+((5:Int)*at_))+(3:Int))%(2147483647:Int) else s_.1)%(10000000:Int))).bind fun lG=>some ((if (decide (((10:Int) ^ (18:Int).toNat)≤cell))=true then(if (!decide (((10:Int) ^ (18:Int).toNat)≤cell))=true then(((((((s_.1*(48271:Int))+((11:Int)*at_))+(7:Int))%(2147483647:Int))*(69621:Int))+((5:Int)*at_))+(3:Int))%(2147483647:Int) else s_.1)/(10000000:Int) else(if (!decide (((10:Int) ^ (18:Int).toNat)≤cell))=true then(((((((s_.1*(48271:Int))+((11:Int)*at_))+(7:Int))%(2147483647:Int))*(69621:Int))+((5:Int)*at_))+(3:Int))%(2147483647:Int) else s_.1)),lG)) (ys:=(List.range many).map fun(i:Nat)=>(i:Int)) (a:=(left,([]:List Int))) (fun done b=>b.2.length=done.length∧∀w∈b.2,0≤w∧w<10000000) ⟨rfl,by simp⟩ (by
  intro done y rest b e hb
  have hd:done.length<16000000:=by have:=congrArg List.length e;simp at this;omega
  refine⟨_,by rw[M5 (by rw[hb.1];exact hd)];rfl,?_,?_⟩
  ·simp[hb.1]
  ·intro w hw
   simp only[List.mem_append,List.mem_singleton] at hw
   rcases hw with hw|rfl
   ·exact hb.2 w hw
   ·omega)
 rw[h1]
 exact⟨b.2,by rw[h2.1];simp,h2.2,rfl⟩
theorem KQ (j:Int):strAt ("abcdefghijklmnopqrstuvwxyz":Str) (j%26)=some ⟨#[lu j]⟩:=by
 unfold strAt
 rw[if_pos (by trivial)]
 have:atI (Str.ofString "abcdefghijklmnopqrstuvwxyz").cps.toList (j%26)=some (lu j):=Uj (Int.emod_nonneg _ (by omega)) (Int.emod_lt_of_pos _ (by omega))
 rw[this];rfl
theorem Oo {n:Nat} {i:Int} (h0:0≤i) (h1:i<n):ixN n i=some i.toNat:=by unfold ixN;rw[if_pos h0,if_pos h1]
theorem M8:∀l:List Nat,((l.map fun c=>(⟨#[c]⟩:Str)).map (·.length)).sum=l.length
 | []=>rfl
 | c::l=>by simp only[List.map_cons,List.sum_cons,M8 l,List.length_cons];show 1+_=_;omega
theorem Um (n:Int) (many:Nat) (hm:many≤100000):vD n (many:Int)=some (fO n many):=by
 unfold vD
 simp only[b_]
 rw[Bh (by omega)]
 simp only[Option.bind_some]
 rw[Ls (g:=fun k=>nm n k) (by simp;omega) ?_]
 ·simp only[Option.bind_some,List.nil_append,List.map_map];rfl
 ·intro k hk acc hacc
  have hl:=tE n k
  have hs:=Km n
  have e0:(if (decide ((n%(2:Int))=(1:Int)))=true then(1:Int)+(((1:Int)+((n/(2:Int))%(8:Int))+k)%(8:Int)) else(1:Int)+((n/(2:Int))%(8:Int)))=g8 n k:=by
   unfold g8 mJ
   by_cases q:n%2=1<;>simp[q]
  rw[e0,M6 (by omega)]
  simp only[Option.bind_some]
  rw[Gx (g:=fun a=>(⟨#[lu (n/7+a)]⟩:Str)) (by rw[M7];omega) (fun _ _=>rfl) (fun a _=>by rw[KQ];rfl)]
  simp only[Option.bind_some]
  have e1:(1:Int)+n/2%8=mJ n:=rfl
  rw[e1,tQ (by omega)]
  simp only[Option.bind_some]
  rw[tQ (by omega),KQ]
  simp only[Option.bind_some]
  have hsp:=Ko n k
  have e2:n/16%mJ n%g8 n k=mK n k:=rfl
  rw[e2]
  have e3:oY ((rng 0 (g8 n k)).map fun a=>(⟨#[lu (n/7+a)]⟩:Str)) (mK n k) ⟨#[lu (n/128+k)]⟩=some ((iH n k).map fun c=>(⟨#[c]⟩:Str)):=by
   unfold oY
   rw[Oo hsp.1 (by simp[M7];omega)]
   simp only[Option.map_some]
   congr 1
   have:((rng 0 (g8 n k)).map fun a=>(⟨#[lu (n/7+a)]⟩:Str))=(tW n k).map fun c=>(⟨#[c]⟩:Str):=by
    unfold tW rng
    simp only[List.map_map,Int.sub_zero]
    refine List.map_congr_left fun a _=>?_
    simp
   rw[this]
   unfold iH
   rw[List.map_set]
  rw[e3]
  simp only[Option.bind_some]
  have e4:A_ ("":Str) ((iH n k).map fun c=>(⟨#[c]⟩:Str))=some (nm n k):=by
   unfold A_
   have h8:(iH n k).length≤8:=by rw[yI];omega
   rw[if_pos (by
    rw[M8]
    have:(("":Str).length)=0:=by decide +kernel
    rw[this];simp;omega)]
   congr 1
   exact Ul _
  rw[e4]
  simp only[Option.bind_some]
  rw[M5 hacc]
  rfl
theorem Ed (s:Str) (hl:s.length≤16000000):pQ s=some (iI s):=by
 unfold pQ
 rw[W7 hl]
 simp only[Option.bind_some]
 by_cases hc:1≤(s.length:Int)∧(s.length:Int)≤8
 ·rw[if_neg (by simp;omega)]
  have loop:∀cs:List Nat,cA (fun letter (s_:Unit)=>(Cq letter ("abcdefghijklmnopqrstuvwxyz":Str)).bind fun q=>if (!q)=true then some (Ct.rt false) else some (Ct.nx ())) (cs.map fun c=>(⟨#[c]⟩:Str)) ()=some (if (cs.all fun c=>decide (c∈letters.cps.toList))=true then .nx () else .rt false):=by
   intro cs
   induction cs with
   | nil=>rfl
   | cons c cs ih=>
    have h1:Cq (⟨#[c]⟩:Str) ("abcdefghijklmnopqrstuvwxyz":Str)=some (decide (c∈letters.cps.toList)):=rfl
    rw[List.map_cons]
    by_cases hm:c∈letters.cps.toList
    ·rw[Gy (b:=()) (by rw[h1];simp only[Option.bind_some,hm,decide_true];rfl),ih,List.all_cons,decide_eq_true hm,Bool.true_and]
    ·rw[zB (v:=false) (by rw[h1];simp only[Option.bind_some,hm,decide_false];rfl),List.all_cons,decide_eq_false hm];rfl
  have e1:signs s=s.cps.toList.map fun c=>(⟨#[c]⟩:Str):=rfl
  rw[e1,loop]
  unfold iI
  cases hn:(s.cps.toList.all fun c=>decide (c∈letters.cps.toList)) with
  | true=>simp[hc,eE]
  | false=>simp[eE]
 ·rw[if_pos (by simp;omega)]
  unfold iI
  have:(decide (1≤(s.length:Int))&&decide ((s.length:Int)≤8))=false:=by simp;omega
  rw[this];rfl
theorem Af (n k:Int):(nm n k).length≤16000000∧dU (.str (nm n k)):=by
 have h:=tE n k
 have hl:=NQ n k
 have hr:=PySem.StrLaws.reprText_len (nm n k) (fun c hc=>by
  rw[vX] at hc
  have:=Ey hc
  rw[yH,List.mem_map] at this
  obtain⟨a,ha,rfl⟩:=this
  have:=List.mem_range.mp ha
  omega)
 exact⟨by omega,by show (reprText _).length≤1000000;omega⟩
theorem zF {i:Int} (h:-10000000000≤i∧i≤10000000000):dU (.int i):=by
 show i.natAbs.log2<1920
 have h1:i.natAbs≤10000000000:=by omega
 by_cases h0:i.natAbs=0
 ·rw[h0];decide
 ·have:=(Nat.log2_lt h0 (k:=1920)).mpr (Nat.lt_of_le_of_lt h1 (Nat.lt_of_lt_of_le (show 10000000000<2 ^ 34 by decide) (Nat.pow_le_pow_right (by decide) (by decide))))
  exact this
theorem yW (n k:Int):PyData.strOk (nm n k)=true:=by
 unfold PyData.strOk
 rw[← Array.all_toList,vX,List.all_eq_true]
 intro c hc
 have h:=Ey hc
 rw[yH,List.mem_map] at h
 obtain⟨a,ha,rfl⟩:=h
 have:=List.mem_range.mp ha
 simp;omega
mutual
theorem Lz:∀d:D,bA d=true→dN d d=true
 | .non,_=>by simp[dN]
 | .bl _,_=>by simp[dN]
 | .int _,_=>by simp[dN]
 | .str _,_=>by simp[dN]
 | .lst xs,h=>by unfold dN;exact Fj xs (by unfold bA at h;exact h)
 | .tup xs,h=>by unfold dN;exact Fj xs (by unfold bA at h;exact h)
 | .cM _,h=>by simp[bA] at h
 | .ref _,h=>by simp[bA] at h
 | .ty _,h=>by simp[bA] at h
 | .aM _ _,h=>by simp[bA] at h
 | .dct _ _,h=>by simp[bA] at h
 | .ins _ _ _,h=>by simp[bA] at h
 | .exc _ _ _ _ _,h=>by simp[bA] at h
theorem Fj:∀ds:List D,fP ds=true→kY ds ds=true
 | [],_=>by simp[kY]
 | d::ds,h=>by
  unfold fP at h
  rw[Bool.and_eq_true] at h
  unfold kY
  rw[Lz d h.1,Fj ds h.2];rfl
end
def Cm (n:Nat) (d:D):Prop:=bA d=true∧dep d≤n
theorem Cm.ok {n:Nat} {d:D} (h:Cm n d) (hn:n≤64):fu d=true:=by unfold fu;rw[h.1,Bool.true_and,decide_eq_true_eq];exact Nat.le_trans h.2 hn
theorem Oq {n:Nat} {i:Int}:Cm n (.int i):=⟨by simp[bA],by simp[dep]⟩
theorem Y4 {n:Nat}:Cm n .non:=⟨by simp[bA],by simp[dep]⟩
theorem Ag {n:Nat} {s:Str} (h:PyData.strOk s=true):Cm n (.str s):=⟨by simpa [bA] using h,by simp[dep]⟩
theorem xW {n:Nat}:∀{ds:List D},(∀d∈ds,Cm n d)→fP ds=true∧m7 ds≤n
 | [],_=>⟨by simp[fP],by simp[m7]⟩
 | d::ds,h=>by
  have h1:=h d (by simp)
  have h2:=xW (ds:=ds) fun e he=>h e (by simp[he])
  exact⟨by unfold fP;rw[h1.1,h2.1];rfl,by unfold m7;exact Nat.max_le.mpr ⟨h1.2,h2.2⟩⟩
theorem Ou {n:Nat} {ds:List D} (h:∀d∈ds,Cm n d):Cm (n+1) (.lst ds):=⟨by unfold bA;exact(xW h).1,by unfold dep;have:=(xW h).2;omega⟩
theorem Y5 {n:Nat} {ds:List D} (h:∀d∈ds,Cm n d):Cm (n+1) (.tup ds):=⟨by unfold bA;exact(xW h).1,by unfold dep;have:=(xW h).2;omega⟩
theorem Cm.mono {n m:Nat} {d:D} (h:Cm n d) (hm:n≤m):Cm m d:=⟨h.1,Nat.le_trans h.2 hm⟩
theorem vK {n:Nat} {d:D} (h:Cm n d) (hn:n≤64):lA d d=some true:=by
 unfold lA
 rw[if_pos (by rw[h.ok hn];simp),Lz d h.1]
section
variable {α β:Type} [DecidableEq β]
theorem yX:∀{xs:List (β×α)} {p:β×α},(xs.map (·.1)).Nodup→p∈xs→fJ xs p.1=some p.2
 | [],p,_,h=>by simp at h
 | x::xs,p,hn,h=>by
  unfold fJ
  rw[List.map_cons,List.nodup_cons] at hn
  rw[List.find?_cons]
  rcases List.mem_cons.mp h with rfl|h
  ·simp
  ·have:¬x.1=p.1:=fun z=>hn.1 (by rw[z];exact List.mem_map.mpr ⟨p,h,rfl⟩)
   simp only[this,decide_false]
   exact yX hn.2 h
theorem LC {xs:List (β×α)} {k:β} {v:α} (h:k∉xs.map (·.1)):jh xs k v=xs++[(k,v)]:=by unfold jh;rw[if_neg h]
theorem yZ {xs:List (β×α)} {k:β} {v:α} (h:xs.length<16000000):jy xs k v=some (jh xs k v):=if_pos h
end
def lJ (b:Int):List (Str×Int)→Option Err
 | []=>none
 | p::ps=>if iI p.1=false then some ⟨.BadName,[.str p.1]⟩ else if p.2<0∨b≤p.2 then some ⟨.BadNumber,[.int p.2]⟩ else lJ b ps
def Ah (b:Int) (ps:List (Str×Int)):Option Err:=if b<2∨10<b then some ⟨.BadNumber,[.int b]⟩ else if 100<b ^ ps.length then some ⟨.TooLarge,[.int 100]⟩ else lJ b ps
def aau (ps:List (Str×Int)):Prop:=∀p∈ps,dU (.str p.1)∧dU (.int p.2)∧p.1.length≤16000000
def abh {α:Type} (e:Option Err) (a:α):Except Err α:=match e with
 | none=>.ok a
 | some e=>.error e
theorem LK {ι:Type} {b:Int} (hb:2≤b∧b≤10):∀(ys:List ι) (m:Int),dW (fun _ contents=>(Bx contents b).bind fun yP=>some yP) ys m=some (m*b ^ ys.length)
 | [],m=>by simp[Lq]
 | y::ys,m=>by
  rw[vH,W6 (by omega)]
  show dW _ ys (m*b)=_
  rw[LK hb ys,List.length_cons,Int.pow_succ,Int.mul_assoc,Int.mul_comm b]
theorem Tf {b:Int} {ps:List (Str×Int)} (hn:(ps.map (·.1)).Nodup) (hp:aau ps) (hz:ps.length≤1000) (hb:dU (.int b)):nR b ps=some (abh (Ah b ps) ⟨b,ps⟩):=by
 unfold nR Ah
 by_cases h1:b<2∨10<b
 ·rw[if_pos (by simp;omega),if_pos h1,qH hb];rfl
 rw[if_neg (by simp;omega),if_neg h1,LK (by omega)]
 simp only[Option.bind_some,List.length_map,Int.one_mul]
 by_cases h2:100<b ^ ps.length
 ·rw[if_pos (by simpa using h2),if_pos h2,qH (zF (by omega))];rfl
 rw[if_neg (by simpa using h2),if_neg h2]
 have key:∀(rest done:List (Str×Int)),ps=done++rest→cA (fun name1 numbers=>(pQ name1).bind fun v=>if (!v)=true then iV (D.str name1) (Ct.rt (Except.error (ε:=Err) (α:=bU) ⟨.BadName,[(D.str name1)]⟩)) else(fJ ps name1).bind fun v1=>if (!(decide ((0:Int)≤v1)&&decide (v1<b)))=true then iV (D.int v1) (.rt (.error ⟨.BadNumber,[(D.int v1)]⟩)) else(jy numbers name1 v1).bind fun mG=>some (.nx mG)) (rest.map (·.1)) done=some (match lJ b rest with
   | none=>.nx ps
   | some e=>.rt (.error e)):=by
  intro rest
  induction rest with
  | nil=>intro done e;rw[List.append_nil] at e;subst e;rfl
  | cons p rest ih=>
   intro done e
   have hm:p∈ps:=by rw[e];simp
   obtain⟨q1,q2,q3⟩:=hp p hm
   rw[List.map_cons]
   by_cases g1:iI p.1=false
   ·rw[zB (v:=.error ⟨.BadName,[.str p.1]⟩) (by rw[Ed _ q3,g1];simp only[Option.bind_some];rw[if_pos (by rfl),qH q1])]
    unfold lJ;rw[if_pos g1]
   ·have g1':iI p.1=true:=by cases h:iI p.1 with
     | true=>rfl
     | false=>exact absurd h g1
    by_cases g2:p.2<0∨b≤p.2
    ·rw[zB (v:=.error ⟨.BadNumber,[.int p.2]⟩) (by rw[Ed _ q3,g1'];simp only[Option.bind_some];rw[if_neg (by simp),yX hn hm];simp only[Option.bind_some];rw[if_pos (by simp;omega),qH q2])]
     unfold lJ;rw[if_neg g1,if_pos g2]
    ·have hnew:p.1∉done.map (·.1):=by
      rw[e,List.map_append,List.map_cons,List.nodup_append] at hn
      exact fun hm=>hn.2.2 _ hm _ (by simp) rfl
     have hl:done.length<16000000:=by have:=congrArg List.length e;simp at this;omega
     rw[Gy (b:=done++[p]) (by rw[Ed _ q3,g1'];simp only[Option.bind_some];rw[if_neg (by simp),yX hn hm];simp only[Option.bind_some];rw[if_neg (by simp;omega),yZ hl,LC hnew];rfl)]
     rw[ih (done++[p]) (by rw[e];simp)]
     conv=>rhs;unfold lJ
     rw[if_neg g1,if_neg g2]
 have k0:=key ps [] rfl
 have e0:∀x,x=cA (fun name1 numbers=>(pQ name1).bind fun v=>if (!v)=true then iV (D.str name1) (Ct.rt (Except.error (ε:=Err) (α:=bU) ⟨.BadName,[(D.str name1)]⟩)) else(fJ ps name1).bind fun v1=>if (!(decide ((0:Int)≤v1)&&decide (v1<b)))=true then iV (D.int v1) (.rt (.error ⟨.BadNumber,[(D.int v1)]⟩)) else(jy numbers name1 v1).bind fun mG=>some (.nx mG)) (ps.map (·.1)) []→x=some (match lJ b ps with
   | none=>.nx ps
   | some e=>.rt (.error e)):=fun x hx=>hx.trans k0
 rw[k0]
 cases lJ b ps<;>rfl
end TY
set_option maxHeartbeats 2000000
namespace TY
open PySem L2 DL AL PyProof.Rows
abbrev Pt:=Int ⊕ Str
def pD:Pt→D
 | .inl i=>.int i
 | .inr s=>.str s
abbrev wD (w:List Pt):D:=.tup (w.map pD)
inductive Gd where
 | no|short (gs:List D)|full (l sg:Str) (w:List Pt)
def gD:Gd→D
 | .no=>.non
 | .short gs=>.tup gs
 | .full l sg w=>.tup [.str l,.str sg,wD w]
inductive St where
 | read (l c:Str) (g:Gd)|write (c:Str) (w:List Pt) (g:Gd)|swap (l c:Str) (w:List Pt) (g:Gd)|cas (l c:Str) (o w:List Pt) (g:Gd)|give (w:List Pt) (g:Gd)
def sD:St→D
 | .read l c g=>.tup [.str "read",.str l,.str c,gD g]
 | .write c w g=>.tup [.str "write",.str c,wD w,gD g]
 | .swap l c w g=>.tup [.str "swap",.str l,.str c,wD w,gD g]
 | .cas l c o w g=>.tup [.str "cas",.str l,.str c,wD o,wD w,gD g]
 | .give w g=>.tup [.str "give",wD w,gD g]
def St.g:St→Gd
 | .read _ _ g=>g|.write _ _ g=>g|.swap _ _ _ g=>g|.cas _ _ _ _ g=>g|.give _ g=>g
def Gd.ws:Gd→List (List Pt)
 | .full _ _ w=>[w]
 | _=>[]
def Gd.ls:Gd→List Str
 | .full l _ _=>[l]
 | _=>[]
def St.own:St→List (List Pt)
 | .read _ _ _=>[]|.write _ w _=>[w]|.swap _ _ w _=>[w]|.cas _ _ o w _=>[o,w]|.give w _=>[w]
def St.ws (s:St):List (List Pt):=s.own++s.g.ws
def ptN (w:List Pt):List Str:=w.filterMap fun p=>match p with|.inr s=>some s|.inl _=>none
def St.fst:St→List Str
 | .read l _ _=>[l]|.swap l _ _ _=>[l]|.cas l _ _ _ _=>[l]|_=>[]
def St.ls (s:St):List Str:=s.fst++s.g.ls++s.ws.flatMap ptN
def St.cell:St→Str
 | .read _ c _=>c|.write c _ _=>c|.swap _ c _ _=>c|.cas _ c _ _ _=>c|.give _ _=>""
def St.qI:St→Bool
 | .give _ _=>true|_=>false
def abj (w:List Pt):Bool:=(decide (1≤w.length)&&decide (w.length≤3))&&w.all fun p=>match p with|.inl i=>decide (0≤i)&&decide (i≤9)|.inr _=>true
def abk:Gd→Bool
 | .no=>true|.short _=>false|.full _ sg _=>decide (sg∈(["=","!","<"]:List Str))
def St.ok (s:St):Bool:=abk s.g&&s.ws.all abj&&s.ls.all iI&&(s.qI || iI s.cell)
theorem Qm {ι α β:Type} {P:α→Prop} {V:α→β} {f:ι→Option β}:∀(ys:List ι),(∀y∈ys,∃x,P x∧f y=some (V x))→∃xs:List α,xs.length=ys.length∧(∀x∈xs,P x)∧jT (fun _=>some true) f ys=some (xs.map V)
 | [],_=>⟨[],rfl,by simp,rfl⟩
 | y::ys,h=>by
  obtain⟨x,hx,e⟩:=h y (by simp)
  obtain⟨xs,h1,h2,h3⟩:=Qm ys fun z hz=>h z (by simp[hz])
  refine⟨x::xs,by simp[h1],fun z hz=>?_,?_⟩
  ·rcases List.mem_cons.mp hz with rfl|hz
   ·exact hx
   ·exact h2 z hz
  ·unfold jT
   rw[h3]
   simp[e]
theorem Y6 {ι α β:Type} {P:α→Prop} {V:α→β} {f:ι→Option β} {ys:List ι} (hl:ys.length≤16000000) (h:∀y∈ys,∃x,P x∧f y=some (V x)):∃xs:List α,xs.length=ys.length∧(∀x∈xs,P x)∧gK (fun _=>some true) f ys=some (xs.map V):=by
 obtain⟨xs,h1,h2,h3⟩:=Qm ys h
 exact⟨xs,h1,h2,by unfold gK;rw[if_pos hl,h3]⟩
end TY
set_option maxHeartbeats 2000000
namespace TY
open PySem L2 DL AL PyProof.Rows
end TY
set_option maxHeartbeats 2000000
namespace TY
open PySem L2 DL AL PyProof.Rows
structure RD where
 base:Int
 locals:List Str
 cells:List Str
 glue:List (Str×Int)
 kind:Int
 at_:Int
 starts:List Int
 strong:List Str
 ops:List (Str×(List D)×Int×Int)
end TY
set_option maxHeartbeats 2000000
namespace TY
open PySem L2 DL AL PyProof.Rows
end TY
set_option maxHeartbeats 2000000
namespace TY
open PySem L2 DL AL PyProof.Rows
section
variable {n i j k m:Nat} {p q p1 p2 px:En} {s:List Sv} {α β γ ρ ι:Type} {h h' h0 h1 h2 h3 tl:List Ob} {f g e fo fv:M R} {fa ga:M (List R)} {x y z r:R} {rs:List R} {u u1 u2 u3:List Sv→List Sv} {d:D} {ds es:List D} {o:Ob} {b b1 b2:Bool} {Fin:ρ→Rs→Prop} {A B:S} {V:α→D} {xs ys:List α} {a c:Int} {cl:CL} {t:Option ρ} {v:ρ} {Y Y':bU} {C:Addr} {fs:List Str} {F:Fn} {lkp:ST→Prop}
theorem qJ (H:h[m]?=some o):(h++tl)[m]?=some o:=by rw[List.getElem?_append_left (List.getElem?_eq_some_iff.mp H).1];exact H
theorem Y7 {fi:M R} {w:α} {hp:List α→List Ob} {t:List α→Option ρ} (hl:h[m]?=some (.lst (xs.map V))) (he:∀ys:List α,h.set m (.lst (ys.map V))=hp ys) (hv:EV n p h e (.d (V w)) id p h) (ho:EV n p h fo (.o m) id p h) (hi:EV n p h fi (.d (.int a)) id p h) (K:∀ys,J Fin n B p (hp ys) (t ys)):J Fin n (au (bB e (gS fo fi)) B) p h ((oY xs a w).bind t):=fun st mm v ev=>by
 obtain⟨ys,hy,ev⟩:=Option.bind_eq_some_iff.mp ev
 obtain⟨j,hj,rfl⟩:=Option.map_eq_some_iff.mp hy
 obtain⟨r,hr,hf⟩:=K _ _ mm v ev
 refine⟨r,gq (oV (hv st mm).1 ?_) hr,hf⟩
 show (fo.bind _) ⟨st,h⟩=_
 rw[bQ (show fo ⟨st,h⟩=some (.ok _ ⟨st,h⟩) from(ho st mm).1),bQ (show fi ⟨st,h⟩=some (.ok _ ⟨st,h⟩) from(hi st mm).1)]
 have e2:aU ⟨st,h⟩ (.o m)=some (.lst (xs.map V)):=hl
 rw[e2]
 have hj2:ixN (xs.map V).length a=some j:=by rw[List.length_map];exact hj
 simp only[Option.bind_some,lO,hj2,Option.map_some,jx]
 rw[← List.map_set,he]
theorem M9 {o:Option (Except Err bU)} {v:bU} {ix:Nat} (hv:vp o=some v) (hf:EV n p h fa rs u p1 h1) (hw:rs.all dZ=true) (hF:∀w,o=some w→IK cl cl.Memory F h1 rs (fun r=>fU cl (h1.length+1) r) w) (hix:h1.length=ix):EV n p h (eNew cl.Memory F [] fa) (.o ix) u p1 (h1++fU cl (ix+1) v):=fun s m=>⟨by
 subst hix
 have hw2:((.o h1.length:R)::(rs++([]:List D).map .d)).all dZ=true:=by rw[List.map_nil,List.append_nil,List.all_cons,hw];rfl
 have hO:F (.o h1.length::rs) (h1++[.ins cl.Memory [] []])=some (.ret (.d .non),h1++fU cl (h1.length+1) v):=hF _ (W3 hv)
 have:dR F (.o h1.length::(rs++([]:List D).map .d)) ⟨u s,h1++[.ins cl.Memory [] []]⟩=some (.ok (.d .non) ⟨u s,h1++fU cl (h1.length+1) v⟩):=by unfold dR;rw[if_pos hw2];simp only[List.map_nil,List.append_nil,hO]
 unfold eNew
 rw[bQ (hf s m).1,this],(hf s m).2⟩
end
end TY
set_option maxHeartbeats 2000000
namespace TY
open PySem L2 DL AL PyProof.Rows
end TY
namespace AL
open PySem L2 DL PyProof.Rows
end AL
namespace DL
open PySem L2 PyProof.Rows
section
variable {P:Program} {w:World} {K:PySem.W.Frag} {H:Hp} {h:Heap}
def KN:List NE→List (NestedKey×Addr×Value)→Prop:=Paired (fun(p:NE) (q:NestedKey×Addr×Value)=>p.1=q.1∧p.2.1=q.2.1∧RelV p.2.2 q.2.2)
def nval (kvs:List NE) (k:NestedKey):Option V:=(kvs.find? fun p=>decide (p.1=k)).map (·.2.2)
def Q8 (kvs:List NE) (k:NestedKey) (a:Addr) (v:V):List NE:=if (nval kvs k).isSome then kvs.map (fun p=>if p.1=k then(p.1,p.2.1,v) else p) else kvs++[(k,a,v)]
theorem KN.val {kvs:List NE} {xs:List (NestedKey×Addr×Value)} (r:KN kvs xs) (k:NestedKey):RelO (nval kvs k) ((atKey xs k).map (·.2)):=by
 induction r with
 | nil=>exact True.intro
 | @cons p q ps qs hq t ih=>
  unfold nval atKey at ih ⊢
  rw[List.find?_cons,List.find?_cons,← hq.1]
  by_cases z:p.1=k
  ·rw[show decide (p.1=k)=true from decide_eq_true z];exact hq.2.2
  ·rw[show decide (p.1=k)=false from decide_eq_false z];exact ih
theorem KN.isSome {kvs:List NE} {xs:List (NestedKey×Addr×Value)} (r:KN kvs xs) (k:NestedKey):(nval kvs k).isSome=(atKey xs k).isSome:=by
 have:=(r.val k).isSome_eq
 rw[Option.isSome_map] at this;exact this
theorem KN.put {kvs:List NE} {xs:List (NestedKey×Addr×Value)} (r:KN kvs xs) (k:NestedKey) (a:Addr) {v:V} {u:Value} (rv:RelV v u):KN (Q8 kvs k a v) (storedH xs k a u):=by
 unfold Q8 storedH
 rw[r.isSome k]
 by_cases q:(atKey xs k).isSome=true
 ·rw[if_pos q,if_pos q]
  clear q
  induction r with
  | nil=>exact .nil
  | @cons p q ps qs hq t ih=>
   refine .cons ?_ ih
   have e:putAt k u q=if p.1=k then(q.1,q.2.1,u) else q:=by unfold putAt;rw[← hq.1]
   rw[e]
   by_cases z:p.1=k
   ·simp only[if_pos z];exact⟨hq.1,hq.2.1,rv⟩
   ·simp only[if_neg z];exact hq
 ·rw[if_neg q,if_neg q];exact Paired.snoc r ⟨rfl,rfl,rv⟩
def Ov:NestedKey→Bool
 | .tup _=>true
 | _=>false
end
end DL
namespace AL
open PySem L2 DL PyProof.Rows
mutual
def dM:D→Option NestedKey
 | .non=>some .none
 | .int i=>some (.num i)
 | .str x=>some (.text x)
 | .tup ds=>(kW ds).map .tup
 | _=>none
def kW:List D→Option (List NestedKey)
 | []=>some []
 | d::ds=>(dM d).bind fun k=>(kW ds).map (k::·)
end
def Q9 (d:D):Option NestedKey:=(dM d).bind fun k=>if Ov k=true∧k.depth≤8 then some k else none
theorem W9 {d:D} {k:NestedKey} (h:Q9 d=some k):dM d=some k∧Ov k=true∧k.depth≤8:=by
 obtain⟨q,h1,h2⟩:=Option.bind_eq_some_iff.mp h
 obtain⟨h3,rfl⟩:=ite_some h2
 exact⟨h1,h3.1,h3.2⟩
end AL
namespace DL
open PySem L2 PyProof.Rows
end DL
namespace AL
open PySem L2 DL PyProof.Rows
end AL
namespace DL
open PySem L2 PyProof.Rows
end DL
namespace AL
open PySem L2 DL PyProof.Rows
def aav (n k:Nat):List R:=(List.range k).map fun i=>.o (n+i)
end AL
set_option maxHeartbeats 1000000
namespace DL
open PySem L2 PyProof.Rows
end DL
namespace AL
open PySem L2 DL PyProof.Rows
mutual
def sH:NestedKey→D
 | .none=>.non
 | .num i=>.int i
 | .text x=>.str x
 | .tup ks=>.tup (xH ks)
def xH:List NestedKey→List D
 | []=>[]
 | k::ks=>sH k::xH ks
end
mutual
theorem Ow:∀(d:D) (k:NestedKey),dM d=some k→sH k=d
 | .non,k,e=>by unfold dM at e;cases e;unfold sH;rfl
 | .int i,k,e=>by unfold dM at e;cases e;unfold sH;rfl
 | .str i,k,e=>by unfold dM at e;cases e;unfold sH;rfl
 | .tup ds,k,e=>by
  unfold dM at e
  obtain⟨ks,h,rfl⟩:=Option.map_eq_some_iff.mp e
  unfold sH
  rw[M_ ds ks h]
 | .bl _,k,e=>by unfold dM at e;cases e
 | .ref _,k,e=>by unfold dM at e;cases e
 | .ty _,k,e=>by unfold dM at e;cases e
 | .lst _,k,e=>by unfold dM at e;cases e
 | .cM _,k,e=>by unfold dM at e;cases e
 | .aM _ _,k,e=>by unfold dM at e;cases e
 | .dct _ _,k,e=>by unfold dM at e;cases e
 | .lg _ _ _,k,e=>by unfold dM at e;cases e
 | .ins _ _ _,k,e=>by unfold dM at e;cases e
 | .exc _ _ _ _ _,k,e=>by unfold dM at e;cases e
theorem M_:∀(ds:List D) (ks:List NestedKey),kW ds=some ks→xH ks=ds
 | [],ks,e=>by unfold kW at e;cases e;unfold xH;rfl
 | d::ds,ks,e=>by
  unfold kW at e
  obtain⟨k,h1,e⟩:=Option.bind_eq_some_iff.mp e
  obtain⟨ks',h2,rfl⟩:=Option.map_eq_some_iff.mp e
  unfold xH
  rw[Ow d k h1,M_ ds ks' h2]
end
end AL
set_option maxHeartbeats 2000000
namespace DL
open PySem L2 PyProof.Rows PySem.Spec
end DL
set_option maxHeartbeats 2000000
namespace AL
open PySem L2 DL PyProof.Rows
end AL
set_option maxHeartbeats 1000000
namespace AL
open PySem L2 DL PyProof.Rows
end AL
namespace DL
open PySem L2 PyProof.Rows
end DL
namespace AL
open PySem L2 DL PyProof.Rows
end AL
set_option maxHeartbeats 2000000
namespace DL
open PySem L2 PyProof.Rows PySem.W PySem.Calls
end DL
set_option maxHeartbeats 1000000
namespace AL
open PySem L2 DL PyProof.Rows
section
variable {K:PySem.W.Frag} {P:Program} {w:World} {mg:Str→Option Value} {base:Heap} {nm qual:Str} {st:Stmt} {f:Addr} {fd:FuncData} {N ps:List Str} {k:Nat} {g:S} {F':Fn}
theorem jH (F:dY K nm qual st f fd) (sc:FnScope N ps (defScope st)) (e:F'=AL.runN ps.length N.length g)
  (hbody:∀(cdv:Value) (A:Around) (outer:List Env) (s:Shared) (H:Hp) (bZ:XK) (hr:Room k (A.deeper (envOfC qual (defScope st) s.heap.objs.size f cdv))) (tk:Takes (cxOf (L2.CX P w) P w K mg base N qual (defScope st) f cdv A outer s H bZ) (fun cls d _ H=>bZ cls d H)) (po:PassesOwn (model (cxOf (L2.CX P w) P w K mg base N qual (defScope st) f cdv A outer s H bZ).prog (cxOf (L2.CX P w) P w K mg base N qual (defScope st) f cdv A outer s H bZ).w) (cxOf (L2.CX P w) P w K mg base N qual (defScope st) f cdv A outer s H bZ).A (cxOf (L2.CX P w) P w K mg base N qual (defScope st) f cdv A outer s H bZ).env (cxOf (L2.CX P w) P w K mg base N qual (defScope st) f cdv A outer s H bZ).xe),
   ∃t,PSs (cxOf (L2.CX P w) P w K mg base N qual (defScope st) f cdv A outer s H bZ) (defBody st) t∧XS K (fun cls d _ H=>bZ cls d H) t g) :
  FnOk P w K mg base (L2.CX P w) (k+1) f fd ps (bJ K F'):=by
 rw[e]
 exact fnF F sc _ (fun args h y e=>Wn e) fun cdv A outer s H bZ hr=>hbody cdv A outer s H bZ hr (takes_of rfl rfl rfl rfl) (passes_of rfl)
end
end AL
namespace L2
open PySem PyProof.Rows
end L2
namespace DL
open PySem L2 PyProof.Rows
end DL
namespace AL
open PySem L2 DL PyProof.Rows
end AL
namespace TY
open PySem L2 DL AL PyProof.Rows
structure vq {κ:Type} (V:κ→D) (dp:Nat):Prop where
 ok:∀a,∃k,dM (V a)=some k∧k.depth≤dp
 inj:∀a b,dM (V a)=dM (V b)→a=b
noncomputable def mj {κ:Type} (V:κ→D) (a:κ):NestedKey:=(dM (V a)).getD .none
section
variable {α β γ δ ε κ:Type} {V:κ→D} {A:α→D} {B:β→D} {C:γ→D} {E:δ→D} {F:ε→D} {d d1 d2 d3 d4 d5:Nat}
theorem vq.val (h:vq V d) (a:κ):dM (V a)=some (mj V a):=by
 obtain⟨k,e,_⟩:=h.ok a
 unfold mj;rw[e];rfl
theorem vq.dep (h:vq V d) (a:κ):(mj V a).depth≤d:=by
 obtain⟨k,e,l⟩:=h.ok a
 unfold mj;rw[e];exact l
theorem Uo {x:D} {xs:List D}:kW (x::xs)=(dM x).bind fun k=>(kW xs).map (k::·):=by conv=>lhs;unfold kW
theorem UW:kW []=some []:=by unfold kW;rfl
theorem Y8:NestedKey.depthAll []=0:=by unfold NestedKey.depthAll;rfl
theorem W_ {k:NestedKey} {ks:List NestedKey}:NestedKey.depthAll (k::ks)=max k.depth (NestedKey.depthAll ks):=by conv=>lhs;unfold NestedKey.depthAll
theorem vq.all (h:vq V d):∀xs:List κ,kW (xs.map V)=some (xs.map (mj V))∧NestedKey.depthAll (xs.map (mj V))≤d
 | []=>⟨UW,by rw[List.map_nil,Y8];exact Nat.zero_le _⟩
 | x::xs=>by
  obtain⟨h1,h2⟩:=h.all xs
  refine⟨by rw[List.map_cons,Uo,h.val,h1];rfl,?_⟩
  rw[List.map_cons,W_]
  exact Nat.max_le.mpr ⟨h.dep x,h2⟩
structure RG {κ:Type} (V:κ→D):Prop where
 kt:∀a,Q9 (V a)=some (mj V a)
 inj:∀a b,mj V a=mj V b→a=b
end
end TY
namespace AL
open PySem L2 DL PyProof.Rows
end AL
namespace TY
open PySem L2 DL AL PyProof.Rows
def IW {ι κ β:Type} [DecidableEq κ] (c:ι→Option Bool) (fk:ι→Option κ) (fv:ι→Option β):List ι→List (κ×β)→Option (List (κ×β))
 | [],a=>some a
 | y::ys,a=>(c y).bind fun b=>if b=true then(fk y).bind fun k=>(fv y).bind fun v=>IW c fk fv ys (jh a k v) else IW c fk fv ys a
def cI {ι κ β:Type} [DecidableEq κ] (c:ι→Option Bool) (fk:ι→Option κ) (fv:ι→Option β) (ys:List ι):Option (List (κ×β)):=if ys.length≤16000000 then IW c fk fv ys [] else none
end TY
set_option maxHeartbeats 1000000
namespace TY
open PySem L2 DL AL PyProof.Rows
section
variable {κ α β ρ ι:Type} [DecidableEq κ] {V:κ→D} {U:α→D} {U':β→D} {w:World} {n i j:Nat} {p q p1 p2:En} {h h1 h2:List Ob} {f g e:M R} {u u1 u2:List Sv→List Sv} {zs:List (κ×β)} {k:κ} {v:α} {Fin:ρ→Rs→Prop} {A B:S} {ds:List D}
theorem RG.back (hV:RG V) (a:κ):sH (mj V a)=V a:=Ow _ _ (W9 (hV.kt a)).1
end
end TY
set_option maxHeartbeats 1000000
namespace DL
open PySem L2 PyProof.Rows
end DL
namespace AL
open PySem L2 DL PyProof.Rows
end AL
namespace TY
open PySem L2 DL AL PyProof.Rows
section
variable {α β γ ρ ι:Type} {n i j m b:Nat} {p q p1 p2 p3:En} {s:List Sv} {h h1 h2 h3 t:List Ob} {f g e:M R} {fa:M (List R)} {r:R} {rs:List R} {u u1 u2:List Sv→List Sv} {ds:List D} {V:β→D} {Fin:ρ→Rs→Prop} {A B:S} {xss:List (List β)} {k:Int} {v:β} {lkp:ST→Prop}
structure I_ (V:β→D) (h:List Ob) (m b:Nat) (xss:List (List β)):Prop where
 o:h[m]?=some (.bO (aav b xss.length))
 l:∀(k:Nat) x,xss[k]?=some x→h[b+k]?=some (.lst (x.map V))
theorem Nb {o:Ob} (e:h[m]?=some o):(h++t)[m]?=some o:=by
 rw[List.getElem?_append_left (List.getElem?_eq_some_iff.mp e).1];exact e
theorem I_.app (L:I_ V h m b xss):I_ V (h++t) m b xss:=⟨Nb L.o,fun k x e=>Nb (L.l k x e)⟩
end
section
variable {α:Type} {n m:Nat} {a:Int} {p:En} {h:List Ob} {V:α→D} {xs:List α}
theorem Y9 {v:α} (hl:h[m]?=some (.lst (xs.map V))) (e:atI xs a=some v):KV n p h bF (.o m) (.d (.int a)) (.d (V v)):=fun s _=>by
 have h1:aU ⟨s,h⟩ (.o m)=some (.lst (xs.map V)):=hl
 have h2:atI (xs.map V) a=some (V v):=by rw[zm,e];rfl
 simp[bF,K2.or,jP,lV,bT,h1,h2]
end
end TY
set_option maxHeartbeats 1000000
namespace AL
open PySem L2 DL PyProof.Rows
end AL
namespace TY
open PySem L2 DL AL PyProof.Rows
section
variable {α:Type} {V:α→D} {h:List Ob} {n:Nat}
open Classical in
noncomputable def hL (V:α→D) (h:List Ob) (n:Nat):Option (List α):=if e:∃xs:List α,h[n]?=some (.lst (xs.map V)) then some e.choose else none
theorem Qn {xs:List α} (e:hL V h n=some xs):h[n]?=some (.lst (xs.map V)):=by
 unfold hL at e
 split at e
 ·rename_i q
  cases e
  exact q.choose_spec
 ·cases e
theorem map_inj {V:α→D} (hi:∀a b,V a=V b→a=b):∀{xs ys:List α},xs.map V=ys.map V→xs=ys
 | [],[],_=>rfl
 | [],_::_,e=>by cases e
 | _::_,[],e=>by cases e
 | x::xs,y::ys,e=>by
  rw[List.map_cons,List.map_cons] at e
  have h1:=hi _ _ (List.cons.inj e).1
  have h2:=map_inj hi (List.cons.inj e).2
  rw[h1,h2]
theorem Qo (hi:∀a b,V a=V b→a=b) {xs:List α} (e:h[n]?=some (.lst (xs.map V))):hL V h n=some xs:=by
 unfold hL
 have q:∃xs:List α,h[n]?=some (.lst (xs.map V)):=⟨xs,e⟩
 rw[dif_pos q]
 have h1:=e.symm.trans q.choose_spec
 have h2:xs.map V=q.choose.map V:=by injection (Option.some.inj h1)
 exact congrArg some (map_inj hi h2).symm
open Classical in
noncomputable def lB (V:α→D) (h:List Ob) (n:Nat):Option (List (Str×α)):=if e:∃zs:List (Str×α),h[n]?=some (.aM (kS zs) (dV V zs)) then some e.choose else none
theorem mQ {zs:List (Str×α)} (e:lB V h n=some zs):h[n]?=some (.aM (kS zs) (dV V zs)):=by
 unfold lB at e
 split at e
 ·rename_i q
  cases e
  exact q.choose_spec
 ·cases e
theorem Hf {V:α→D} (hi:∀a b,V a=V b→a=b):∀{xs ys:List (Str×α)},kS xs=kS ys→dV V xs=dV V ys→xs=ys
 | [],[],_,_=>rfl
 | [],_::_,e,_=>by cases e
 | _::_,[],e,_=>by cases e
 | (k,x)::xs,(l,y)::ys,e,f=>by
  have h1:k=l:=by have:=(List.cons.inj e).1;exact Sum.inr.inj this
  have h2:=hi x y (List.cons.inj f).1
  have h3:=Hf hi (List.cons.inj e).2 (List.cons.inj f).2
  rw[h1,h2,h3]
theorem Y_ (hi:∀a b,V a=V b→a=b) {zs:List (Str×α)} (e:h[n]?=some (.aM (kS zs) (dV V zs))):lB V h n=some zs:=by
 unfold lB
 have q:∃zs:List (Str×α),h[n]?=some (.aM (kS zs) (dV V zs)):=⟨zs,e⟩
 rw[dif_pos q]
 have h1:=e.symm.trans q.choose_spec
 injection (Option.some.inj h1) with h2 h3
 exact congrArg some (Hf hi h2 h3).symm
open Classical in
noncomputable def hO (h:List Ob) (n:Nat):Option (List Nat):=if e:∃xs:List Nat,h[n]?=some (.bO (xs.map R.o)) then some e.choose else none
theorem Qp:∀{xs ys:List Nat},xs.map R.o=ys.map R.o→xs=ys
 | [],[],_=>rfl
 | [],_::_,e=>by cases e
 | _::_,[],e=>by cases e
 | x::xs,y::ys,e=>by
  rw[List.map_cons,List.map_cons] at e
  have h1:x=y:=R.o.inj (List.cons.inj e).1
  have h2:=Qp (List.cons.inj e).2
  rw[h1,h2]
end
section
variable {ρ:Type} {Fin:ρ→Rs→Prop} {n:Nat} {B:S} {p:En}
theorem oG {X:List Ob} {t:List Ob→Option ρ} (K:∀x,J Fin n B p x (t x)):J Fin n B p X (b_ X t):=K X
end
def jJ:List Nat→Ob
 | []=>.lst []
 | x::xs=>.bO ((x::xs).map R.o)
theorem Xa:∀{xs ys:List Nat},jJ xs=jJ ys→xs=ys
 | [],[],_=>rfl
 | [],_::_,e=>by cases e
 | _::_,[],e=>by cases e
 | x::xs,y::ys,e=>by
  have:(x::xs).map R.o=(y::ys).map R.o:=by injection e
  exact Qp this
open Classical in
noncomputable def hQ (h:List Ob) (n:Nat):Option (List Nat):=if e:∃xs:List Nat,h[n]?=some (jJ xs) then some e.choose else none
theorem Bj {h:List Ob} {n:Nat} {xs:List Nat} (e:hQ h n=some xs):h[n]?=some (jJ xs):=by
 unfold hQ at e
 split at e
 ·rename_i q
  cases e
  exact q.choose_spec
 ·cases e
theorem uD {h:List Ob} {n:Nat} {xs:List Nat} (e:h[n]?=some (jJ xs)):hQ h n=some xs:=by
 unfold hQ
 have q:∃xs:List Nat,h[n]?=some (jJ xs):=⟨xs,e⟩
 rw[dif_pos q]
 have h1:=e.symm.trans q.choose_spec
 exact congrArg some (Xa (Option.some.inj h1)).symm
section
variable {α ρ:Type} {Fin:ρ→Rs→Prop} {n m:Nat} {p p1:En} {h h1:List Ob} {V:α→D} {B:S} {f fo fi e:M R} {fa:M (List R)} {u:List Sv→List Sv}
theorem Xb {k:Str} {zs:List (Str×α)} {v:α} (hl:h[m]?=some (.aM (kS zs) (dV V zs))) (e:fJ zs k=some v):KV n p h bF (.o m) (.d (.str k)) (.d (V v)):=fun s _=>by
 have h1:aU ⟨s,h⟩ (.o m)=some (.aM (kS zs) (dV V zs)):=hl
 exact Gp (by simp only[eX,h1]) (by simp only[bT,h1]) (fun _=>by unfold jP;rfl) rfl (G9 e)
theorem dcH {s:List Sv} {ks:List Key} {ds:List D} (hl:h[m]?=some (.aM ks ds)):eX ⟨s,h⟩ (.o m)=some (ks,ds)∧jd ⟨s,h⟩ (.o m)=none∧∀t,snap ⟨s,h⟩ (.o m)≠some (.str t):=by
 have h1:aU ⟨s,h⟩ (.o m)=some (.aM ks ds):=hl
 exact⟨by simp only[eX,h1],by show bT _ (.o m)=_;simp only[bT,h1],fun t z=>by have z:(aU ⟨s,h⟩ (.o m)).bind fY=_:=z;rw[h1] at z;cases z⟩
theorem Ai {xs:List Nat} {i:Int} {q:Nat} (hl:h[m]?=some (jJ xs)) (e:atI xs i=some q):KV n p h bF (.o m) (.d (.int i)) (.o q):=fun s _=>by
 cases xs with
 | nil=>
  exfalso
  unfold atI at e
  obtain⟨j,_,e2⟩:=Option.bind_eq_some_iff.mp e
  simp at e2
 | cons x xs=>
  have h1:aU ⟨s,h⟩ (.o m)=some (.bO ((x::xs).map R.o)):=hl
  have h2:atI ((x::xs).map R.o) i=some (R.o q):=by rw[zm,e];rfl
  have h3:qX ⟨s,h⟩ (.o m) (.d (.int i))=some (.o q):=by
   unfold qX
   simp only[AL.bO,h1,Option.bind_some];exact h2
  have e1:jP ⟨s,h⟩ (.o m) (.d (.int i))=none:=by unfold jP;rfl
  have e2:lV ⟨s,h⟩ (.o m) (.d (.int i))=none:=by unfold lV;simp only[bT,h1];rfl
  have e3:m9 ⟨s,h⟩ (.o m) (.d (.int i))=none:=by unfold m9;simp only[eX,h1];rfl
  unfold bF K2.or
  simp only[e1,e2,e3,h3]
  rfl
theorem Gz {zs:List (Str×α)} {k:Str} {w:α} {t:List (Str×α)→Option ρ} (hv:EV n p h e (.d (V w)) u p1 h1) (hl:h1[m]?=some (.aM (kS zs) (dV V zs))) (ho:EV n p1 h1 fo (.o m) id p1 h1) (hi:EV n p1 h1 fi (.d (.str k)) id p1 h1) (K:∀ys,J Fin n B p1 (h1.set m (.aM (kS ys) (dV V ys))) (t ys)):J Fin n (au (bB e (gS fo fi)) B) p h ((jy zs k w).bind t):=fun st mm v ev=>by
 obtain⟨ys,hy,ev⟩:=Option.bind_eq_some_iff.mp ev
 obtain⟨hlen,rfl⟩:=jF hy
 have m1:=(hv st mm).2
 obtain⟨r,hr,hf⟩:=K (jh zs k w) _ m1 v ev
 refine⟨r,gq (oV (hv st mm).1 ?_) hr,hf⟩
 show (fo.bind _) ⟨u st,h1⟩=_
 rw[bQ (show fo ⟨u st,h1⟩=some (.ok _ ⟨u st,h1⟩) from(ho _ m1).1),bQ (show fi ⟨u st,h1⟩=some (.ok _ ⟨u st,h1⟩) from(hi _ m1).1)]
 have e2:aU ⟨u st,h1⟩ (.o m)=some (.aM (kS zs) (dV V zs)):=hl
 rw[e2]
 have hk:keyD (.str k)=some (.inr k):=rfl
 have hlen2:(kS zs).length<16000000:=by rw[List.length_map];exact hlen
 simp only[Option.bind_some,lO,hk,if_pos hlen2,Option.map_some,jx]
 rw[(uz (V:=V) (v:=w)).1,uz.2]
end
def Q_ {β:Type} (V:β→D) (v:β×List Ob):Ot×List Ob:=(.ret (.d (V v.1)),v.2)
end TY
namespace TY
open PySem L2 DL AL PyProof.Rows
open Classical in
noncomputable def hM (c:CL) (h:List Ob) (n:Nat):Option (Nat×bU):=if e:∃x:Nat×bU,cY c h n x.1 x.2 then some e.choose else none
theorem oJ {c:CL} {h:List Ob} {n:Nat} {x:Nat×bU} (e:hM c h n=some x):cY c h n x.1 x.2:=by
 unfold hM at e
 split at e
 ·rename_i q
  cases e
  exact q.choose_spec
 ·cases e
theorem U0 {c:CL} {h:List Ob} {n m m':Nat} {r r':bU} (H:cY c h n m r) (H':cY c h n m' r'):m=m'∧r=r':=by
 have h1:=Option.some.inj (H.o.symm.trans H'.o)
 injection h1 with _ _ h2
 have h3:r.base=r'.base:=by
  have:=(List.cons.inj h2).1
  injection this with this
  injection this
 have h4:m=m':=by
  have:=(List.cons.inj (List.cons.inj h2).2).1
  injection this
 subst h4
 have h5:=Option.some.inj (H.d.symm.trans H'.d)
 injection h5 with h6 h7
 have h8:=Hf (V:=D.int) (fun a b e=>by injection e) h6 h7
 obtain⟨b,ns⟩:=r
 obtain⟨b',ns'⟩:=r'
 cases h3
 cases h8
 exact⟨rfl,rfl⟩
theorem Bl {c:CL} {h:List Ob} {n m:Nat} {r:bU} (H:cY c h n m r):hM c h n=some (m,r):=by
 unfold hM
 have q:∃x:Nat×bU,cY c h n x.1 x.2:=⟨(m,r),H⟩
 rw[dif_pos q]
 obtain⟨e1,e2⟩:=U0 H q.choose_spec
 exact congrArg some (Prod.ext e1.symm e2.symm)
end TY
set_option maxHeartbeats 1000000
namespace DL
open PySem L2 PyProof.Rows
section
variable {X:Cx} {a b:Expr} {ta tb:TE} {pos:Pos}
theorem aaw (K:PySem.W.Frag) (hu:X.A.units+64<cLine) (ha:PE X a ta) (hb:PE X b tb) (hK:X.K=K:=by rfl):PE X (.Compare a [.Eq] [b] pos) (tOp (rJ K) ta tb):=by subst hK;exact pe_cmpR (OpR.or op_eq (op_eqD hu)) ha hb (nomark _)
end
end DL
namespace TY
open PySem L2 DL AL PyProof.Rows
section
variable {α β γ ρ ι:Type} {Fin:ρ→Rs→Prop} {n m i:Nat} {p p1:En} {h h1:List Ob} {V:α→D} {A B:S} {f fo fi e:M R} {zs:List (Str×α)} {v:ρ}
def DAt (V:α→D) (h:List Ob) (m:Nat) (zs:List (Str×α)):Prop:=h[m]?=some (.aM (kS zs) (dV V zs))∨h[m]?=some (.cZ (kS zs) (dV V zs))
def iW (V:α→D) (h:List Ob) (m:Nat) (zs:List (Str×α)):List Ob:=h.set m (.cZ (kS zs) (dV V zs))
theorem Aj (hl:h[m]?=some (.aM (kS zs) (dV V zs))):DAt V (iW V h m zs) m zs:=.inr (by unfold iW;rw[List.getElem?_set_self (List.getElem?_eq_some_iff.mp hl).1])
theorem Hv (hl:h[m]?=some (.aM (kS zs) (dV V zs))) {s:List Sv}:iy m (kS zs) (dV V zs) ⟨s,iW V h m zs⟩=some ⟨s,h⟩:=Mv hl
theorem Ox {un:ST→Option ST} {s s':ST} (e:un s=some s'):rZ un (.nx s)=some (.nx s'):=by show (un s).map _=_;rw[e];rfl
def Qq (Fin:ρ→Rs→Prop) (un:ST→Option ST) (v:ρ) (r:Rs):Prop:=∃r',rZ un r=some r'∧Fin v r'
theorem LQ {x:XD} {s:List Sv} (hl:h[m]?=some (.aM (kS zs) (dV V zs))) (H:Fin v (.ex x ⟨s,h⟩)):Qq Fin (iy m (kS zs) (dV V zs)) v (.ex x ⟨s,iW V h m zs⟩):=⟨.ex x ⟨s,h⟩,by show (iy _ _ _ _).map _=_;rw[Hv hl];rfl,H⟩
theorem Hg {pf:ST→Option R} {k:G} {s:List Sv} (hl:h[m]?=some (.aM (kS zs) (dV V zs))) (H:pf ⟨s,h⟩=some (.o m)):oH pf k A ⟨s,h⟩=(forL bR k A ((zs.map (·.1)).map fun x=>.d (.str x)) ⟨s,iW V h m zs⟩).bind (rZ (iy m (kS zs) (dV V zs))):=by
 unfold oH
 rw[H]
 simp only[hl]
 rw[show (kS zs).map (fun k=>R.d (kD k))=(zs.map (·.1)).map fun x=>.d (.str x) from Gq]
 rfl
theorem VB {pf:ST→Option R} {pre:γ→En} {tg:Str→En} {k:G} {f:Str→γ→Option γ} {a0:γ} {t:γ→Option ρ} (hl:h[m]?=some (.aM (kS zs) (dV V zs))) (H:∀s,bG n p s→pf ⟨s,h⟩=some (.o m)) (hs:fG [] (pre a0++p) p) (hk:TG n k (fun x=>.d (.str x)) tg) (hb:∀y a,J (xq n (fun a=>pre a++p) (fun _=>iW V h m zs)) n A (tg y++(pre a++p)) (iW V h m zs) (f y a)) (K:∀a,J Fin n B (pre a++p) h (t a)):J Fin n (au (oH pf k A) B) p h ((dW f (zs.map (·.1)) a0).bind t):=fun s mm v ev=>by
 obtain⟨a,ha,ev⟩:=Option.bind_eq_some_iff.mp ev
 obtain⟨s',h1,h2⟩:=FQ (P:=fun a=>pre a++p) (hp:=fun _=>iW V h m zs) hk hb _ a0 a _ ha (mm.sub hs)
 obtain⟨r,hr,hf⟩:=K a s' h2 v ev
 refine⟨r,gq ?_ hr,hf⟩
 rw[Hg hl (H s mm),h1]
 exact Ox (Hv hl)
theorem VD {pf:ST→Option R} {pre:γ→En} {tg:Str→En} {k:G} {f:Str→γ→Option (Ct γ ρ)} {a0:γ} {t:γ→Option ρ} (hl:h[m]?=some (.aM (kS zs) (dV V zs))) (H:∀s,bG n p s→pf ⟨s,h⟩=some (.o m)) (hs:fG [] (pre a0++p) p) (hk:TG n k (fun x=>.d (.str x)) tg) (hb:∀y a,J (Bv n (fun a=>pre a++p) (fun _=>iW V h m zs) (Qq Fin (iy m (kS zs) (dV V zs)))) n A (tg y++(pre a++p)) (iW V h m zs) (f y a)) (K:∀a,J Fin n B (pre a++p) h (t a)):J Fin n (au (oH pf k A) B) p h (eE (cA f (zs.map (·.1)) a0) t):=
 FP (P:=fun a=>pre a++p) (hp:=fun _=>h) (fun s mm c ev=>by
  obtain⟨r,h1,h2⟩:=FT (P:=fun a=>pre a++p) (hp:=fun _=>iW V h m zs) hk hb _ a0 c _ ev (mm.sub hs)
  cases c with
  | nx a=>
   obtain⟨s',m',rfl⟩:=h2
   refine⟨.nx ⟨s',h⟩,?_,s',m',rfl⟩
   rw[Hg hl (H s mm),h1]
   exact Ox (Hv hl)
  | bk a=>exact h2.elim
  | rt v=>
   obtain⟨⟨r',e1,e2⟩,e3⟩:=h2
   refine⟨r',?_,e2,?_⟩
   ·rw[Hg hl (H s mm),h1];exact e1
   ·cases r with
    | nx _=>cases e3
    | bk s1=>obtain⟨_,_,rfl⟩:=Option.map_eq_some_iff.mp (show (iy _ _ _ s1).map Rs.bk=some r' from e1);rfl
    | ct s1=>obtain⟨_,_,rfl⟩:=Option.map_eq_some_iff.mp (show (iy _ _ _ s1).map Rs.ct=some r' from e1);rfl
    | rt x s1=>obtain⟨_,_,rfl⟩:=Option.map_eq_some_iff.mp (show (iy _ _ _ s1).map (Rs.rt x)=some r' from e1);rfl
    | rn x s1=>obtain⟨_,_,rfl⟩:=Option.map_eq_some_iff.mp (show (iy _ _ _ s1).map (Rs.rn x)=some r' from e1);rfl
    | ex x s1=>obtain⟨_,_,rfl⟩:=Option.map_eq_some_iff.mp (show (iy _ _ _ s1).map (Rs.ex x)=some r' from e1);rfl) K
theorem zG {k:Str} {v:α} (hl:DAt V h m zs) (e:fJ zs k=some v):KV n p h bF (.o m) (.d (.str k)) (.d (V v)):=fun s _=>by
 have hd:eX ⟨s,h⟩ (.o m)=some (kS zs,dV V zs):=by
  rcases hl with hl|hl <;>
  ·have h1:aU ⟨s,h⟩ (.o m)=_:=hl
   simp only[eX,h1]
 have hs:bT ⟨s,h⟩ (.o m)=none:=by
  rcases hl with hl|hl <;>
  ·have h1:aU ⟨s,h⟩ (.o m)=_:=hl
   simp only[bT,h1]
 exact Gp hd hs (fun _=>by unfold jP;rfl) rfl (G9 e)
end
end TY
set_option maxHeartbeats 2000000
namespace TY
open PySem L2 DL AL PyProof.Rows
theorem JN {c:CL} {base:Int} {cells:List (Str×Int)} {GD:Nat} {h:List Ob} {v:Except Err bU} (qw:h[GD]?=some (.aM (kS cells) (dV D.int cells))) (e:nR base cells=some v):IK c c.Memory (pJ c) h [.d (D.int base),.o GD] (fun r=>fU c (h.length+1) r) v:=by
 rw[JK]
 exact YF (p:=[(0,some (.v (.o h.length))),(1,some (.v (.d (D.int base)))),(2,some (.v (.o GD))),(3,some .no),(4,some .no),(5,some .no)]) (jr rfl rfl) rfl  (show J (Q5 c h (fun r=>fU c (h.length+1) r)) 6 (yh c) _ (h++[.ins c.Memory [] []]) (nR base cells) from
 jg (oF (d_ (Ax aJ (ao rfl) ux aJ ux))) (iZ (rF (aO (ao rfl) bf) fun s m=>⟨_,rfl⟩))
 (jf (dH aJ rfl rfl (VB (γ:=Int) (V:=D.int) (pre:=fun contents=>[(3,some (.v (.d (D.int contents)))),(4,none)]) (a0:=(1:Int)) (qJ qw) (Bg rfl) (dX rfl (bL cW)) (lX rfl (fun _=>rfl)) (fun name contents=>
 aX fun yP Uc=>
 dH (aG (ao rfl) (ao rfl) (Wu Uc)) rfl rfl (vP (dX rfl (bL (j9 4 rfl rfl))) rfl)) fun KJ=>
 jg (d_ (aG (ao rfl) aJ aap)) (iZ (rF (aO aJ bf) fun s m=>⟨_,rfl⟩))
 (jf (zW Oa rfl (VD (γ:=(List (Str×Int))) (V:=D.int) (pre:=fun numbers=>[(5,some (.own (.aM (kS numbers) (dV D.int numbers)))),(4,none)]) (a0:=([]:List (Str×Int))) (qJ qw) (Bg rfl) (dX rfl (bL cW)) (lX rfl (fun _=>rfl)) (fun name1 numbers=>
 aX fun v jG=>
 jg (oF (wF (ev_call (aO (ao rfl) bf) rfl (UL jG)) xG)) (iZ (rF (aO (ao rfl) bf) fun s m=>⟨LQ (qJ qw) (⟨_,rfl⟩),rfl⟩))
 (jf (aX fun v1 jD=>
 jg (oF (d_ (Ax aJ (aG (ao rfl) (ao rfl) (zG (V:=D.int) (Aj (qJ qw)) jD)) ux (ao rfl) Ba))) (iZ (rF (aO (aG (ao rfl) (ao rfl) (zG (V:=D.int) (Aj (qJ qw)) jD)) bf) fun s m=>⟨LQ (qJ qw) (⟨_,rfl⟩),rfl⟩))
 (jf (WL (V:=D.int) (aG (ao rfl) (ao rfl) (zG (V:=D.int) (Aj (qJ qw)) jD)) (ao rfl) rfl rfl rfl fun mG=>
 vQ (dX rfl (bL (j9 4 rfl rfl))) rfl))))) fun Lp=>
 Ol (ao rfl) (ao rfl) (by simp<;>omega) rfl rfl (by trivial) (Ol (YD rfl rfl) (ao rfl) (by simp<;>omega) rfl rfl (by trivial) (tY fun s m=>by exact rfl))))))))) e
section
variable {α β γ ρ ι:Type} {Fin:ρ→Rs→Prop} {n m i:Nat} {p p1:En} {h h1:List Ob} {V:α→D} {A B:S} {e f fo fi:M R} {fa:M (List R)} {zs:List (Str×α)} {v:ρ} {u:List Sv→List Sv}
theorem Oz {x:Nat} {xs:List Nat} (hf:EV n p h fa ((x::xs).map R.o) u p1 h1) (hl:Nat.ble (x::xs).length 16000000=true):EV n p h (kZ fa) (jJ (x::xs)) u p1 h1:=gA hf fun s mm=>by
 rw[if_pos (by rw[List.length_map];exact Nat.le_of_ble_eq_true hl)]
 unfold wV
 have h1:cQ ((x::xs).map R.o)=none:=rfl
 have h2:((x::xs).map R.o).all dZ=true:=by
  rw[List.all_eq_true]
  intro r hr
  obtain⟨k,_,rfl⟩:=List.mem_map.mp hr
  rfl
 rw[h1]
 simp only[h2,if_true]
 rfl
theorem U3 (hl:h1[m]?=some (.aM (kS zs) (dV V zs))) (hf:EV n p h fa [.o m] u p1 h1):EV n p h (M.of fa kList) (.lst ((zs.map (·.1)).map D.str)) u p1 h1:=gA hf fun s mm=>by
 obtain⟨a,b,c⟩:=dcH (s:=s) hl
 unfold kList
 simp only[b,a,Option.map_some]
 rw[show (kS zs).map kD=(zs.map (·.1)).map D.str from Yy]
theorem Xc {pf:ST→Option R} {vs:List Nat} {k:G} {tg:Str→En} {t:M Bool} {W:β→D} {cc:Str→Option Bool} {ff:Str→Option β} {ws:List β} (hl:h[m]?=some (.aM (kS zs) (dV V zs))) (hz:gK cc ff (zs.map (·.1))=some ws) (H:∀s,bG n p s→pf ⟨s,h⟩=some (.o m)) (hv:∀v∈vs,lk p v=some .no) (hk:xV n vs k (fun x=>.d (.str x)) tg) (hc:∀y,EO n (tg y++p) (iW V h m zs) t (fun x=>x) (cc y)) (hf:∀y,EO n (tg y++p) (iW V h m zs) e (fun x=>.d (W x)) (ff y)):EV n p h (rD pf k t e vs) (.lst (ws.map W)) id p h:=fun s mm=>by
 have hq:(zs.map (·.1)).length≤16000000∧jT cc ff (zs.map (·.1))=some ws:=by
  unfold gK at hz
  split at hz
  ·exact⟨by assumption,hz⟩
  ·cases hz
 have ew:cR s vs=s:=yV fun v hm=>mm.get v _ (hv v hm)
 have hkl:(kS zs).length≤16000000:=by have:=hq.1;simpa using this
 refine⟨?_,mm⟩
 unfold rD xU
 rw[H s mm]
 simp only[hl,hkl,if_true,ew]
 rw[Gq]
 have:=wu (h:=iW V h m zs) hv hk hc hf mm _ ws hq.2
 unfold iW at this
 rw[this]
 rfl
def abl (Y:bU):Option Int:=if Y.numbers.length<16000000 then some (Y.numbers.length:Int) else none
end
end TY
set_option maxHeartbeats 2000000
namespace TY
open PySem L2 DL AL PyProof.Rows
noncomputable def yD (c:CL):S:=(au (cJ (xM (M.of (aC (eV 0) (aC (eC (.ty "int")) aN)) uL) (Cg (M.of (aC (eV 0) (aC (eC (.ty "bool")) aN)) uL))))
 aP)
@[irreducible] noncomputable def sY (c:CL):Fn:=(runN 1 1 (yD c))
theorem JT (c:CL):sY c=(runN 1 1 (yD c)):=by unfold sY;rfl
noncomputable def yE (told:Int):Option Bool:=
 some (true&&(!false))
theorem T6 {c:CL} {told:Int} {h:List Ob} {v:Bool}  (e:yE told=some v):sY c [.d (D.int told)] h=some (outD D.bl h v):=by
 rw[JT]
 exact fn_of (p:=[(0,some (.v (.d (D.int told))))]) (jr rfl rfl) rfl  (show J (jQ (outD D.bl h)) 1 (yD c) _ h (yE told) from
 fQ (aao (Oj (aO (ao rfl) (aO aJ bf)) rfl rfl) (aan (Oj (aO (ao rfl) (aO aJ bf)) rfl rfl))) fun s m=>rfl) e
noncomputable def yQ (c:CL):S:=(au (oU (au (bB (eV 2) (vg c.Memory (mD c) (eV 0) (eV 1)))
 aP) (⟨c.m .NoCell,(some 3),fun x a d=>(au (cJ (qY (aC (eC (.str "cell")) (aC (if x.C=c.NoCell then xQ a c.NoCell d "name" (eV 3) else zP) aN))))
 aP)⟩::(⟨c.m .BadNumber,(some 3),fun x a d=>(au (cJ (qY (aC (eC (.str "number")) (aC (if x.C=c.BadNumber then xQ a c.BadNumber d "number" (eV 3) else zP) aN))))
 aP)⟩::[])))
 (au (cJ (eC .non))
 aP))
@[irreducible] noncomputable def tH (c:CL):Fn:=(runN 3 4 (yQ c))
theorem Ka (c:CL):tH c=(runN 3 4 (yQ c)):=by unfold tH;rfl
noncomputable def lE (c:CL) (memory:Nat) (name:Str) (number:Int) (h:List Ob):Option (D×List Ob):=
 eE (α:=(List Ob)) (k_ c ((hM c h memory).bind fun fM=>
 mW (i_ fM.2 name number) (fun er=>(.rt (.inr er))) fun mem=>
 b_ (fV h fM.1 mem) fun h_=>
 some (.nx h_)) (fun er=>
  vh .NoCell er (fun es=>(es[0]?).bind fun v1=>some (.rt ((D.tup [D.str ("cell":Str),(fun d=>d) v1]),h)))
  (vh .BadNumber er (fun es=>(es[0]?).bind fun v=>some (.rt ((D.tup [D.str ("number":Str),(fun d=>d) v]),h)))
  (none)))) fun h_1=>
 some (((fun _=>D.non) ()),h_1)
theorem U4 {c:CL} {memory:Nat} {name:Str} {number:Int} {h:List Ob} {v:D×List Ob} (ok:c.Ok)  (e:lE c memory name number h=some v):tH c [.o memory,.d (D.str name),.d (D.int number)] h=some ((Q_ (fun d=>d)) v):=by
 rw[Ka]
 exact fn_of (p:=[(0,some (.v (.o memory))),(1,some (.v (.d (D.str name)))),(2,some (.v (.d (D.int number)))),(3,some .no)]) (jr rfl rfl) rfl (show J (jQ (Q_ (fun d=>d))) 4 (yQ c) _ h (lE c memory name number h) from
 Qi (cl:=c) (hv:=[]) (α:=(List Ob)) (pre:=fun h_1=>[]) (hp:=fun h_1=>h_1) (h1:=h) (aX fun fM jL=>
 WW (oJ jL) (ao rfl) (ao rfl) (ao rfl) (fun er s m=>⟨s,m.sub cW,rfl⟩) fun mem=>
 oG fun h_=>
 MF cW rfl) (fun er hmem=>(G_ ok hmem rfl (fun es hm=>Ae fun v1 jD=>Gr (fun a d=>(zV (aO aJ (aO (Gu (Ht rfl (Hu jD))) bf)) rfl rfl)) rfl (fun s=>⟨rfl,rfl⟩)) (G_ ok hmem rfl (fun es hm=>Ae fun v jG=>Gr (fun a d=>(zV (aO aJ (aO (Gu (Ht rfl (Hu jG))) bf)) rfl rfl)) rfl (fun s=>⟨rfl,rfl⟩)) MP))) fun h_1=>
 fQ aJ fun s m=>rfl) e
noncomputable def yx (c:CL):S:=(au (oU (au (lK (rR c.Memory (j7 c) (eV 0) (aC (eV 1) aN)))
 aP) (⟨c.m .NoCell,(some 2),fun x a d=>(au (cJ (eB (aK (kEq false)) (if x.C=c.NoCell then xQ a c.NoCell d "name" (eV 2) else zP) (eV 1)))
 aP)⟩::[]))
 (au (cJ (eC (.bl false)))
 aP))
@[irreducible] noncomputable def sW (c:CL):Fn:=(runN 2 3 (yx c))
theorem JQ (c:CL):sW c=(runN 2 3 (yx c)):=by unfold sW;rfl
noncomputable def vC (c:CL) (memory:Nat) (name:Str) (h:List Ob):Option Bool:=
 eE (α:=Unit) (k_ c ((hM c h memory).bind fun fM=>
 mW (mO fM.2 name) (fun er=>(.rt (.inr er))) fun v=>
 some (.nx ())) (fun er=>
  vh .NoCell er (fun es=>(es[0]?).bind fun v1=>(lA ((fun d=>d) v1) (D.str name)).bind fun q=>some (.rt q))
  (none))) fun s_=>
 some false
theorem Tg {c:CL} {memory:Nat} {name:Str} {h:List Ob} {v:Bool} (ok:c.Ok)  (e:vC c memory name h=some v):sW c [.o memory,.d (D.str name)] h=some ((outD D.bl h) v):=by
 rw[JQ]
 exact fn_of (p:=[(0,some (.v (.o memory))),(1,some (.v (.d (D.str name)))),(2,some .no)]) (jr rfl rfl) rfl (show J (jQ (outD D.bl h)) 3 (yx c) _ h (vC c memory name h) from
 Qi (cl:=c) (hv:=[]) (α:=Unit) (pre:=fun s_=>[]) (hp:=fun s_=>h) (h1:=h) (aX fun fM jL=>
 WM (MK (oJ jL).at (ao rfl) (ao rfl)) (fun er s m=>⟨s,m.sub cW,rfl⟩) fun v=>
 MF cW rfl) (fun er hmem=>(G_ ok hmem rfl (fun es hm=>Ae fun v1 jD=>Ae fun q sG=>Gr (fun a d=>(aG (Gu (Ht rfl (Hu jD))) (ao rfl) (Yw sG))) rfl (fun s=>⟨rfl,rfl⟩)) MP)) fun s_=>
 fQ aJ fun s m=>rfl) e
noncomputable def yJ (c:CL):S:=(au (bY (jE (tF (eB (aK (kEq true)) (M.of (aC (eV 0) aN) (xg c.Memory (nU c))) (M.of (aC (eV 1) aN) iw))) (jE (tF (eB (aK (kEq true)) (lZ (rD (pF [c.Memory] "numbers" (pV 0)) (gN 5) (M.ret true) (eV 5) [5])) (eV 1))) (tF (eB (oW false c.Memory (jZ c)) (eV 3) (eV 0))))) (au (cJ (eC (.bl false)))
 aP) aP)
 (au (iQ (lM (aC (M.of (aC (eV 1) aN) iw) aN)) (gN 4) (au (bY (jE (tF (eB (oW true c.Memory (jZ c)) (eB bF (eV 1) (eV 4)) (eV 0))) (jE (jW (tR (jO (sY c) (aC (rR c.Memory (j7 c) (eV 0) (aC (eB bF (eV 1) (eV 4)) aN)) aN)))) (tF (eB (aK (kEq true)) (rR c.Memory (j7 c) (eV 0) (aC (eB bF (eV 1) (eV 4)) aN)) (eB bF (eV 2) (eV 4)))))) (au (cJ (eC (.bl false)))
 aP) aP)
 aP))
 (au (cJ (jO (sW c) (aC (eV 0) (aC (eV 3) aN))))
 aP)))
@[irreducible] noncomputable def tD (c:CL):Fn:=(runN 4 6 (yJ c))
theorem JW (c:CL):tD c=(runN 4 6 (yJ c)):=by unfold tD;rfl
noncomputable def nY (c:CL) (memory:Nat) (dO:List Str) (numbers:Nat) (strange:Str) (h:List Ob):Option Bool:=
 (hM c h memory).bind fun fM=>
 (abl fM.2).bind fun v=>
 (nM (!decide (v=(dO.length:Int))) ((gK (fun name=>some true) (fun name=>some name) (fM.2.numbers.map (·.1))).bind fun v1=>(lA ((vL D.str) v1) ((vL D.str) dO)).bind fun q=>some ((!q) || (decide (strange∈fM.2.numbers.map (·.1)))))).bind fun b=>
 if b=true then some false
 else(jC (0:Int) (dO.length:Int)).bind fun r=>
 eE (cA (fun k s_=>
 (atI dO k).bind fun v2=>
 (nM (!decide (v2∈fM.2.numbers.map (·.1))) ((fJ fM.2.numbers v2).bind fun v3=>(yE v3).bind fun v4=>(nM (!v4) ((hL D.int h numbers).bind fun mG=>(atI mG k).bind fun v5=>some (!decide (v3=v5)))).bind fun b1=>some b1)).bind fun b2=>
 if b2=true then some (.rt false)
 else some (.nx ())) r ()) fun s_1=>
 (vC c memory strange h).bind fun v6=>
 some v6
theorem Ud {c:CL} {memory:Nat} {dO:List Str} {numbers:Nat} {strange:Str} {h:List Ob} {v:Bool} (ok:c.Ok)  (e:nY c memory dO numbers strange h=some v):tD c [.o memory,.d ((vL D.str) dO),.o numbers,.d (D.str strange)] h=some ((outD D.bl h) v):=by
 rw[JW]
 exact fn_of (p:=[(0,some (.v (.o memory))),(1,some (.v (.d ((vL D.str) dO)))),(2,some (.v (.o numbers))),(3,some (.v (.d (D.str strange)))),(4,some .no),(5,some .no)]) (jr rfl rfl) rfl (show J (jQ (outD D.bl h)) 6 (yJ c) _ h (nY c memory dO numbers strange h) from
 aX fun fM jL=>
 aX fun v jG=>
 aX fun b Jy=>
 jg (zA Jy (d_ (aG (Vx (oJ jL).at jG (aO (ao rfl) bf)) (Mz (V:=D.str) (aO (ao rfl) bf)) Og)) (jw fun v1 jD=>(jw fun q sG=>(eo_some (Od (d_ (aG (qT (YQ (W:=D.str) (oJ jL) jD rfl (vs1 rfl) (Bf rfl (fun _=>rfl)) (fun hA name=>Ad) (fun hA name=>(eo_some (ao rfl)))) rfl) (ao rfl) (z_ sG))) (d_ (aG (ao rfl) (ao rfl) (WT (oJ jL).at)))))))) (iZ (fQ aJ fun s m=>rfl))
 (jf (aX fun r pB=>
 zY (α:=Unit) (pre:=fun s_=>[(4,none)]) (hp:=fun s_=>h) (a0:=()) (qu pB (aO (Mz (V:=D.str) (aO (ao rfl) bf)) bf)) (bL cW) (lX rfl (fun _=>rfl)) (fun k s_=>
 aX fun v2 rH=>
 aX fun b2 abm=>
 jg (zA abm (d_ (aG (aG (ao rfl) (ao rfl) (gU (V:=D.str) rH)) (ao rfl) (Vw (oJ jL).at))) (jw fun v3 uP=>(jw fun v4 Ja=>(jw fun b1 abn=>(eo_some (zA abn (oF (wF (ev_call (aO (MN (oJ jL).at uP (ao rfl) (aG (ao rfl) (ao rfl) (gU (V:=D.str) rH))) bf) rfl (T6 Ja)) xG)) (jw fun mG Uq=>(jw fun v5 Jb=>(eo_some (d_ (aG (MN (oJ jL).at uP (ao rfl) (aG (ao rfl) (ao rfl) (gU (V:=D.str) rH))) (aG (ao rfl) (ao rfl) (Y9 (V:=D.int) (Qn Uq) Jb)) Og))))))))))) (iZ (fQ aJ fun s m=>⟨rfl,rfl⟩))
 (jf (vQ (bL (j9 2 rfl rfl)) rfl))) fun s_1=>
 aX fun v6 Jc=>
 fQ (ev_call (aO (ao rfl) (aO (ao rfl) bf)) rfl (Tg ok Jc)) fun s m=>rfl))) e
noncomputable def yR (c:CL):S:=(au (bB (jO (pN c) (aC (eV 0) (aC (eC (.int 0)) (aC (eC (.int 12)) aN)))) (gN 1))
 (au (bB (eB eO (eC (.int 2)) (eB (aK fj) (M.of (aC (eB bF (eV 1) (eC (.int 0))) aN) fD) (eC (.int 9)))) (gN 2))
 (au (bB (eB bF (lZ (kZ (aC (eC (.int 6)) (aC (eC (.int 4)) (aC (eC (.int 3)) (aC (eC (.int 2)) (aC (eC (.int 2)) (aC (eC (.int 2)) (aC (eC (.int 2)) (aC (eC (.int 2)) (aC (eC (.int 2)) aN))))))))))) (eB (aK uI) (eV 2) (eC (.int 2)))) (gN 3))
 (au (bB (jO (sX c) (aC (eB bF (eV 1) (eC (.int 1))) (aC (eC (.int 8)) aN))) (gN 4))
 (au (bB (eB (aK fj) (M.of (aC (eB bF (eV 1) (eC (.int 2))) aN) fD) (eB eO (eV 3) (eC (.int 1)))) (gN 5))
 (au (bB (lZ (rY (lM (aC (eV 5) aN)) (gN 8) (M.ret true) (eB (aK fj) (M.of (aC (eB bF (eV 1) (eB eO (eC (.int 3)) (eV 8))) aN) fD) (eV 2)) [8])) (gN 6))
 (au (bB (o_ Bs) (gN 7))
 (au (iQ (lM (aC (eV 5) aN)) (gN 8) (au (bB (eB bF (eV 6) (eV 8)) (gS (eV 7) (eB bF (eV 4) (eV 8))))
 aP))
 (au (bB (o_ (kZ (aC (eNew c.Memory (pJ c) [] (aC (eV 2) (aC (eV 7) aN))) (aC (eNew c.Memory (pJ c) [] (aC (eV 2) (aC (eV 7) aN))) aN)))) (gN 9))
 (au (bB (o_ (kZ (aC (o_ (M.of (aC (eV 6) aN) kList)) (aC (o_ (M.of (aC (eV 6) aN) kList)) aN)))) (gN 10))
 (au (bY (jE (tF (eB (aK (kEq true)) (lZ (M.of (aC (eV 7) aN) kList)) (rP (eV 4) oN (oS (eV 5))))) (tF (eB (aK (kEq true)) (lZ (rD (pV 7) (gN 11) (M.ret true) (eB bF (eV 7) (eV 11)) [11])) (eV 6)))) (au (cJ (eC (.bl false)))
 aP) aP)
 (au (iQ (wL (rP (eV 4) oN (oS (eV 5)))) (gN 11) (au (bB (eB (aK uI) (eB (aK uI) (eV 2) (eC (.int 1))) (eB bF (eV 7) (eV 11))) (gS (eV 7) (eV 11)))
 aP))
 (au (bB (eC (.int 0)) (gS (eV 7) (eB bF (eV 4) (eC (.int 7)))))
 (au (bB (jO (pN c) (aC (eV 0) (aC (eC (.int 1)) (aC (eC (.int 30)) aN)))) (gN 12))
 (au (iQ (wL (eV 12)) (gN 13) (au (bB (eB (aK fj) (M.of (aC (eV 13) aN) fD) (eC (.int 2))) (gN 14))
 (au (bB (eB (aK fj) (eB (aK lU) (M.of (aC (eV 13) aN) fD) (eC (.int 2))) (eB eO (eV 5) (eC (.int 1)))) (gN 15))
 (au (bB (eB (aK uI) (eB (aK fj) (eB (aK lU) (M.of (aC (eV 13) aN) fD) (eC (.int 14))) (eB eO (eV 2) (eC (.int 4)))) (eC (.int 2))) (gN 16))
 (au (bB (eB bF (eV 9) (eV 14)) (gN 17))
 (au (bB (jO (tH c) (aC (eV 17) (aC (eB bF (eB eO (rP (eV 4) oN (oS (eV 5))) (lZ (kZ (aC (eB bF (eV 4) (eC (.int 7))) aN)))) (eV 15)) (aC (eV 16) aN)))) (gN 18))
 (au (bY (tF (eB (aK (kEq false)) (eV 15) (eV 5))) (au (bB (qY (aC (eC (.str "cell")) (aC (eB bF (eV 4) (eC (.int 7))) aN))) (gN 19))
 aP) (au (bY (jE (tF (eB (aK kLt) (eV 16) (eC (.int 0)))) (tF (eB (aK Ce) (eV 16) (eV 2)))) (au (bB (qY (aC (eC (.str "number")) (aC (eV 16) aN))) (gN 19))
 aP) (au (bB (eC .non) (gN 19))
 (au (bB (eV 16) (gS (eB bF (eV 10) (eV 14)) (eV 15)))
 aP)))
 aP))
 (au (bY (tF (eB (aK (kEq true)) (eV 18) (eV 19))) (au (cJ (eC (.bl false)))
 aP) aP)
 (au (iQ (lM (aC (eC (.int 2)) aN)) (gN 8) (au (bY (jW (tR (jO (tD c) (aC (eB bF (eV 9) (eV 8)) (aC (rP (eV 4) oN (oS (eV 5))) (aC (eB bF (eV 10) (eV 8)) (aC (eB bF (eV 4) (eC (.int 7))) aN))))))) (au (cJ (eC (.bl false)))
 aP) aP)
 aP))
 aP)))))))))
 (au (cJ (eC (.bl true)))
 aP))))))))))))))))
@[irreducible] noncomputable def vI (c:CL):Fn:=rG (runN 1 20 (yR c))
theorem Kc (c:CL):vI c=rG (runN 1 20 (yR c)):=by unfold vI;rfl
noncomputable def vJ (c:CL) (script:List Int):Option (Except Err Bool):=
 (mF script (0:Int) (12:Int)).bind fun lG=>
 (atI lG (0:Int)).bind fun v=>
 b_ ((2:Int)+(v%(9:Int))) fun base=>
 (atI [(6:Int),(4:Int),(3:Int),(2:Int),(2:Int),(2:Int),(2:Int),(2:Int),(2:Int)] (base-(2:Int))).bind fun most=>
 (atI lG (1:Int)).bind fun v1=>
 (vD v1 (8:Int)).bind fun dO=>
 (atI lG (2:Int)).bind fun v2=>
 (jR v2 (most+(1:Int))).bind fun many=>
 (jC (0:Int) many).bind fun r=>
 (gK (fun k=>some true) (fun k=>(atI lG ((3:Int)+k)).bind fun v3=>(jR v3 base).bind fun v4=>some v4) r).bind fun numbers=>
 b_ (([]:List Ob)++[.aM (kS ([]:List (Str×Int))) (dV D.int ([]:List (Str×Int)))]) fun h_=>
 (dW (fun k1 h_1=>
 (atI numbers k1).bind fun v5=>
 (atI dO k1).bind fun v6=>
 (lB D.int h_1 (([]:List Ob).length)).bind fun passed=>
 (jy passed v6 v5).bind fun GF=>
 b_ (h_1.set (([]:List Ob).length) (.aM (kS GF) (dV D.int GF))) fun h_2=>
 some h_2) r h_).bind fun h_3=>
 (lB D.int h_3 (([]:List Ob).length)).bind fun Nf=>
 (vp (nR base Nf)).bind fun memory=>
 (lB D.int (h_3++fU c ((List.length (α:=Ob) h_3)+1) memory) (([]:List Ob).length)).bind fun Nh=>
 (vp (nR base Nh)).bind fun fM=>
 b_ (((h_3++fU c ((List.length (α:=Ob) h_3)+1) memory)++fU c ((List.length (α:=Ob) (h_3++fU c ((List.length (α:=Ob) h_3)+1) memory))+1) fM)++[jJ [(List.length (α:=Ob) h_3),(List.length (α:=Ob) (h_3++fU c ((List.length (α:=Ob) h_3)+1) memory))]]) fun h_4=>
 b_ (((h_4++[Ob.lst (numbers.map D.int)])++[Ob.lst (numbers.map D.int)])++[jJ [(List.length (α:=Ob) h_4),(List.length (α:=Ob) (h_4++[Ob.lst (numbers.map D.int)]))]]) fun Cr=>
 (lB D.int Cr (([]:List Ob).length)).bind fun zH=>
 (lA ((vL D.str) (zH.map (·.1))) ((vL D.str) (cut dO none (some many)))).bind fun q=>
 (nM (!q) ((gK (fun name=>some true) (fun name=>(fJ zH name).bind fun v7=>some v7) (zH.map (·.1))).bind fun v8=>(lA ((vL D.int) v8) ((vL D.int) numbers)).bind fun q1=>some (!q1))).bind fun b=>
 if b=true then some (.ok false)
 else(dW (fun name1 vA=>
 (lB D.int vA (([]:List Ob).length)).bind fun GJ=>
 (fJ GJ name1).bind fun v9=>
 (jy GJ name1 ((base-(1:Int))-v9)).bind fun GP=>
 b_ (vA.set (([]:List Ob).length) (.aM (kS GP) (dV D.int GP))) fun RJ=>
 some RJ) (cut dO none (some many)) Cr).bind fun Jz=>
 (atI dO (7:Int)).bind fun v10=>
 (lB D.int Jz (([]:List Ob).length)).bind fun Nm=>
 (jy Nm v10 (0:Int)).bind fun GX=>
 b_ (Jz.set (([]:List Ob).length) (.aM (kS GX) (dV D.int GX))) fun JB=>
 (mF script (1:Int) (30:Int)).bind fun Qs=>
 eE (cA (fun deed uR=>
 b_ (deed%(2:Int)) fun side=>
 (jR (deed/(2:Int)) (many+(1:Int))).bind fun at_=>
 (jR (deed/(14:Int)) (base+(4:Int))).bind fun v11=>
 b_ (v11-(2:Int)) fun number=>
 (hQ uR (((h_3++fU c ((List.length (α:=Ob) h_3)+1) memory)++fU c ((List.length (α:=Ob) (h_3++fU c ((List.length (α:=Ob) h_3)+1) memory))+1) fM).length)).bind fun za=>
 (atI za side).bind fun zJ=>
 (Bw (cut dO none (some many)) [v10]).bind fun Cu=>
 (atI Cu at_).bind fun Cv=>
 (lE c zJ Cv number uR).bind fun told=>
 (if (decide (at_=many))=true then b_ (D.tup [D.str ("cell":Str),D.str v10]) fun due=>
 some (due,told.2) else(if ((decide (number<(0:Int))) || (decide (base≤number)))=true then b_ (D.tup [D.str ("number":Str),D.int number]) fun BL=>
 some (BL,told.2) else b_ ((fun _=>D.non) ()) fun BP=>
 (hQ told.2 (((h_4++[Ob.lst (numbers.map D.int)])++[Ob.lst (numbers.map D.int)]).length)).bind fun held=>
 (atI held side).bind fun sJ=>
 (hL D.int told.2 sJ).bind fun Cy=>
 (oY Cy at_ number).bind fun ys=>
 b_ (told.2.set sJ (.lst (ys.map D.int))) fun BR=>
 some (BP,BR)).bind fun s_=>
 some (s_.1,s_.2)).bind fun s_1=>
 (lA ((fun d=>d) told.1) ((fun d=>d) s_1.1)).bind fun q2=>
 if (!q2)=true then some (.rt (.ok false))
 else(jC (0:Int) (2:Int)).bind fun r1=>
 eE (cA (fun k2 s_2=>
 (hQ s_1.2 (((h_3++fU c ((List.length (α:=Ob) h_3)+1) memory)++fU c ((List.length (α:=Ob) (h_3++fU c ((List.length (α:=Ob) h_3)+1) memory))+1) fM).length)).bind fun nZ=>
 (atI nZ k2).bind fun pC=>
 (hQ s_1.2 (((h_4++[Ob.lst (numbers.map D.int)])++[Ob.lst (numbers.map D.int)]).length)).bind fun oK=>
 (atI oK k2).bind fun pG=>
 (nY c pC (cut dO none (some many)) pG v10 s_1.2).bind fun pH=>
 if (!pH)=true then some (.rt (.rt (.ok false)))
 else some (.nx ())) r1 ()) fun Cz=>
 some (.nx s_1.2)) Qs JB) fun abo=>
 some (.ok true)
theorem U5 {c:CL} {script:List Int} {v:Except Err Bool} (ok:c.Ok) (e:vJ c script=some v):vI c [.d (D.cM script)] []=some ((oZ c D.bl []) v):=by
 rw[Kc]
 exact YS (p:=[(0,some (.v (.d (D.cM script)))),(1,some .no),(2,some .no),(3,some .no),(4,some .no),(5,some .no),(6,some .no),(7,some .no),(8,some .no),(9,some .no),(10,some .no),(11,some .no),(12,some .no),(13,some .no),(14,some .no),(15,some .no),(16,some .no),(17,some .no),(18,some .no),(19,some .no)]) (jr rfl rfl) rfl WY (show J (Q7 [] (oZ c D.bl [])) 20 (yR c) _ [] (vJ c script) from
 aX fun lG Ur=>
 dH (ev_call (aO (ao rfl) (aO aJ (aO aJ bf))) rfl (Ku Ur)) rfl rfl (aX fun v jG=>
 oX (V:=fun x=>.d (D.int x)) (aG aJ (aG (iK (aO (aG (ao rfl) aJ (gU (V:=D.int) jG)) bf)) aJ (lH rfl)) iJ) rfl rfl fun base=>
 aX fun most Za=>
 dH (aG (qT (wj (aO aJ (aO aJ (aO aJ (aO aJ (aO aJ (aO aJ (aO aJ (aO aJ (aO aJ bf))))))))) rfl rfl) rfl) (aG (ao rfl) aJ (eZ rfl)) (gU (V:=D.int) Za)) rfl rfl (aX fun v1 jD=>
 aX fun dO T7=>
 dH (ev_call (aO (aG (ao rfl) aJ (gU (V:=D.int) jD)) (aO aJ bf)) rfl (T5 T7)) rfl rfl (aX fun v2 rH=>
 aX fun many Zb=>
 dH (aG (iK (aO (aG (ao rfl) aJ (gU (V:=D.int) rH)) bf)) (aG (ao rfl) aJ iJ) (tM Zb)) rfl rfl (aX fun r pB=>
 aX fun numbers U6=>
 dH (qT (Qh (W:=D.int) U6 (qu pB (aO (ao rfl) bf)) (vs1 rfl) (Bf rfl (fun _=>rfl)) (fun k=>Ad) (fun k=>(jw fun v3 uP=>(jw fun v4 Ja=>(eo_some (aG (iK (aO (aG (ao rfl) (aG aJ (ao rfl) iJ) (gU (V:=D.int) uP)) bf)) (ao rfl) (tM Ja))))))) rfl) rfl rfl (dH (wH Oa rfl) rfl rfl (oG fun h_=>
 zX (α:=(List Ob)) (pre:=fun h_1=>[(8,none)]) (hp:=fun h_1=>h_1) (a0:=h_) (qu pB (aO (ao rfl) bf)) (bL cW) (lX rfl (fun _=>rfl)) (fun k1 h_1=>
 aX fun v5 Jb=>
 aX fun v6 Jc=>
 aX fun passed VF=>
 Gz (V:=D.int) (aG (ao rfl) (ao rfl) (gU (V:=D.int) Jb)) (mQ VF) (ao rfl) (aG (ao rfl) (ao rfl) (gU (V:=D.str) Jc)) fun GF=>
 oG fun h_2=>
 vP (bL (j9 2 rfl rfl)) rfl) fun h_3=>
 aX fun Nf U7=>
 aX fun memory VG=>
 aX fun Nh U8=>
 aX fun fM jL=>
 dH (wH (Oz (aO (M9 (ix:=(List.length (α:=Ob) h_3)) VG (aO (ao rfl) (aO (ao rfl) bf)) rfl (fun _ hv=>JN (mQ U7) hv) rfl) (aO (M9 (ix:=(List.length (α:=Ob) (h_3++fU c ((List.length (α:=Ob) h_3)+1) memory))) jL (aO (ao rfl) (aO (ao rfl) bf)) rfl (fun _ hv=>JN (mQ U8) hv) rfl) bf)) rfl) rfl) rfl rfl (oG fun h_4=>
 dH (wH (Oz (aO (wH (Ln (aO (ao rfl) bf)) rfl) (aO (wH (Ln (aO (ao rfl) bf)) rfl) bf)) rfl) rfl) rfl rfl (oG fun Cr=>
 aX fun zH Fl=>
 aX fun q sG=>
 aX fun b Jy=>
 jg (zA Jy (d_ (aG (qT (U3 (mQ Fl) (aO (ao rfl) bf)) rfl) (Aa (ao rfl) Bb (Bc (ao rfl))) (z_ sG))) (jw fun v8 abp=>(jw fun q1 abq=>(eo_some (d_ (aG (qT (Xc (V:=D.int) (W:=D.int) (mQ Fl) abp (Bg rfl) (vs1 rfl) (Bf rfl (fun _=>rfl)) (fun name=>Ad) (fun name=>(jw fun v7 abr=>(eo_some (aG (ao rfl) (ao rfl) (zG (V:=D.int) (Aj (mQ Fl)) abr)))))) rfl) (ao rfl) (z_ abq))))))) (iZ (fQ aJ fun s m=>⟨_,rfl,by simp⟩))
 (jf (zX (α:=(List Ob)) (pre:=fun vA=>[(11,none)]) (hp:=fun vA=>vA) (a0:=Cr) (Qe (V:=D.str) (Aa (ao rfl) Bb (Bc (ao rfl)))) (bL cW) (lX rfl (fun _=>rfl)) (fun name1 vA=>
 aX fun GJ KR=>
 aX fun v9 abt=>
 Gz (V:=D.int) (aG (aG (ao rfl) aJ (eZ rfl)) (aG (ao rfl) (ao rfl) (Xb (V:=D.int) (mQ KR) abt)) (eZ rfl)) (mQ KR) (ao rfl) (ao rfl) fun GP=>
 oG fun RJ=>
 vP (bL (j9 2 rfl rfl)) rfl) fun Jz=>
 aX fun v10 Bm=>
 aX fun Nm U9=>
 Gz (V:=D.int) aJ (mQ U9) (ao rfl) (aG (ao rfl) aJ (gU (V:=D.str) Bm)) fun GX=>
 oG fun JB=>
 aX fun Qs Xd=>
 dH (ev_call (aO (ao rfl) (aO aJ (aO aJ bf))) rfl (Ku Xd)) rfl rfl (zY (α:=(List Ob)) (pre:=fun uR=>[(13,none),(14,none),(15,none),(16,none),(17,none),(18,none),(19,none),(8,none)]) (hp:=fun uR=>uR) (a0:=JB) (Qe (V:=D.int) (ao rfl)) (bL (bL (bL (bL (bL (bL (bL (bL cW)))))))) (lX rfl (fun _=>rfl)) (fun deed uR=>
 oX (V:=fun x=>.d (D.int x)) (aG (iK (aO (ao rfl) bf)) aJ (lH rfl)) rfl rfl fun side=>
 aX fun at_ aax=>
 dH (aG (aG (iK (aO (ao rfl) bf)) aJ (qp rfl)) (aG (ao rfl) aJ iJ) (tM aax)) rfl rfl (aX fun v11 aay=>
 oX (V:=fun x=>.d (D.int x)) (aG (aG (aG (iK (aO (ao rfl) bf)) aJ (qp rfl)) (aG (ao rfl) aJ iJ) (tM aay)) aJ (eZ rfl)) rfl rfl fun number=>
 aX fun za Us=>
 aX fun zJ U_=>
 dH (aG (ao rfl) (ao rfl) (Ai (Bj Us) U_)) rfl rfl (aX fun Cu aaz=>
 aX fun Cv aaA=>
 aX fun told Zd=>
 dH (ev_call (aO (ao rfl) (aO (aG (aG (Aa (ao rfl) Bb (Bc (ao rfl))) (qT (wj (aO (aG (ao rfl) aJ (gU (V:=D.str) Bm)) bf) rfl rfl) rfl) (Wy (V:=D.str) aaz)) (ao rfl) (gU (V:=D.str) aaA)) (aO (ao rfl) bf))) rfl (U4 ok Zd)) rfl rfl (Az (α:=D×(List Ob)) (pre:=fun s_1=>[(19,some (.v (.d ((fun d=>d) s_1.1))))]) (hp:=fun s_1=>s_1.2) (d_ (aG (ao rfl) (ao rfl) Oe)) (oX (V:=fun x=>.d ((fun d=>d) x)) (zV (aO aJ (aO (aG (ao rfl) aJ (gU (V:=D.str) Bm)) bf)) rfl rfl) rfl rfl fun due=>
 jM (dX rfl (n_ rfl cW)) rfl) (Az (α:=D×(List Ob)) (pre:=fun s_=>[(19,some (.v (.d ((fun d=>d) s_.1))))]) (hp:=fun s_=>s_.2) (Od (d_ (aG (ao rfl) aJ Ba)) (d_ (aG (ao rfl) (ao rfl) Qa))) (oX (V:=fun x=>.d ((fun d=>d) x)) (zV (aO aJ (aO (ao rfl) bf)) rfl rfl) rfl rfl fun BL=>
 jM (dX rfl (n_ rfl cW)) rfl) (oX (V:=fun x=>.d ((fun d=>d) x)) aJ rfl rfl fun BP=>
 aX fun held Ze=>
 aX fun sJ aaB=>
 aX fun Cy aaC=>
 Y7 (V:=D.int) (hp:=fun ys=>told.2.set sJ (.lst (ys.map D.int))) (Qn aaC) (fun _=>rfl) (ao rfl) (aG (ao rfl) (ao rfl) (Ai (Bj Ze) aaB)) (ao rfl) fun ys=>
 oG fun BR=>
 jM (dX rfl (n_ rfl cW)) rfl) fun s_=>
 jM (dX rfl (n_ rfl cW)) rfl) fun s_1=>
 aX fun q2 abu=>
 jg (d_ (aG (ao rfl) (ao rfl) (z_ abu))) (iZ (fQ aJ fun s m=>⟨⟨_,rfl,by simp⟩,rfl⟩))
 (jf (aX fun r1 IV=>
 zY (α:=Unit) (pre:=fun s_2=>[(8,none)]) (hp:=fun s_2=>s_1.2) (a0:=()) (qu IV (aO aJ bf)) (bL cW) (lX rfl (fun _=>rfl)) (fun k2 s_2=>
 aX fun nZ Ue=>
 aX fun pC aaD=>
 aX fun oK Xe=>
 aX fun pG aaE=>
 aX fun pH aaF=>
 jg (oF (wF (ev_call (aO (aG (ao rfl) (ao rfl) (Ai (Bj Ue) aaD)) (aO (Aa (ao rfl) Bb (Bc (ao rfl))) (aO (aG (ao rfl) (ao rfl) (Ai (Bj Xe) aaE)) (aO (aG (ao rfl) aJ (gU (V:=D.str) Bm)) bf)))) rfl (Ud ok aaF)) xG)) (iZ (fQ aJ fun s m=>⟨⟨⟨_,rfl,by simp⟩,rfl⟩,rfl⟩))
 (jf (vQ (bL (j9 2 rfl rfl)) rfl))) fun Cz=>
 vQ (bL (bL (bL (bL (bL (bL (bL (bL (j9 16 rfl rfl))))))))) rfl)))))) fun abo=>
 fQ aJ fun s m=>⟨_,rfl,by simp⟩)))))))))))) e
end TY
namespace AL
open PySem L2 DL PyProof.Rows
section
variable {X:Cx} {x:Str} {e:Expr} {te:TE} {pos pos':Pos}
theorem jo (i:Nat) (hN:X.N.Nodup) (hi:X.N[i]?=some x:=by rfl) (hx:Loc X.env.scope x:=by first|exact Or.inl rfl|exact Or.inr rfl) (hf:X.fn x=true∨X.env.scope.names.lookup x=some .local:=by first|exact .inl rfl|exact .inr rfl|assumption):PG X (.Name x pos) (gName i):=pg_name hN hi hx hf
theorem bV (i:Nat) (hN:X.N.Nodup) (he:PE X e te) (hi:X.N[i]?=some x:=by rfl) (hx:Loc X.env.scope x:=by first|exact Or.inl rfl|exact Or.inr rfl) (hs:swapsWith e (some (.Name x pos')) pos.line X.env=pure false:=by rfl) (hf:X.fn x=true∨X.env.scope.names.lookup x=some .local:=by first|exact .inl rfl|exact .inr rfl|assumption):PS X (.Assign [.Name x pos'] e pos) (tAsg te (gName i)):=ps_set hN hi hx he hs hf
theorem RK (i:Nat) {y:Str} {py:Pos} {elt tg iter:Expr} {ifs:List Expr} {scope:Scope} (own:List (Str×Nat)) {pos spos:Pos} {wi:TI} {g:TG} {tt:TT} {te:TE} (hN:X.N.Nodup) (hi:PI X tg iter wi) (ok:BlkOk X.N X.env.scope scope own)
  (hg:∀(s:Shared) (H:Hp) (C:Addr) (cl:List (Str×Addr)) (fp:List Addr),PG (X.blk s H scope (compEnvC scope cl C X.env) fp) tg g) (ht:∀(s:Shared) (H:Hp) (C:Addr) (cl:List (Str×Addr)) (fp:List Addr),PTs (X.blk s H scope (compEnvC scope cl C X.env) fp) ifs tt)
  (he:∀(s:Shared) (H:Hp) (C:Addr) (cl:List (Str×Addr)) (fp:List Addr),PE (X.blk s H scope (compEnvC scope cl C X.env) fp) elt te) (hc:X.calm=true:=by rfl) (hy:X.N[i]?=some y:=by rfl) (hyl:X.env.scope.names.lookup y=some .local:=by rfl) (hsw:swapsWith (.ListComp elt [⟨tg,iter,ifs,0⟩] scope pos) (some (.Name y py)) spos.line X.env=pure true:=by exact sw_true rfl rfl rfl (by trivial)) (hs:∀x,foldedSetIterable iter X.env x=pure x:=by intro _;rfl) :
  PS X (.Assign [.Name y py] (.ListComp elt [⟨tg,iter,ifs,0⟩] scope pos) spos) (tAsg (tLc wi g tt te (own.map (·.2))) (gName i)):=ps_setLc hc hN hy hyl hsw hi ok hg ht he hs
end
end AL
set_option maxHeartbeats 2000000
namespace DL
open PySem L2 PyProof.Rows
end DL
namespace AL
open PySem L2 DL PyProof.Rows
theorem bd1 {α:Type} {P:List α→Prop} (h:∀a,P [a]):∀us:List α,us.length=1→P us
 | [a],_=>h a
theorem bd2 {α:Type} {P:List α→Prop} (h:∀a b,P [a,b]):∀us:List α,us.length=2→P us
 | [a,b],_=>h a b
theorem bd3 {α:Type} {P:List α→Prop} (h:∀a b c,P [a,b,c]):∀us:List α,us.length=3→P us
 | [a,b,c],_=>h a b c
theorem bd4 {α:Type} {P:List α→Prop} (h:∀a b c d,P [a,b,c,d]):∀us:List α,us.length=4→P us
 | [a,b,c,d],_=>h a b c d
theorem bd5 {α:Type} {P:List α→Prop} (h:∀a b c d e,P [a,b,c,d,e]):∀us:List α,us.length=5→P us
 | [a,b,c,d,e],_=>h a b c d e
theorem bd6 {α:Type} {P:List α→Prop} (h:∀a b c d e f,P [a,b,c,d,e,f]):∀us:List α,us.length=6→P us
 | [a,b,c,d,e,f],_=>h a b c d e f
theorem bd7 {α:Type} {P:List α→Prop} (h:∀a b c d e f g,P [a,b,c,d,e,f,g]):∀us:List α,us.length=7→P us
 | [a,b,c,d,e,f,g],_=>h a b c d e f g
section
variable (l:PySem.W.OpenLaw) (w:World) {K:PySem.W.Frag} {h:Heap} {mg:Str→Option Value} {nm m qual p cn:Str} {st:Stmt} {C:Addr} {ps:List Str} {k:Nat} {sp:Sp} {P:Program}
def nO (K:PySem.W.Frag) (nm:Str) (st:Stmt):Prop:=∃(f:Addr) (oc:Value) (od:Option Addr) (kV dc pm:Value) (an:Option Addr) (cd ct:Value) (sl:Array (Option Value)),PySem.W.nsIn K mainGlobals nm=some (some (.ref f))∧K.lookup f=some ⟨oc,od,.func (PySem.W.fnOf nm nm (defArgs st) (defBody st) (defScope st) .none kV dc pm an cd ct),sl⟩∧PySem.W.codeIn K cd nm=true∧PySem.W.keepIn K (.ref f)=true
def xX (K:PySem.W.Frag) (C:Addr) (m qual:Str) (st:Stmt):Prop:=∃(f:Addr) (oc:Value) (od:Option Addr) (kV dc pm:Value) (an:Option Addr) (cd ct:Value) (sl:Array (Option Value)),PySem.W.findIn K (.ref C) m=some (some (.ref f))∧PySem.W.isFn K (.ref f)=true∧K.lookup f=some ⟨oc,od,.func (PySem.W.fnOf m qual (defArgs st) (defBody st) (defScope st) .none kV dc pm an cd ct),sl⟩∧PySem.W.codeIn K cd qual=true∧PySem.W.keepIn K (.ref f)=true
def vB (K:PySem.W.Frag) (C:Addr) (m qual:Str) (st:Stmt):Prop:=∃(f:Addr) (oc:Value) (od:Option Addr) (kV dc pm:Value) (an:Option Addr) (cd ct:Value) (sl:Array (Option Value)),PySem.W.findIn K (.ref C) m=some (some (.ref f))∧PySem.W.isFn K (.ref f)=true∧K.lookup f=some ⟨oc,od,.func (PySem.W.fnOf m qual (defArgs st) (defBody st) (defScope st) .none kV dc pm an cd ct),sl⟩∧PySem.W.codeIn K cd qual=true∧PySem.W.keepIn K (.ref f)=true∧PySem.W.fnIn K f=true
structure xY (K:PySem.W.Frag) (cn:Str) (C:Addr):Prop where
 a:PySem.W.nsIn K mainGlobals cn=some (some (.ref C))
 pg:PySem.W.plainGet K C Str.empty=true
 hd:PySem.W.hasDictIn K C=true
 po:PySem.W.plainOver K C=true
 sa:PySem.W.findIn K (.ref C) "__setattr__"=some (some (.builtin "object.__setattr__"))
 ms:PySem.W.makesIn K C=true
 kc:PySem.W.keepIn K (.ref C)=true
theorem xY.cls (c:xY K cn C):Cls K C:=⟨c.pg,c.hd,c.po,c.sa⟩
def Bd (m qual:Str) (st:Stmt) (ps:List Str):Prop:=∀(kV doc pm:Value) (an:Option Addr) (cdv ct:Value) (us:List Value),us.length=ps.length→bindArgs (PySem.W.fnOf m qual (defArgs st) (defBody st) (defScope st) .none kV doc pm an cdv ct) ⟨us,[]⟩=pure (ps.zip us)
def CG (l:PySem.W.OpenLaw) (w:World) (K:PySem.W.Frag) (mg:Str→Option Value) (m qual:Str) (st:Stmt) (k:Nat) (ps:List Str) (sp:Sp):Prop:=∀(base:Heap) (f:Addr) (fd:FuncData),dY K m qual st f fd→FnOk l.prog w K mg base (L2.CX l.prog w) k f fd ps sp
theorem nO.cal (X:K.In h) (G:h.Ns mainGlobals mg) (F:nO K nm st) (ok:CG l w K mg nm nm st k ps sp) (hb:Bd nm nm st ps):∀base,Cal l.prog w K mg base nm ps k sp:=fun base=>by
 obtain⟨f,oc,od,kV,dc,pm,an,cd,ct,sl,h1,h2,h3,h4⟩:=F
 have F:=fun_mk (st:=st) h2 h3 h4
 exact⟨f,_,ok base _ _ (uG F),PySem.W.mg_of X G h1,h4,F.binds hb⟩
theorem xX.cal (c:xY K cn C) (F:xX K C m qual st) (ok:CG l w K mg m qual st k ps sp) (hb:Bd m qual st ps):∀base,aaV l.prog w K mg base C m ps k sp:=fun base=>by
 obtain⟨f,oc,od,kV,dc,pm,an,cd,ct,sl,h1,h0,h2,h3,h4⟩:=F
 have F:=fun_mk (st:=st) h2 h3 h4
 exact⟨f,_,ok base _ _ (uG F),c.cls,⟨h1,h0,h4⟩,F.binds hb⟩
theorem xX.mak (X:K.In h) (G:h.Ns mainGlobals mg) (c:xY K cn C) (F:xX K C "__init__" qual st) (ok:CG l w K mg "__init__" qual st k ps sp) (hb:Bd "__init__" qual st ps):∀base,Mak l.prog w K mg base cn C ps [] k sp:=fun base=>by
 obtain⟨f,oc,od,kV,dc,pm,an,cd,ct,sl,h1,h0,h2,h3,h4⟩:=F
 have F:=fun_mk (st:=st) h2 h3 h4
 exact⟨f,_,ok base _ _ (uG F),⟨c.ms,h1,h0,c.kc⟩,PySem.W.mg_of X G c.a,F.binds hb⟩
theorem vB.BW (F:vB K C m qual st) (ok:CG l w K mg m qual st k ps sp) (hb:Bd m qual st ps):∀base,je l.prog w K mg base C m ps k sp:=fun base=>by
 obtain⟨f,oc,od,kV,dc,pm,an,cd,ct,sl,h1,h0,h2,h3,h4,h5⟩:=F
 have F:=fun_mk (st:=st) h2 h3 h4
 exact⟨f,_,ok base _ _ (uG F),h1,h0,h5,F.binds hb⟩
structure ErF (l:PySem.W.OpenLaw) (K:PySem.W.Frag) (C fI:Addr) (cn qual p:Str) (st:Stmt):Prop where
 gC:PySem.W.nsIn K mainGlobals cn=some (some (.ref C))
 cls:∃nm q N bs bm sn sub ab col dd k0 k1 k2 k3 k5,K.lookup C=some (excClassObj nm q C N bs bm true sn sub ab col dd k0 k1 k2 k3 k5 "ValueError.__new__")∧PySem.HandSPX.refsVE bm=true
 sa:PySem.W.findIn K (.ref C) "__setattr__"=some (some (.builtin "object.__setattr__"))
 ga:PySem.W.findIn K (.ref C) "__getattribute__"=some (some (.builtin "BaseException.__getattribute__"))
 gg:PySem.W.findIn K (.ref C) "__getattr__"=some none
 iC:PySem.W.findIn K (.ref C) "__init__"=some (some (.ref fI))
 tC:PySem.W.typeIn K (.ref fI)=some (.type "function")
 kC:PySem.W.keepIn K (.ref C)=true
 exC:PySem.W.subIn K (.ref C) (.type "BaseException")=some true
 Jh:PySem.W.subIn K (.ref C) (.type "ValueError")=some true
 Ji:PySem.W.mroIn K C (.ref C)=some true
 tyC:PySem.W.typeIn K (.ref C)=some (.type "type")
 hdC:PySem.W.hasDictIn K C=true
 sup:PySem.W.ks_superIn K C C "__init__"=some (some (.builtin "ValueError.__init__"))
 lk:∃(oc:Value) (od:Option Addr) (kV doc pm:Value) (an:Option Addr) (cda:Addr) (ct:Value) (cc:Addr) (osl:Array (Option Value)) (ccl:Value) (cdd:Option Addr) (vs:Array Value) (ccs:Array (Option Value)) (file:Str) (tf:Tok) (cl:Value) (cld:Option Addr) (csl:Array (Option Value)),
  K.lookup fI=some ⟨oc,od,.func (PySem.W.ksFn "__init__" qual (L2.defArgs st) (L2.defBody st) (L2.defScope st) .none kV doc pm an (.ref cda) ct cc),osl⟩∧PySem.W.codeIn K (.ref cda) qual=true∧
  K.lookup cda=some ⟨ccl,cdd,.fields vs,ccs⟩∧vs[2]?=some (.str file tf)∧((l.prog.main.file:Str) == file)=true∧K.lookup cc=some ⟨cl,cld,.cell (some (.ref C)),csl⟩
 no:PySem.W.findIn K (.ref C) p=some none
def iz (l:PySem.W.OpenLaw) (K:PySem.W.Frag) (C:Addr) (cn qual p:Str) (st:Stmt):Prop:=∃fI,ErF l K C fI cn qual p st
theorem iz.b {l:PySem.W.OpenLaw} (e:iz l K C cn qual p st):PySem.W.subIn K (.ref C) (.type "BaseException")=some true:=e.elim fun _ e=>e.exC
theorem iz.hd {l:PySem.W.OpenLaw} (e:iz l K C cn qual p st):PySem.W.hasDictIn K C=true:=e.elim fun _ e=>e.hdC
theorem iz.ty {l:PySem.W.OpenLaw} (e:iz l K C cn qual p st):PySem.W.typeIn K (.ref C)=some (.type "type"):=e.elim fun _ e=>e.tyC
theorem iz.ga {l:PySem.W.OpenLaw} (e:iz l K C cn qual p st):PySem.W.findIn K (.ref C) "__getattribute__"=some (some (.builtin "BaseException.__getattribute__")):=e.elim fun _ e=>e.ga
theorem iz.gg {l:PySem.W.OpenLaw} (e:iz l K C cn qual p st):PySem.W.findIn K (.ref C) "__getattr__"=some none:=e.elim fun _ e=>e.gg
def xJ (st:Stmt) (qual p:Str):Prop:=∃(pre:Str) (cst:Nat) (j1 j2 j3 q1 q2 q3 q4:Pos),eG.vW st qual [p] [.Constant (.str pre) cst j1,.FormattedValue (.Name p j2) 114 none j3] [.Assign [.Attribute (.Name "self" q1) p q2] (.Name p q3) q4]∧pre.length≤100
theorem iz.er {l:PySem.W.OpenLaw} (X:K.In h) (G:h.Ns mainGlobals mg) (hB:cO mg) (lY:PySem.W.nsIn K cStatics "thirdparty.any"=some none) (top:(l.prog.main.scope.names.lookup ("super":Str)).isSome=false) (s:xJ st qual p) (e:iz l K C cn qual p st) (h1:(p == ("self":Str))=false:=by decide +kernel) (h2:(p == ("__debug__":Str))=false:=by decide +kernel):eG.fX l.prog K mg cn p C:=by
 obtain⟨fI,e⟩:=e
 obtain⟨pre,cst,j1,j2,j3,q1,q2,q3,q4,S,hp⟩:=s
 exact⟨fI,qual,st,pre,cst,j1,j2,j3,q1,q2,q3,q4,⟨PySem.W.mg_of X G e.gC,e.cls,e.sa,e.ga,e.gg,e.iC,e.tC,e.kC,e.exC,e.Jh,e.Ji,e.tyC,e.hdC,e.sup,lY,hB _ (by trivial),top,e.lk⟩,S,h1,h2,e.no,hp⟩
structure RL (K:PySem.W.Frag):Prop where
 z0:PySem.W.nsIn K mainGlobals "len"=some none
 z1:PySem.W.nsIn K mainGlobals "int"=some none
 z2:PySem.W.nsIn K mainGlobals "range"=some none
 z3:PySem.W.nsIn K mainGlobals "isinstance"=some none
 z4:PySem.W.nsIn K mainGlobals "list"=some none
 z5:PySem.W.nsIn K mainGlobals "tuple"=some none
 z6:PySem.W.nsIn K mainGlobals "enumerate"=some none
 z7:PySem.W.nsIn K mainGlobals "sum"=some none
 z8:PySem.W.nsIn K mainGlobals "any"=some none
 z9:PySem.W.nsIn K mainGlobals "str"=some none
 z10:PySem.W.nsIn K mainGlobals "bool"=some none
 z11:PySem.W.nsIn K mainGlobals "dict"=some none
 z12:PySem.W.nsIn K mainGlobals "super"=some none
 z13:PySem.W.nsIn K mainGlobals "sorted"=some none
 z14:PySem.W.nsIn K mainGlobals "reversed"=some none
 z15:PySem.W.nsIn K mainGlobals "iter"=some none
 z16:PySem.W.nsIn K mainGlobals "abs"=some none
 z17:PySem.W.nsIn K mainGlobals "max"=some none
 z18:PySem.W.nsIn K mainGlobals "min"=some none
 z19:PySem.W.nsIn K mainGlobals "ValueError"=some none
 z20:PySem.W.nsIn K mainGlobals "Exception"=some none
 z21:PySem.W.nsIn K mainGlobals "zip"=some none
 z22:PySem.W.nsIn K mainGlobals "all"=some none
theorem aaG (X:K.In h) (G:h.Ns mainGlobals mg) (z:RL K):cO mg:=by
 intro x hx
 refine PySem.W.mg_none_of X G ?_
 unfold Nt at hx
 simp only[List.mem_cons,List.not_mem_nil,or_false] at hx
 rcases hx with rfl|rfl|rfl|rfl|rfl|rfl|rfl|rfl|rfl|rfl|rfl|rfl|rfl|rfl|rfl|rfl|rfl|rfl|rfl|rfl|rfl|rfl|rfl
 ·exact z.z0
 ·exact z.z1
 ·exact z.z2
 ·exact z.z3
 ·exact z.z4
 ·exact z.z5
 ·exact z.z6
 ·exact z.z7
 ·exact z.z8
 ·exact z.z9
 ·exact z.z10
 ·exact z.z11
 ·exact z.z12
 ·exact z.z13
 ·exact z.z14
 ·exact z.z15
 ·exact z.z16
 ·exact z.z17
 ·exact z.z18
 ·exact z.z19
 ·exact z.z20
 ·exact z.z21
 ·exact z.z22
end
end AL
set_option maxHeartbeats 2000000
namespace Z
open PySem L2 DL AL TY PyProof.Rows
def fW (i:Nat):Stmt:=PySem.Challenge.pw_orderatonce_k05_memory_items.main.body.getD i (.Pass ⟨0,0,0,0⟩)
end Z
set_option maxHeartbeats 2000000
namespace Z
open PySem L2 DL AL TY PyProof.Rows
section
variable {P:Program} {w:World} {K:PySem.W.Frag} {mg:Str→Option Value} {base:Heap} {f:Addr} {fd:FuncData} {c:CL}
abbrev nW:Stmt:=fW 19
abbrev Ef:List Str:=["_law_script","_law_row_here","_law_base","_law_most","_law_names_here","_law_many","_law_numbers","_law_passed","_law_k","_law_memories","_law_held","_law_name","_law_deeds","_law_deed","_law_side","_law_at","_law_number","_law_memory","_law_told","_law_due"]
theorem cV:FnScope Ef ["_law_script"] (defScope nW):=(by trivial)
theorem Ut (FA:dY K "law" "law" nW f fd) (hB:cO mg) (yM:Cal P w K mg base "_law_row" ["_law_script","_law_k","_law_many"] 1 (bJ K (pN c))) (Eh:Cal P w K mg base "_law_names" ["_law_number","_law_many"] 1 (bJ K (sX c))) (zf:Mak P w K mg base "Memory" c.Memory ["self","base","cells"] [] 3 (bJ K (pJ c))) (Fb:Cal P w K mg base "_law_set" ["_law_memory","_law_name","_law_number"] 6 (bJ K (tH c))) (Ei:Cal P w K mg base "_law_right" ["_law_memory","_law_names_here","_law_numbers","_law_strange"] 8 (bJ K (tD c))) :
  FnOk P w K mg base (L2.CX P w) 10 f fd ["_law_script"] (bJ K (vI c)):=by
 rw[Kc]
 exact YC (jH (g:=yR c) FA cV rfl fun cdv A outer s H bZ hr tk po=>⟨_,(pss_cons (bV 1 cV.nd (ou yM hr (by decide) tk (pa_cons (pv 0) (pa_cons pe_int (pa_cons pe_int pa_nil)))))
 (pss_cons (bV 2 cV.nd (gQ K pe_int (gW (gY hB (cG K hr (pv 1) pe_int)) pe_int)))
 (pss_cons (bV 3 cV.nd (cG K hr (pe_lst (pa_cons pe_int (pa_cons pe_int (pa_cons pe_int (pa_cons pe_int (pa_cons pe_int (pa_cons pe_int (pa_cons pe_int (pa_cons pe_int (pa_cons pe_int pa_nil)))))))))) (wz (pv 2) pe_int)))
 (pss_cons (bV 4 cV.nd (ou Eh hr (by decide) tk (pa_cons (cG K hr (pv 1) pe_int) (pa_cons pe_int pa_nil))))
 (pss_cons (bV 5 cV.nd (gW (gY hB (cG K hr (pv 1) pe_int)) (gQ K (pv 3) pe_int)))
 (pss_cons (RK 6 [("_law_k",8)] cV.nd (qD hB (pv 5)) (blkOk_by (own:=[("_law_k",8)]) (N:=Ef) (sc:=defScope nW) (by trivial)) (fun _ _ _ _ _=>(jo 8 cV.nd)) (fun _ _ _ _ _=>pts_nil) (fun _ _ _ _ _=>(gW (gY hB (cG K hr (pv 1) (gQ K pe_int (pv 8)))) (pv 2))))
 (pss_cons (bV 7 cV.nd pe_dnewK)
 (pss_cons (ps_for po rfl (qD hB (pv 5)) (jo 8 cV.nd) (pss_cons (ps_asg (cG K hr (pv 6) (pv 8)) (pg_sub (pv 7) (cG K hr (pv 4) (pv 8)) (qb hr)))
 pss_nil))
 (pss_cons (bV 9 cV.nd (pe_lst (pa_cons (Nz zf .nil hr (by decide) tk (pa_cons (pv 2) (pa_cons (pv 7) pa_nil))) (pa_cons (Nz zf .nil hr (by decide) tk (pa_cons (pv 2) (pa_cons (pv 7) pa_nil))) pa_nil))))
 (pss_cons (bV 10 cV.nd (pe_lst (pa_cons (Fw K hB (pv 6)) (pa_cons (Fw K hB (pv 6)) pa_nil))))
 (pss_cons (ps_if (PW.pt (pw_or (uf K hr (Fw K hB (pv 7)) (zR K (pv 4) po_none (po_some (pv 5)))) (pw_or1 (uf K hr (N8 (pe_lc (own:=[("_law_name",11)]) rfl cV.nd (pi_keys (pv 7)) (blkOk_by (own:=[("_law_name",11)]) (N:=Ef) (sc:=defScope nW) (by trivial)) (fun _ _ _ _ _=>(jo 11 cV.nd)) (fun _ _ _ _ _=>pts_nil) (fun _ _ _ _ _=>(cG K hr (pv 7) (pv 11))))) (pv 6))))) (pss_cons (ps_ret pe_bl)
 pss_nil) pss_nil)
 (pss_cons (ps_for po rfl (K8 K (zR K (pv 4) po_none (po_some (pv 5)))) (jo 11 cV.nd) (pss_cons (ps_asg (wz (wz (pv 2) pe_int) (cG K hr (pv 7) (pv 11))) (pg_sub (pv 7) (pv 11) (qb hr)))
 pss_nil))
 (pss_cons (ps_asg pe_int (pg_sub (pv 7) (cG K hr (pv 4) pe_int) (qb hr)))
 (pss_cons (bV 12 cV.nd (ou yM hr (by decide) tk (pa_cons (pv 0) (pa_cons pe_int (pa_cons pe_int pa_nil)))))
 (pss_cons (ps_for po rfl (K8 K (pv 12)) (jo 13 cV.nd) (pss_cons (bV 14 cV.nd (gW (gY hB (pv 13)) pe_int))
 (pss_cons (bV 15 cV.nd (gW (qK (gY hB (pv 13)) pe_int) (gQ K (pv 5) pe_int)))
 (pss_cons (bV 16 cV.nd (wz (gW (qK (gY hB (pv 13)) pe_int) (gQ K (pv 2) pe_int)) pe_int))
 (pss_cons (bV 17 cV.nd (cG K hr (pv 9) (pv 14)))
 (pss_cons (bV 18 cV.nd (ou Fb hr (by decide) tk (pa_cons (pv 17) (pa_cons (cG K hr (gQ K (zR K (pv 4) po_none (po_some (pv 5))) (pe_lst (pa_cons (cG K hr (pv 4) pe_int) pa_nil))) (pv 15)) (pa_cons (pv 16) pa_nil)))))
 (pss_cons (ps_if (O6 K hr (pv 15) (pv 5)) (pss_cons (bV 19 cV.nd (pe_tup (pa_cons pe_str (pa_cons (cG K hr (pv 4) pe_int) pa_nil))))
 pss_nil) (pss_cons (ps_if (PW.pt (pw_or (q_lt (pv 16) pe_int) (pw_or1 (aaO (pv 16) (pv 2))))) (pss_cons (bV 19 cV.nd (pe_tup (pa_cons pe_str (pa_cons (pv 16) pa_nil))))
 pss_nil) (pss_cons (bV 19 cV.nd pe_non)
 (pss_cons (ps_asg (pv 16) (pg_sub (cG K hr (pv 10) (pv 14)) (pv 15) (qb hr)))
 pss_nil)))
 pss_nil))
 (pss_cons (ps_if (uf K hr (pv 18) (pv 19)) (pss_cons (ps_ret pe_bl)
 pss_nil) pss_nil)
 (pss_cons (ps_for po rfl (qD hB pe_int) (jo 8 cV.nd) (pss_cons (ps_if (pt_not (vR K (ou Ei hr (by decide) tk (pa_cons (cG K hr (pv 9) (pv 8)) (pa_cons (zR K (pv 4) po_none (po_some (pv 5))) (pa_cons (cG K hr (pv 10) (pv 8)) (pa_cons (cG K hr (pv 4) pe_int) pa_nil))))))) (pss_cons (ps_ret pe_bl)
 pss_nil) pss_nil)
 pss_nil))
 pss_nil)))))))))
 (pss_cons (ps_ret pe_bl)
 pss_nil)))))))))))))))),(aD (bM (x_call (aH aj (aH aQ (aH aQ aW)))) bW)
 (aD (bM (aF ig aQ (aF g_ (dJ gR (aH (aF cH aj aQ) aW)) aQ)) bW)
 (aD (bM (aF cH (qZ (qF (aH aQ (aH aQ (aH aQ (aH aQ (aH aQ (aH aQ (aH aQ (aH aQ (aH aQ aW))))))))))) (aF wA aj aQ)) bW)
 (aD (bM (x_call (aH (aF cH aj aQ) (aH aQ aW))) bW)
 (aD (bM (aF g_ (dJ gR (aH (aF cH aj aQ) aW)) (aF ig aj aQ)) bW)
 (aD (bM (qZ (Px (qj (aH aj aW)) (yU (i:=8) (by decide)) zM (aF g_ (dJ gR (aH (aF cH aj (aF ig aQ aj)) aW)) aj))) bW)
 (aD (bM (wW NT) bW)
 (aD (oE (qj (aH aj aW)) lF (aD (bM (aF cH aj aj) (qG aj (aF cH aj aj)))
 aV))
 (aD (bM (wW (qF (aH (Pu Rw (aH aj (aH aj aW))) (aH (Pu Rw (aH aj (aH aj aW))) aW)))) bW)
 (aD (bM (wW (qF (aH (wW (Ho Gh (aH aj aW))) (aH (wW (Ho Gh (aH aj aW))) aW)))) bW)
 (aD (eY (uw (dB (aF uK (qZ (Ho Gh (aH aj aW))) (Bt aj zq (zu aj)))) (dB (aF uK (qZ (N_ zQ (yU (i:=11) (by decide)) (fun _=>zM) (fun _=>(aF cH aj aj)))) aj))) (aD (d9 lQ)
 aV) aV)
 (aD (oE (N5 (Bt aj zq (zu aj))) lF (aD (bM (aF wA (aF wA aj aQ) (aF cH aj aj)) (qG aj aj))
 aV))
 (aD (bM aQ (qG aj (aF cH aj aQ)))
 (aD (bM (x_call (aH aj (aH aQ (aH aQ aW)))) bW)
 (aD (oE (N5 aj) lF (aD (bM (aF g_ (dJ gR (aH aj aW)) aQ) bW)
 (aD (bM (aF g_ (aF qP (dJ gR (aH aj aW)) aQ) (aF ig aj aQ)) bW)
 (aD (bM (aF wA (aF g_ (aF qP (dJ gR (aH aj aW)) aQ) (aF ig aj aQ)) aQ) bW)
 (aD (bM (aF cH aj aj) bW)
 (aD (bM (x_call (aH aj (aH (aF cH (aF ig (Bt aj zq (zu aj)) (qZ (qF (aH (aF cH aj aQ) aW)))) aj) (aH aj aW)))) bW)
 (aD (eY (dB (aF x_eq aj aj)) (aD (bM (Ao (aH qO (aH (aF cH aj aQ) aW))) bW)
 aV) (aD (eY (uw (dB (aF x_lt aj aQ)) (dB (aF x_ge aj aj))) (aD (bM (Ao (aH qO (aH aj aW))) bW)
 aV) (aD (bM Pb bW)
 (aD (bM aj (qG (aF cH aj aj) aj))
 aV)))
 aV))
 (aD (eY (dB (aF uK aj aj)) (aD (d9 lQ)
 aV) aV)
 (aD (oE (qj (aH aQ aW)) lF (aD (eY (oA (vY (x_call (aH (aF cH aj aj) (aH (Bt aj zq (zu aj)) (aH (aF cH aj aj) (aH (aF cH aj aQ) aW))))))) (aD (d9 lQ)
 aV) aV)
 aV))
 aV)))))))))
 (aD (d9 lQ)
 aV))))))))))))))))⟩)
end
end Z
set_option maxHeartbeats 2000000
namespace Z
open PySem L2 DL AL TY PyProof.Rows
section
variable {P:Program} {w:World} {K:PySem.W.Frag} {mg:Str→Option Value} {base:Heap} {f:Addr} {fd:FuncData} {c:CL}
abbrev CK:Stmt:=inClass (fW 11) 3
abbrev RP:List Str:=["self","name"]
theorem RX:FnScope RP ["self","name"] (defScope CK):=(by trivial)
theorem R3 (FA:dY K "__contains__" "Memory.__contains__" CK f fd) (hB:cO mg) (fZ:∀C∈[c.Memory],Cls K C∧NoAttr K C "numbers") :
  FnOk P w K mg base (L2.CX P w) 1 f fd ["self","name"] (bJ K (jZ c)):=by
 rw[JD]
 exact jH (g:=xZ c) FA RX rfl fun cdv A outer s H bZ hr tk po=>⟨_,(pss_cons (ps_ret (ZD K hr (pv 1) (oh K (pv 0) rfl)))
 pss_nil),(aD (d9 (aF Br aj (qQ (fZ) aj)))
 aV)⟩
abbrev Dc:Stmt:=inClass (fW 11) 4
abbrev SM:List Str:=["self"]
theorem S7:FnScope SM ["self"] (defScope Dc):=(by trivial)
theorem S8 (FA:dY K "__len__" "Memory.__len__" Dc f fd) (hB:cO mg) (fZ:∀C∈[c.Memory],Cls K C∧NoAttr K C "numbers") :
  FnOk P w K mg base (L2.CX P w) 1 f fd ["self"] (bJ K (nU c)):=by
 rw[JM]
 exact jH (g:=yr c) FA S7 rfl fun cdv A outer s H bZ hr tk po=>⟨_,(pss_cons (ps_ret (vU K hB (oh K (pv 0) rfl)))
 pss_nil),(aD (d9 (dJ x_len (aH (qQ (fZ) aj) aW)))
 aV)⟩
abbrev yu:Stmt:=fW 18
abbrev JX:List Str:=["_law_memory","_law_names_here","_law_numbers","_law_strange","_law_k","_law_name"]
theorem yF:FnScope JX ["_law_memory","_law_names_here","_law_numbers","_law_strange"] (defScope yu):=(by trivial)
theorem T8 (FA:dY K "_law_right" "_law_right" yu f fd) (hB:cO mg) (Ek:je P w K mg base c.Memory "__len__" ["self"] 1 (bJ K (nU c))) (bU:xR P w K mg base c.Memory "numbers") (yj:je P w K mg base c.Memory "__contains__" ["self","name"] 1 (bJ K (jZ c))) (El:Cal P w K mg base "_law_whole" ["_law_told"] 1 (bJ K (sY c))) (pK:je P w K mg base c.Memory "__getitem__" ["self","name"] 3 (bJ K (j7 c))) (DR:Cal P w K mg base "_law_missing" ["_law_memory","_law_name"] 6 (bJ K (sW c))) :
  FnOk P w K mg base (L2.CX P w) 8 f fd ["_law_memory","_law_names_here","_law_numbers","_law_strange"] (bJ K (tD c)):=by
 rw[JW]
 exact jH (g:=yJ c) FA yF rfl fun cdv A outer s H bZ hr tk po=>⟨_,(pss_cons (ps_if (PW.pt (pw_or (uf K hr (aae Ek hr (by decide) hB (pv 0)) (vU K hB (pv 1))) (pw_or (uf K hr (N8 (pe_lc (own:=[("_law_name",5)]) rfl yF.nd (Yp bU hr (by decide) (pv 0)) (blkOk_by (own:=[("_law_name",5)]) (N:=JX) (sc:=defScope yu) (by trivial)) (fun _ _ _ _ _=>(jo 5 yF.nd)) (fun _ _ _ _ _=>pts_nil) (fun _ _ _ _ _=>(pv 5)))) (pv 1)) (pw_or1 (aad yj hr (by decide) (pv 3) (pv 0)))))) (pss_cons (ps_ret pe_bl)
 pss_nil) pss_nil)
 (pss_cons (ps_for po rfl (qD hB (vU K hB (pv 1))) (jo 4 yF.nd) (pss_cons (ps_if (PW.pt (pw_or (Yl yj hr (by decide) (cG K hr (pv 1) (pv 4)) (pv 0)) (pw_or (pt_not (vR K (ou El hr (by decide) tk (pa_cons (G8 pK hr (by decide) tk (pv 0) (cG K hr (pv 1) (pv 4))) pa_nil)))) (pw_or1 (uf K hr (G8 pK hr (by decide) tk (pv 0) (cG K hr (pv 1) (pv 4))) (cG K hr (pv 2) (pv 4))))))) (pss_cons (ps_ret pe_bl)
 pss_nil) pss_nil)
 pss_nil))
 (pss_cons (ps_ret (ou DR hr (by decide) tk (pa_cons (pv 0) (pa_cons (pv 3) pa_nil))))
 pss_nil))),(aD (eY (uw (dB (aF uK (dJ aag (aH aj aW)) (dJ x_len (aH aj aW)))) (uw (dB (aF uK (qZ (N_ (Wt zQ) (yU (i:=5) (by decide)) (fun _=>zM) (fun _=>aj))) aj)) (dB (aF P0 aj aj)))) (aD (d9 lQ)
 aV) aV)
 (aD (oE (qj (aH (dJ x_len (aH aj aW)) aW)) lF (aD (eY (uw (dB (aF P0 (aF cH aj aj) aj)) (uw (oA (vY (x_call (aH (Ik aj (aH (aF cH aj aj) aW)) aW)))) (dB (aF uK (Ik aj (aH (aF cH aj aj) aW)) (aF cH aj aj))))) (aD (d9 lQ)
 aV) aV)
 aV))
 (aD (d9 (x_call (aH aj (aH aj aW))))
 aV)))⟩
end
end Z
set_option maxHeartbeats 2000000
namespace Z
open PySem L2 DL AL TY PyProof.Rows
section
variable {P:Program} {w:World} {K:PySem.W.Frag} {mg:Str→Option Value} {base:Heap} {f:Addr} {fd:FuncData} {c:CL}
abbrev CZ:Stmt:=inClass (fW 11) 0
abbrev Sy:List Str:=["self","base","cells","contents","name","numbers"]
theorem sV:FnScope Sy ["self","base","cells"] (defScope CZ):=(by trivial)
theorem SN (FA:dY K "__init__" "Memory.__init__" CZ f fd) (hB:cO mg) (jK:eG.fX P K mg "BadNumber" "number" c.BadNumber) (yw:∃t,mg "MOST_CONTENTS"=some (.int 100 t)) (Fd:eG.fX P K mg "TooLarge" "bound" c.TooLarge) (Fo:Cal P w K mg base "is_name" ["text"] 1 (bJ K (tG c))) (Fp:eG.fX P K mg "BadName" "name" c.BadName) (tU:∀C∈[c.Memory],Cls K C∧NoAttr K C "base") (fZ:∀C∈[c.Memory],Cls K C∧NoAttr K C "numbers") :
  FnOk P w K mg base (L2.CX P w) 3 f fd ["self","base","cells"] (bJ K (pJ c)):=by
 rw[JK]
 exact jH (g:=yh c) FA sV rfl fun cdv A outer s H bZ hr tk po=>⟨_,(pss_cons (ps_if (pt_not (zj tZ tZ pe_int (pv 1) pe_int)) (pss_cons (pW rfl jK hr (by decide) tk (pv 1))
 pss_nil) pss_nil)
 (pss_cons (bV 3 sV.nd pe_int)
 (pss_cons (K9 tk (fun _ tk1=>(ps_for po rfl (pi_keys (pv 2)) (jo 4 sV.nd) (pss_cons (bV 3 sV.nd (t_ (pv 3) (pv 1)))
 pss_nil))))
 (pss_cons (ps_if (aaN (pv 3) (Nu yw)) (pss_cons (pW rfl Fd hr (by decide) tk (Nu yw))
 pss_nil) pss_nil)
 (pss_cons (bV 5 sV.nd pe_dnewK)
 (pss_cons (K9 tk (fun _ tk2=>(ps_for po rfl (pi_keys (pv 2)) (jo 4 sV.nd) (pss_cons (ps_if (pt_not (vR K (ou Fo hr (by decide) tk2 (pa_cons (pv 4) pa_nil)))) (pss_cons (pW rfl Fp hr (by decide) tk2 (pv 4))
 pss_nil) pss_nil)
 (pss_cons (ps_if (pt_not (zj tZ Hh pe_int (cG K hr (pv 2) (pv 4)) (pv 1))) (pss_cons (pW rfl jK hr (by decide) tk2 (cG K hr (pv 2) (pv 4)))
 pss_nil) pss_nil)
 (pss_cons (ps_asg (cG K hr (pv 2) (pv 4)) (pg_sub (pv 5) (pv 4) (qb hr)))
 pss_nil))))))
 (pss_cons (ps_fld (pv 0) (pv 1) rfl)
 (pss_cons (ps_fld (pv 0) (pv 5) rfl)
 pss_nil)))))))),(aD (eY (oA (dB (zp uJ uJ aQ aj aQ))) (aD (pX (aH aj aW))
 aV) aV)
 (aD (bM aQ bW)
 (aD (Mu zQ lF (fun _=>(aD (bM (aF uo aj aj) bW)
 aV)))
 (aD (eY (dB (aF aaX aj aQ)) (aD (pX (aH aQ aW))
 aV) aV)
 (aD (zN NT)
 (aD (Mu zQ lF (fun _=>(aD (eY (oA (vY (x_call (aH aj aW)))) (aD (pX (aH aj aW))
 aV) aV)
 (aD (eY (oA (dB (zp uJ x_lt aQ (aF cH aj aj) aj))) (aD (pX (aH (aF cH aj aj) aW))
 aV) aV)
 (aD (bM (aF cH aj aj) (qG aj aj))
 aV)))))
 (aD (NZ (tU) aj aj)
 (aD (NZ (fZ) aj ZX)
 aV))))))))⟩
abbrev CN:Stmt:=inClass (fW 11) 1
abbrev RQ:List Str:=["self","name"]
theorem R4:FnScope RQ ["self","name"] (defScope CN):=(by trivial)
theorem R5 (FA:dY K "__getitem__" "Memory.__getitem__" CN f fd) (hB:cO mg) (gM:eG.fX P K mg "NoCell" "name" c.NoCell) (fZ:∀C∈[c.Memory],Cls K C∧NoAttr K C "numbers") :
  FnOk P w K mg base (L2.CX P w) 3 f fd ["self","name"] (bJ K (j7 c)):=by
 rw[JF]
 exact jH (g:=yc c) FA R4 rfl fun cdv A outer s H bZ hr tk po=>⟨_,(pss_cons (ps_if (G4 K hr (pv 1) (oh K (pv 0) rfl)) (pss_cons (pW rfl gM hr (by decide) tk (pv 1))
 pss_nil) pss_nil)
 (pss_cons (ps_ret (cG K hr (oh K (pv 0) rfl) (pv 1)))
 pss_nil)),(aD (eY (dB (aF Br aj (qQ (fZ) aj))) (aD (pX (aH aj aW))
 aV) aV)
 (aD (d9 (aF cH (qQ (fZ) aj) aj))
 aV))⟩
end
end Z
set_option maxHeartbeats 2000000
namespace Z
open PySem L2 DL AL TY PyProof.Rows
section
variable {P:Program} {w:World} {K:PySem.W.Frag} {mg:Str→Option Value} {base:Heap} {f:Addr} {fd:FuncData} {c:CL}
abbrev Ea:Stmt:=fW 8
abbrev T9:List Str:=["text","letter"]
theorem Kv:FnScope T9 ["text"] (defScope Ea):=(by trivial)
theorem Uu (FA:dY K "is_name" "is_name" Ea f fd) (hB:cO mg) (Fq:∃t,mg "LETTERS"=some (.str "abcdefghijklmnopqrstuvwxyz" t)) :
  FnOk P w K mg base (L2.CX P w) 1 f fd ["text"] (bJ K (tG c)):=by
 rw[J_]
 exact jH (g:=yO c) FA Kv rfl fun cdv A outer s H bZ hr tk po=>⟨_,(pss_cons (ps_if (pt_not (zj tZ tZ pe_int (vU K hB (pv 0)) pe_int)) (pss_cons (ps_ret pe_bl)
 pss_nil) pss_nil)
 (pss_cons (ps_for po rfl (pi_str (pv 0)) (jo 1 Kv.nd) (pss_cons (ps_if (G4 K hr (pv 1) (Xu Fq)) (pss_cons (ps_ret pe_bl)
 pss_nil) pss_nil)
 pss_nil))
 (pss_cons (ps_ret pe_bl)
 pss_nil))),(aD (eY (oA (dB (zp uJ uJ aQ (dJ x_len (aH aj aW)) aQ))) (aD (d9 lQ)
 aV) aV)
 (aD (oE (X5 aj) lF (aD (eY (dB (aF Br aj qO)) (aD (d9 lQ)
 aV) aV)
 aV))
 (aD (d9 lQ)
 aV)))⟩
abbrev sU:Stmt:=inClass (fW 11) 5
theorem SQ:FnScope ["self"] ["self"] (defScope sU):=(by trivial)
theorem Va {P:Program} {w:World} {K:PySem.W.Frag} {mg:Str→Option Value} {base:Heap} {f:Addr} {fd:FuncData} {C:Addr} (FA:dY K "__iter__" "Memory.__iter__" sU f fd) (hB:cO mg) (hC:Cls K C∧NoAttr K C "numbers") (h1:PySem.W.findIn K (.ref C) "__iter__"=some (some (.ref f))) (h2:PySem.W.isFn K (.ref f)=true) (hb:Binds K fd ["self"] []):xR P w K mg base C "numbers":=
 aai FA SQ hC h1 h2 hb fun cdv A outer s H bZ=>pss_one (ps_ret (aaf hB (oh K (pv 0) rfl)))
abbrev yt:Stmt:=fW 14
abbrev JV:List Str:=["_law_number","_law_many","_law_letters","_law_size","_law_names_here","_law_k","_law_length","_law_name","_law_spot","_law_at"]
theorem lC:FnScope JV ["_law_number","_law_many"] (defScope yt):=(by trivial)
theorem Tj (FA:dY K "_law_names" "_law_names" yt f fd) (hB:cO mg)  :
  FnOk P w K mg base (L2.CX P w) 1 f fd ["_law_number","_law_many"] (bJ K (sX c)):=by
 rw[JR]
 exact jH (g:=yC c) FA lC rfl fun cdv A outer s H bZ hr tk po=>⟨_,(pss_cons (bV 2 lC.nd pe_str)
 (pss_cons (bV 3 lC.nd (gQ K pe_int (gW (qK (gY hB (pv 0)) pe_int) pe_int)))
 (pss_cons (bV 4 lC.nd (pe_lst pa_nil))
 (pss_cons (ps_for po rfl (qD hB (pv 1)) (jo 5 lC.nd) (pss_cons (bV 6 lC.nd (pv 3))
 (pss_cons (ps_if (O6 K hr (gW (gY hB (pv 0)) pe_int) pe_int) (pss_cons (bV 6 lC.nd (gQ K pe_int (gW (gQ K (pv 3) (pv 5)) pe_int)))
 pss_nil) pss_nil)
 (pss_cons (RK 7 [("_law_at",9)] lC.nd (qD hB (pv 6)) (blkOk_by (own:=[("_law_at",9)]) (N:=JV) (sc:=defScope yt) (by trivial)) (fun _ _ _ _ _=>(jo 9 lC.nd)) (fun _ _ _ _ _=>pts_nil) (fun _ _ _ _ _=>(cG K hr (pv 2) (gW (gY hB (gQ K (qK (pv 0) pe_int) (pv 9))) pe_int))))
 (pss_cons (bV 8 lC.nd (gW (gW (gY hB (qK (pv 0) pe_int)) (pv 3)) (pv 6)))
 (pss_cons (ps_asg (cG K hr (pv 2) (gW (gY hB (gQ K (qK (pv 0) pe_int) (pv 5))) pe_int)) (pg_sub (pv 7) (pv 8) (qb hr)))
 (pss_cons (ps_expr (pe_bm PySem.F.plainAttrs_list PySem.F.slot_list_append PySem.F.type_list_append mt_append (pv 4) (pa_cons (pe_join pe_str (pv 7)) pa_nil)))
 pss_nil)))))))
 (pss_cons (ps_ret (pv 4))
 pss_nil))))),(aD (bM qO bW)
 (aD (bM (aF ig aQ (aF g_ (aF qP (dJ gR (aH aj aW)) aQ) aQ)) bW)
 (aD (zN (qF aW))
 (aD (oE (qj (aH aj aW)) lF (aD (bM aj bW)
 (aD (eY (dB (aF x_eq (aF g_ (dJ gR (aH aj aW)) aQ) aQ)) (aD (bM (aF ig aQ (aF g_ (aF ig aj aj) aQ)) bW)
 aV) aV)
 (aD (zN (Px (qj (aH aj aW)) (yU (i:=9) (by decide)) zM (aF cH aj (aF g_ (dJ gR (aH (aF ig (aF qP aj aQ) aj) aW)) aQ))))
 (aD (bM (aF g_ (aF g_ (dJ gR (aH (aF qP aj aQ) aW)) aj) aj) bW)
 (aD (bM (aF cH aj (aF g_ (dJ gR (aH (aF ig (aF qP aj aQ) aj) aW)) aQ)) (qG aj aj))
 (aD (Gj (QK Pq aj (aH (X8 qO aj) aW)))
 aV)))))))
 (aD (d9 Pr)
 aV)))))⟩
end
end Z
set_option maxHeartbeats 2000000
namespace Z
open PySem L2 DL AL TY PyProof.Rows
section
variable {P:Program} {w:World} {K:PySem.W.Frag} {mg:Str→Option Value} {base:Heap} {f:Addr} {fd:FuncData} {c:CL}
abbrev DW:Stmt:=fW 13
abbrev Tn:List Str:=["_law_script","_law_k","_law_many","_law_cell","_law_great","_law_left","_law_row_here","_law_at"]
theorem lD:FnScope Tn ["_law_script","_law_k","_law_many"] (defScope DW):=(by trivial)
theorem Ug (FA:dY K "_law_row" "_law_row" DW f fd) (hB:cO mg)  :
  FnOk P w K mg base (L2.CX P w) 1 f fd ["_law_script","_law_k","_law_many"] (bJ K (pN c)):=by
 rw[J5]
 exact jH (g:=yL c) FA lD rfl fun cdv A outer s H bZ hr tk po=>⟨_,(pss_cons (bV 3 lD.nd pe_int)
 (pss_cons (ps_if (q_lt (pv 1) (vU K hB (pv 0))) (pss_cons (bV 3 lD.nd (gY hB (cG K hr (pv 0) (pv 1))))
 pss_nil) pss_nil)
 (pss_cons (bV 4 lD.nd (aaL (pv 3) (O5 pe_int pe_int)))
 (pss_cons (bV 5 lD.nd (cG K hr (pe_lst (pa_cons (gQ K (pv 3) (t_ pe_int (pv 1))) (pa_cons (wz (pv 3) (O5 pe_int pe_int)) pa_nil))) (gY hB (pv 4))))
 (pss_cons (bV 6 lD.nd (pe_lst pa_nil))
 (pss_cons (ps_for po rfl (qD hB (pv 2)) (jo 7 lD.nd) (pss_cons (ps_if (pt_not (vR K (pv 4))) (pss_cons (bV 5 lD.nd (gW (gY hB (gQ K (gQ K (t_ (pv 5) pe_int) (t_ pe_int (pv 7))) pe_int)) pe_int))
 (pss_cons (bV 5 lD.nd (gW (gY hB (gQ K (gQ K (t_ (pv 5) pe_int) (t_ pe_int (pv 7))) pe_int)) pe_int))
 pss_nil)) pss_nil)
 (pss_cons (ps_expr (pe_bm PySem.F.plainAttrs_list PySem.F.slot_list_append PySem.F.type_list_append mt_append (pv 6) (pa_cons (gW (gY hB (pv 5)) pe_int) pa_nil)))
 (pss_cons (ps_if (vR K (pv 4)) (pss_cons (bV 5 lD.nd (qK (pv 5) pe_int))
 pss_nil) pss_nil)
 pss_nil))))
 (pss_cons (ps_ret (pv 6))
 pss_nil))))))),(aD (bM aQ bW)
 (aD (eY (dB (aF x_lt aj (dJ x_len (aH aj aW)))) (aD (bM (dJ gR (aH (aF cH aj aj) aW)) bW)
 aV) aV)
 (aD (bM (aF x_ge aj (aF Pg aQ aQ)) bW)
 (aD (bM (aF cH (qZ (qF (aH (aF ig aj (aF uo aQ aj)) (aH (aF wA aj (aF Pg aQ aQ)) aW)))) (dJ gR (aH aj aW))) bW)
 (aD (zN (qF aW))
 (aD (oE (qj (aH aj aW)) lF (aD (eY (oA (vY aj)) (aD (bM (aF g_ (dJ gR (aH (aF ig (aF ig (aF uo aj aQ) (aF uo aQ aj)) aQ) aW)) aQ) bW)
 (aD (bM (aF g_ (dJ gR (aH (aF ig (aF ig (aF uo aj aQ) (aF uo aQ aj)) aQ) aW)) aQ) bW)
 aV)) aV)
 (aD (Gj (QK Pq aj (aH (aF g_ (dJ gR (aH aj aW)) aQ) aW)))
 (aD (eY (vY aj) (aD (bM (aF qP aj aQ) bW)
 aV) aV)
 aV))))
 (aD (d9 Pr)
 aV)))))))⟩
abbrev Dt:Stmt:=fW 17
abbrev S_:List Str:=["_law_memory","_law_name","e"]
theorem JZ:FnScope S_ ["_law_memory","_law_name"] (defScope Dt):=(by trivial)
theorem Td (FA:dY K "_law_missing" "_law_missing" Dt f fd) (hB:cO mg) (pK:je P w K mg base c.Memory "__getitem__" ["self","name"] 3 (bJ K (j7 c))) (gM:eG.fX P K mg "NoCell" "name" c.NoCell) (tK:∀C b,c.m .NoCell C=some b→PySem.W.exmOne K (.ref C) (.ref c.NoCell)=some b) :
  FnOk P w K mg base (L2.CX P w) 6 f fd ["_law_memory","_law_name"] (bJ K (sW c)):=by
 rw[JQ]
 exact jH (g:=yx c) FA JZ rfl fun cdv A outer s H bZ hr tk po=>⟨_,(pss_cons (Mg rfl rfl JZ.nd tk (fun _ _ _ tk1 po1=>(pss_cons (ps_expr (G8 pK hr (by decide) tk1 (pv 0) (pv 1)))
 pss_nil))
 (.as (i:=2) ⟨by rfl,by decide,.inl gM.g⟩ rfl rfl (fun _ _ _ _ _ hz hf=>(pss_cons (ps_ret (aaw K hr.units (pe_xf gM.xf gM.no hz hf (pv 2)) (pv 1)))
 pss_nil)) .nil))
 (pss_cons (ps_ret pe_bl)
 pss_nil)),(aD (N6 (fun _=>(aD (Gj (Ik aj (aH aj aW)))
 aV)) (.cons ⟨tK,rfl,fun x a d=>(aD (d9 (aF x_eq (Io aj) aj))
 aV)⟩ .nil))
 (aD (d9 lQ)
 aV))⟩
end
end Z
set_option maxHeartbeats 2000000
namespace Z
open PySem L2 DL AL TY PyProof.Rows
section
variable {P:Program} {w:World} {K:PySem.W.Frag} {mg:Str→Option Value} {base:Heap} {f:Addr} {fd:FuncData} {c:CL}
abbrev CP:Stmt:=inClass (fW 11) 2
abbrev RW:List Str:=["self","name","number"]
theorem R6:FnScope RW ["self","name","number"] (defScope CP):=(by trivial)
theorem R7 (FA:dY K "__setitem__" "Memory.__setitem__" CP f fd) (hB:cO mg) (gM:eG.fX P K mg "NoCell" "name" c.NoCell) (jK:eG.fX P K mg "BadNumber" "number" c.BadNumber) (fZ:∀C∈[c.Memory],Cls K C∧NoAttr K C "numbers") (tU:∀C∈[c.Memory],Cls K C∧NoAttr K C "base") :
  FnOk P w K mg base (L2.CX P w) 3 f fd ["self","name","number"] (bJ K (mD c)):=by
 rw[JG]
 exact jH (g:=yd c) FA R6 rfl fun cdv A outer s H bZ hr tk po=>⟨_,(pss_cons (ps_if (G4 K hr (pv 1) (oh K (pv 0) rfl)) (pss_cons (pW rfl gM hr (by decide) tk (pv 1))
 pss_nil) pss_nil)
 (pss_cons (ps_if (pt_not (zj tZ Hh pe_int (pv 2) (oh K (pv 0) rfl))) (pss_cons (pW rfl jK hr (by decide) tk (pv 2))
 pss_nil) pss_nil)
 (pss_cons (ps_asg (pv 2) (pg_sub (oh K (pv 0) rfl) (pv 1) (qb hr)))
 pss_nil))),(aD (eY (dB (aF Br aj (qQ (fZ) aj))) (aD (pX (aH aj aW))
 aV) aV)
 (aD (eY (oA (dB (zp uJ x_lt aQ aj (qQ (tU) aj)))) (aD (pX (aH aj aW))
 aV) aV)
 (aD (bM aj (qG (qQ (fZ) aj) aj))
 aV)))⟩
abbrev Dy:Stmt:=fW 15
abbrev Tc:List Str:=["_law_told"]
theorem Tq:FnScope Tc ["_law_told"] (defScope Dy):=(by trivial)
theorem Tr (FA:dY K "_law_whole" "_law_whole" Dy f fd) (hB:cO mg)  :
  FnOk P w K mg base (L2.CX P w) 1 f fd ["_law_told"] (bJ K (sY c)):=by
 rw[JT]
 exact jH (g:=yD c) FA Tq rfl fun cdv A outer s H bZ hr tk po=>⟨_,(pss_cons (ps_ret (pe_and (Nv K hB (pv 0) (Zy hB)) (pe_one (pe_not (Nv K hB (pv 0) (ZC hB))))))
 pss_nil),(aD (d9 (XC (dJ Pn (aH aj (aH QF aW))) (XF (dJ Pn (aH aj (aH QF aW))))))
 aV)⟩
abbrev Eb:Stmt:=fW 16
abbrev T_:List Str:=["_law_memory","_law_name","_law_number","e"]
theorem Kw:FnScope T_ ["_law_memory","_law_name","_law_number"] (defScope Eb):=(by trivial)
theorem Uv (FA:dY K "_law_set" "_law_set" Eb f fd) (hB:cO mg) (Dz:je P w K mg base c.Memory "__setitem__" ["self","name","number"] 3 (bJ K (mD c))) (vM:PySem.W.noSeq K c.Memory=true) (gM:eG.fX P K mg "NoCell" "name" c.NoCell) (jK:eG.fX P K mg "BadNumber" "number" c.BadNumber) (tK:∀C b,c.m .NoCell C=some b→PySem.W.exmOne K (.ref C) (.ref c.NoCell)=some b) (Ez:∀C b,c.m .BadNumber C=some b→PySem.W.exmOne K (.ref C) (.ref c.BadNumber)=some b) :
  FnOk P w K mg base (L2.CX P w) 6 f fd ["_law_memory","_law_name","_law_number"] (bJ K (tH c)):=by
 rw[Ka]
 exact jH (g:=yQ c) FA Kw rfl fun cdv A outer s H bZ hr tk po=>⟨_,(pss_cons (Mg rfl rfl Kw.nd tk (fun _ _ _ tk1 po1=>(pss_cons (ps_asg (pv 2) (Ym Dz vM hr (by decide) tk1 (pv 0) (pv 1)))
 pss_nil))
 (.as (i:=3) ⟨by rfl,by decide,.inl gM.g⟩ rfl rfl (fun _ _ _ _ _ hz hf=>(pss_cons (ps_ret (pe_tup (pa_cons pe_str (pa_cons (pe_xf gM.xf gM.no hz hf (pv 3)) pa_nil))))
 pss_nil)) (.as (i:=3) ⟨by rfl,by decide,.inl jK.g⟩ rfl rfl (fun _ _ _ _ _ hz hf=>(pss_cons (ps_ret (pe_tup (pa_cons pe_str (pa_cons (pe_xf jK.xf jK.no hz hf (pv 3)) pa_nil))))
 pss_nil)) .nil)))
 (pss_cons (ps_ret pe_non)
 pss_nil)),(aD (N6 (fun _=>(aD (bM aj (aah aj aj))
 aV)) (.cons ⟨tK,rfl,fun x a d=>(aD (d9 (Ao (aH qO (aH (Io aj) aW))))
 aV)⟩ (.cons ⟨Ez,rfl,fun x a d=>(aD (d9 (Ao (aH qO (aH (Io aj) aW))))
 aV)⟩ .nil)))
 (aD (d9 Pb)
 aV))⟩
end
end Z
set_option maxHeartbeats 2000000
local macro_rules | `(tactic| walk_at "fm")=>`(tactic| exact⟨_,_,_,_,_,_,_,_,_,_,by k_is,by k_is,by k_is,by k_is⟩)
local macro_rules | `(tactic| walk_at "mm")=>`(tactic| exact⟨_,_,_,_,_,_,_,_,_,_,by k_is,by k_is,by k_is,by k_is,by k_is⟩)
local macro_rules | `(tactic| walk_at "md")=>`(tactic| exact⟨_,_,_,_,_,_,_,_,_,_,by k_is,by k_is,by k_is,by k_is,by k_is,by k_is⟩)
local macro_rules | `(tactic| walk_at "cm")=>`(tactic| exact⟨by k_is,by k_is,by k_is,by k_is,by k_is,by k_is,by k_is⟩)
local macro_rules | `(tactic| walk_at "em")=>`(tactic| exact⟨_,by k_is,⟨_,_,_,_,_,_,_,_,_,_,_,_,_,_,_,by k_is,by first|rfl|decide +kernel⟩,by k_is,by k_is,by k_is,by k_is,by k_is,by k_is,by k_is,by k_is,by k_is,by k_is,by k_is,by first|with_unfolding_all rfl|skip,⟨_,_,_,_,_,_,_,_,_,_,_,_,_,_,_,_,_,_,_,by k_is,by k_is,by k_is,by first|rfl|k_is,by first|rfl|decide +kernel,by k_is⟩,by k_is⟩)
local macro_rules | `(tactic| walk_at "zm")=>`(tactic| exact⟨by k_is,by k_is,by k_is,by k_is,by k_is,by k_is,by k_is,by k_is,by k_is,by k_is,by k_is,by k_is,by k_is,by k_is,by k_is,by k_is,by k_is,by k_is,by k_is,by k_is,by k_is,by k_is,by k_is⟩)
local macro_rules | `(tactic| walk_at "bd")=>`(tactic| first|exact fun _ _ _ _ _ _=>AL.bd1 fun _=>rfl|exact fun _ _ _ _ _ _=>AL.bd2 fun _ _=>rfl|exact fun _ _ _ _ _ _=>AL.bd3 fun _ _ _=>rfl|exact fun _ _ _ _ _ _=>AL.bd4 fun _ _ _ _=>rfl|exact fun _ _ _ _ _ _=>AL.bd5 fun _ _ _ _ _=>rfl|exact fun _ _ _ _ _ _=>AL.bd6 fun _ _ _ _ _ _=>rfl|exact fun _ _ _ _ _ _=>AL.bd7 fun _ _ _ _ _ _ _=>rfl)
local macro_rules | `(tactic| walk_at "sy")=>`(tactic| exact⟨_,_,_,_,_,_,_,_,_,{body:=⟨_,_,_,_,_,_,rfl,rfl⟩,args:=rfl,Am:=rfl,HY:=rfl,H_:=rfl,B_:=(by intro p hp;rw[List.mem_singleton.mp hp];rfl),kind:=rfl,gen:=rfl,co:=rfl,Ri:=by decide +kernel,first:=(fun x us h=>match us,h with | [_],_=>rfl),bind:=(fun _ _ _ _ _ _ _ us h=>match us,h with | [_,_],_=>rfl)},by decide +kernel⟩)
local macro_rules | `(tactic| walk_at "pm")=>`(tactic| exact⟨_,_,_,_,_,_,_,_,_,_,_,_,by k_is,by k_is,by k_is,by k_is,by k_is,by k_is,by k_is⟩)
namespace Z
open PySem L2 DL AL TY PyProof.Rows
abbrev KY:Stmt:=inClass (fW 2) 0
theorem Uw:xJ KY "NoCell.__init__" "name":=by walk_at "sy"
abbrev Ky:Stmt:=inClass (fW 3) 0
theorem Uh:xJ Ky "BadName.__init__" "name":=by walk_at "sy"
abbrev Kd:Stmt:=inClass (fW 4) 0
theorem Tt:xJ Kd "BadNumber.__init__" "number":=by walk_at "sy"
abbrev Kh:Stmt:=inClass (fW 5) 0
theorem Ua:xJ Kh "TooLarge.__init__" "bound":=by walk_at "sy"
def mkC (w:World) (yG:Addr) (j_:Addr) (pU:Addr) (j8:Addr) (pO:Addr) (bK:Addr):CL:={OrderError:=yG,BadTable:=bK,NoOperation:=bK,NoCell:=j_,BadName:=pU,BadNumber:=j8,BadClient:=bK,BadRun:=bK,Over:=bK,TooLarge:=pO,BadStep:=bK,BadRow:=bK,Table:=bK,Kind:=bK,Shown:=bK,Raised:=bK,Emptied:=bK,Counter:=bK,Full:=bK,Memory:=bK,Operation:=bK,Alone:=bK,Build:=bK,Space:=bK,Desk:=bK,Call:=bK,Fixer:=bK,Spoiler:=bK,Verdict:=bK,AtOnce:=bK,Afterwards:=bK,Never:=bK,Repair:=bK,Standing:=bK,w:=w,has:=[.NoCell,.BadName,.BadNumber,.TooLarge]}
abbrev zzPP:Prop:=∀{c:TY.CL} (hN:TY.EC.NoCell∈c.has) (hB:TY.EC.BadNumber∈c.has) (sc:List Int),vJ c sc=some (.ok true)
theorem okl (HK:zzPP) (c:CL) (h3:c.has=[.NoCell,.BadName,.BadNumber,.TooLarge]) (ok:c.Ok):∀ns:List Int,ns.length≤63→∃h',vI c [.d (.cM ns)] []=some (.ret (.d (.bl true)),h'):=fun ns _=>⟨_,U5 ok (HK (by rw[h3];simp) (by rw[h3];simp) ns)⟩
theorem all_mk (HK:zzPP) {l:PySem.W.OpenLaw} {w:World} {K:PySem.W.Frag} {h:Heap} {mg:Str→Option Value} {fa:Addr} (X:K.In h) (G:h.Ns mainGlobals mg) (hfa:mg "law"=some (.ref fa))
  {Ui:Tok}
  {S9:Tok}
  {j_:Addr}
  {pU:Addr}
  {j8:Addr}
  {pO:Addr}
  {yG:Addr}
  {bK:Addr}
  {yg:Addr} {R8 R9:Option Addr} {R_:Array (Option Value)} {Sd Sh Sq Ss JH Sw:Value}
  {Em:Addr} {Tv Tw:Option Addr} {Tz:Array (Option Value)} {TF TJ TQ TV J8 TX:Value}
  (hz:RL K)
  (lY:PySem.W.nsIn K cStatics "thirdparty.any"=some none)
  (top:(l.prog.main.scope.names.lookup ("super":Str)).isSome=false)
  (Ft:PySem.W.nsIn K mainGlobals "LETTERS"=some (some (.str "abcdefghijklmnopqrstuvwxyz" Ui)))
  (DN:PySem.W.nsIn K mainGlobals "MOST_CONTENTS"=some (some (.int 100 S9)))
  (iG:iz l K j_ "NoCell" "NoCell.__init__" "name" KY)
  (Fe:iz l K pU "BadName" "BadName.__init__" "name" Ky)
  (iD:iz l K j8 "BadNumber" "BadNumber.__init__" "number" Kd)
  (EY:iz l K pO "TooLarge" "TooLarge.__init__" "bound" Kh)
  (Qt:PySem.W.nsIn K mainGlobals "OrderError"=some (some (.ref yG)))
  (DG:PySem.W.subIn K (.ref j_) (.ref j_)=some true)
  (Du:PySem.W.subIn K (.ref pU) (.ref j_)=some false)
  (Dm:PySem.W.subIn K (.ref j8) (.ref j_)=some false)
  (Ds:PySem.W.subIn K (.ref pO) (.ref j_)=some false)
  (Dq:PySem.W.subIn K (.ref j_) (.ref j8)=some false)
  (Dd:PySem.W.subIn K (.ref pU) (.ref j8)=some false)
  (CW:PySem.W.subIn K (.ref j8) (.ref j8)=some true)
  (C_:PySem.W.subIn K (.ref pO) (.ref j8)=some false)
  (yK:xY K "Memory" bK)
  (DY:PySem.W.findIn K (.ref bK) "base"=some none)
  (yq:PySem.W.findIn K (.ref bK) "numbers"=some none)
  (Eo:nO K "is_name" Ea)
  (Df:xX K bK "__init__" "Memory.__init__" CZ)
  (CT:vB K bK "__getitem__" "Memory.__getitem__" CN)
  (CV:vB K bK "__setitem__" "Memory.__setitem__" CP)
  (CQ:vB K bK "__contains__" "Memory.__contains__" CK)
  (Dr:vB K bK "__len__" "Memory.__len__" Dc)
  (Dg:PySem.W.findIn K (.ref bK) "__iter__"=some (some (.ref yg)))
  (Dh:PySem.W.isFn K (.ref yg)=true)
  (Di:K.lookup yg=some ⟨Sd,R8,.func (PySem.W.fnOf "__iter__" "Memory.__iter__" (defArgs sU) (defBody sU) (defScope sU) .none Sh Sq Ss R9 JH Sw),R_⟩)
  (Dj:PySem.W.codeIn K JH "Memory.__iter__"=true)
  (Dk:PySem.W.keepIn K (.ref yg)=true)
  (Ec:nO K "_law_row" DW)
  (DP:nO K "_law_names" yt)
  (DQ:nO K "_law_whole" Dy)
  (Ep:nO K "_law_set" Eb)
  (DK:nO K "_law_missing" Dt)
  (D_:nO K "_law_right" yu)
  (Es:PySem.W.nsIn K mainGlobals "law"=some (some (.ref Em)))
  (Et:K.lookup Em=some ⟨TF,Tv,.func (PySem.W.fnOf "law" "law" (defArgs nW) (defBody nW) (defScope nW) .none TJ TQ TV Tw J8 TX),Tz⟩)
  (Eu:PySem.W.codeIn K J8 "law"=true)
  (Ew:PySem.W.keepIn K (.ref Em)=true)
  (vM:PySem.W.noSeq K bK=true)
  (nd:([j_,pU,j8,pO]:List Addr).Nodup) :
  ∃fd:FuncData,(∀(s:Shared) (v:Value),BindsTo s fd ⟨[v],[]⟩ [("_law_script",v)])∧∀base:Heap,K.In base→base.Ns mainGlobals mg→FnOk l.prog w K mg base (L2.CX l.prog w) 10 fa fd ["_law_script"] (wG K):=by
 have e:=hfa.symm.trans (PySem.W.mg_of X G Es)
 cases e
 have hB:=aaG X G hz
 have Fq:=PySem.W.mg_of X G Ft
 have yw:=PySem.W.mg_of X G DN
 have gM:=iG.er X G hB lY top Uw
 have Fp:=Fe.er X G hB lY top Uh
 have jK:=iD.er X G hB lY top Tt
 have Fd:=EY.er X G hB lY top Ua
 have E_:=yK.cls
 have JL:=fun_mk (st:=sU) Di Dj Dk
 have SJ:=JL.binds (ps:=["self"]) fun _ _ _ _ _ _ us hl=>match us,hl with | [_],_=>rfl
 have Ke:=fun_mk (st:=nW) Et Eu Ew
 have aby:=Ke.binds (ps:=["_law_script"]) fun _ _ _ _ _ _ us hl=>match us,hl with | [_],_=>rfl
 let cc:CL:=mkC w yG j_ pU j8 pO bK
 have cok:cc.Ok:=Vz nd
 have tK:=M4 (K:=K) (c:=cc) (X:=.NoCell) (all1 (PySem.W.exm_ref iG.b iG.hd iG.ty DG) (all1 (PySem.W.exm_ref iG.b iG.hd iG.ty Du) (all1 (PySem.W.exm_ref iG.b iG.hd iG.ty Dm) (all1 (PySem.W.exm_ref iG.b iG.hd iG.ty Ds) BJ))))
 have Ez:=M4 (K:=K) (c:=cc) (X:=.BadNumber) (all1 (PySem.W.exm_ref iD.b iD.hd iD.ty Dq) (all1 (PySem.W.exm_ref iD.b iD.hd iD.ty Dd) (all1 (PySem.W.exm_ref iD.b iD.hd iD.ty CW) (all1 (PySem.W.exm_ref iD.b iD.hd iD.ty C_) BJ))))
 have tU:∀C∈[cc.Memory],Cls K C∧NoAttr K C "base":=(all1 ⟨E_,DY⟩ BJ)
 have fZ:∀C∈[cc.Memory],Cls K C∧NoAttr K C "numbers":=(all1 ⟨E_,yq⟩ BJ)
 have Fo:=Eo.cal l w X G (fun _ _ _ FA=>Uu (c:=cc) FA hB ⟨_,Fq⟩) (by walk_at "bd")
 have zf:=Df.mak l w X G yK (fun _ _ _ FA=>SN (c:=cc) FA hB jK ⟨_,yw⟩ Fd (Fo _) Fp tU fZ) (by walk_at "bd")
 have pK:=CT.BW l w (fun _ _ _ FA=>R5 (c:=cc) FA hB gM fZ) (by walk_at "bd")
 have Dz:=CV.BW l w (fun _ _ _ FA=>R7 (c:=cc) FA hB gM jK fZ tU) (by walk_at "bd")
 have yj:=CQ.BW l w (fun _ _ _ FA=>R3 (c:=cc) FA hB fZ) (by walk_at "bd")
 have Ek:=Dr.BW l w (fun _ _ _ FA=>S8 (c:=cc) FA hB fZ) (by walk_at "bd")
 have bU:∀base,xR l.prog w K mg base cc.Memory "numbers":=fun base=>Va (uG JL) hB ⟨E_,yq⟩ Dg Dh SJ
 have yM:=Ec.cal l w X G (fun _ _ _ FA=>Ug (c:=cc) FA hB) (by walk_at "bd")
 have Eh:=DP.cal l w X G (fun _ _ _ FA=>Tj (c:=cc) FA hB) (by walk_at "bd")
 have El:=DQ.cal l w X G (fun _ _ _ FA=>Tr (c:=cc) FA hB) (by walk_at "bd")
 have Fb:=Ep.cal l w X G (fun _ _ _ FA=>Uv (c:=cc) FA hB (Dz _) vM gM jK tK Ez) (by walk_at "bd")
 have DR:=DK.cal l w X G (fun _ _ _ FA=>Td (c:=cc) FA hB (pK _) gM tK) (by walk_at "bd")
 have Ei:=D_.cal l w X G (fun _ _ _ FA=>T8 (c:=cc) FA hB (Ek _) (bU _) (yj _) (El _) (pK _) (DR _)) (by walk_at "bd")
 exact⟨_,fun s v=>.of_eq rfl,fun base _ _=>YW (Ut (c:=cc) (uG Ke) hB (yM _) (Eh _) (zf _) (Fb _) (Ei _)) (okl HK cc rfl cok)⟩
end Z
namespace HT
open PySem PySem.W PySem.Calls PyProof.Rows
def gaps:Nat→List Nat→Option (List Nat)
 | _,[]=>some []
 | i,a::as=>match Nat.ble i a with
  | true=>(match gaps (a+1) as with
   | some gs=>some ((a-i)::gs)
   | none=>none)
  | false=>none
def pick:List Obj→List Nat→List (Option Obj)
 | [],gs=>gs.map fun _=>none
 | o::r,gs=>match gs with
  | []=>[]
  | g::gs=>match g with
   | 0=>alive o::pick r gs
   | k+1=>pick r (k::gs)
def look (l:List Obj) (a:Nat):Option Obj:=(l[a]?).bind alive
theorem VH (h:Heap) (a:Addr):look h.objs.toList a=h.get? a:=by
 unfold look Heap.get?
 rw[Array.getElem?_toList]
 cases h.objs[a]? with
 | none=>rfl
 | some o=>
  obtain⟨c,d,dt,sl⟩:=o
  cases dt<;>rfl
theorem Fv:∀(l:List Obj) (i:Nat) (as gs:List Nat),gaps i as=some gs→pick l gs=as.map fun a=>look l (a-i)
 | [],i,as,gs,e=>by
  have z:∀(as:List Nat) (i:Nat) (gs:List Nat),gaps i as=some gs→gs.length=as.length:=by
   intro as
   induction as with
   | nil=>intro i gs e;cases e;rfl
   | cons a as ih=>
    intro i gs e
    unfold gaps at e
    cases hb:Nat.ble i a with
    | false=>rw[hb] at e;cases e
    | true=>
     rw[hb] at e
     cases hg:gaps (a+1) as with
     | none=>rw[hg] at e;cases e
     | some gs'=>
      rw[hg] at e
      cases e
      rw[List.length_cons,List.length_cons,ih _ _ hg]
  show gs.map (fun _=>none)=_
  refine List.ext_getElem? fun n=>?_
  rw[List.getElem?_map,List.getElem?_map]
  have hl:=z as i gs e
  cases h1:gs[n]? with
  | none=>
   have:as.length≤n:=by rw[← hl];exact List.getElem?_eq_none_iff.mp h1
   rw[List.getElem?_eq_none this];rfl
  | some g=>
   have hn:n<as.length:=by rw[← hl];exact(List.getElem?_eq_some_iff.mp h1).1
   rw[List.getElem?_eq_getElem hn]
   show some none=some (look [] _)
   unfold look
   rfl
 | o::r,i,[],gs,e=>by cases e;rfl
 | o::r,i,a::as,gs,e=>by
  unfold gaps at e
  cases hb:Nat.ble i a with
  | false=>rw[hb] at e;cases e
  | true=>
   rw[hb] at e
   cases hg:gaps (a+1) as with
   | none=>rw[hg] at e;cases e
   | some gs'=>
    rw[hg] at e
    cases e
    have hle:i≤a:=Nat.le_of_ble_eq_true hb
    have gt:∀(as:List Nat) (j:Nat) (gs:List Nat),gaps j as=some gs→∀b∈as,j≤b:=by
     intro as
     induction as with
     | nil=>intro j gs _ b hm;cases hm
     | cons c cs ih=>
      intro j gs e b hm
      unfold gaps at e
      cases hb:Nat.ble j c with
      | false=>rw[hb] at e;cases e
      | true=>
       rw[hb] at e
       cases hg:gaps (c+1) cs with
       | none=>rw[hg] at e;cases e
       | some gs'=>
        have hj:j≤c:=Nat.le_of_ble_eq_true hb
        cases hm with
        | head=>exact hj
        | tail _ hm=>have:=ih _ _ hg b hm;omega
    have big:∀b∈as,i<b:=fun b hm=>by have:=gt as (a+1) gs' hg b hm;omega
    have step:∀b,i<b→look (o::r) (b-i)=look r (b-(i+1)):=fun b hb=>by
     unfold look
     rw[show b-i=(b-(i+1))+1 by omega,List.getElem?_cons_succ]
    cases q:a-i with
    | zero=>
     have hai:a=i:=by omega
     have hg2:gaps (i+1) as=some gs':=hai▸hg
     show alive o::pick r gs'=_
     rw[List.map_cons,Fv r (i+1) as gs' hg2]
     have e0:look (o::r) (a-i)=alive o:=by rw[q];rfl
     rw[e0]
     congr 1
     exact List.map_congr_left fun b hm=>(step b (big b hm)).symm
    | succ k=>
     have hg2:gaps (i+1) (a::as)=some (k::gs'):=by
      unfold gaps
      rw[show Nat.ble (i+1) a=true from Nat.ble_eq_true_of_le (by omega),hg,show a-(i+1)=k by omega]
     show pick r (k::gs')=_
     rw[Fv r (i+1) (a::as) (k::gs') hg2]
     exact List.map_congr_left fun b hm=>(step b (by
      cases hm with
      | head=>omega
      | tail _ hm=>exact big b hm)).symm
def obs (as:List Addr) (s:Shared):List (Option Obj):=match gaps 0 as with
 | some gs=>pick s.heap.objs.toList gs
 | none=>as.map s.heap.get?
theorem Zf (as:List Addr) (s:Shared):obs as s=as.map s.heap.get?:=by
 unfold obs
 cases e:gaps 0 as with
 | none=>rfl
 | some gs=>
  show pick _ gs=_
  rw[Fv _ 0 as gs e]
  exact List.map_congr_left fun a _=>by rw[Nat.sub_zero];exact VH _ a
def hook (K:Params→Frag) (as:List Addr) (e:∀P,as=(K P).map (·.1)):Hook:=
 ⟨List (Option Obj),obs as,fun w=>(K w.params).map fun p=>some p.2,InK K,fun w s x=>InK.of e w s (Zf as s▸x),InK.keeps⟩
theorem in_of {K:Params→Frag} {as:List Addr} {e:∀P,as=(K P).map (·.1)} {w:World} {h:Heap} (Y:(hook K as e).says w h):(K w.params).In h:=Y
end HT
local macro_rules | `(tactic| o_head ($f:ident $K $as $e))=>`(tactic| o_head HT.hook $K $as $e)
local macro_rules | `(tactic| refine $h:ident $args*)=>do
 unless args.size > 15&&args.back!.raw.isOfKind ``Lean.Parser.Term.syntheticHole do Lean.Macro.throwUnsupported
 let a:=args.pop
 `(tactic| refine($h $a* ((?hc:Z.zzPP→_) (by assumption))))
def PySem.W.Fast.tw7490658785160947494:=0
def PySem.W.Fast.tw9223207949802271177:=0
def PySem.W.Fast.tw17721284576173105770:=0
def PySem.W.Fast.tw15966850480718459052:=0
def PySem.W.Fast.tw2315886803976366895:=0
def PySem.W.Fast.tw12921094161647896592:=0
def PySem.W.Fast.tw4839253981989945328:=0
def PySem.W.Fast.tw18004554690491870545:=0
def PySem.W.Fast.tw13046626864313285781:=0
def PySem.W.Fast.tw8464557428383793849:=0
def PySem.W.Fast.tw17081262699539846522:=0
def PySem.W.Fast.tw5956464631252287323:=0
def PySem.W.Fast.tw16043071707537788157:=0
def PySem.W.Fast.tw18160920612123032130:=0
open PySem PySem.W PyProof.Rows in
set_option maxRecDepth 100000 in
set_option maxHeartbeats 0 in
theorem Z.zzWalk (HK : Z.zzPP) : PySem.Challenge.rw_orderatonce_k05_memory_items.Holds := by
 w_on;o_law;x_head;(case hw=>w_witness2);intro HK
 k_fill
 skip
 refine TY.aat (l:=PySem.Challenge.rw_orderatonce_k05_memory_items) (k:=10) (x:="_law_script") ⟨rfl,by decide,by decide⟩ rfl rfl (fun w h Y=>HT.in_of Y) ?F
 case F=>
  intro w mg fa h KX G hmg
  refine' Z.all_mk HK KX G hmg ?hz ?lY ?top ?Ft ?DN ?iG ?Fe ?iD ?EY ?Qt ?DG ?Du ?Dm ?Ds ?Dq ?Dd ?CW ?C_ ?yK ?DY ?yq ?Eo ?Df ?CT ?CV ?CQ ?Dr ?Dg ?Dh ?Di ?Dj ?Dk ?Ec ?DP ?DQ ?Ep ?DK ?D_ ?Es ?Et ?Eu ?Ew ?vM ?nd
  (case hz=>walk_at "zm")
  (case lY=>k_is)
  (case top=>first|rfl|decide +kernel)
  (case Ft|DN=>k_is)
  (case iG|Fe|iD|EY=>walk_at "em")
  (case Qt|DG|Du|Dm|Ds|Dq|Dd|CW|C_=>k_is)
  (case yK=>walk_at "cm")
  (case DY|yq=>k_is)
  (case Eo=>walk_at "fm")
  (case Df=>walk_at "mm")
  (case CT|CV|CQ|Dr=>walk_at "md")
  (case Dg|Dh|Di|Dj|Dk=>k_is)
  (case Ec|DP|DQ|Ep|DK|D_=>walk_at "fm")
  (case Es|Et|Eu|Ew|vM=>k_is)
  (case nd=>decide +kernel)
namespace TY
open PySem L2 DL AL PyProof.Rows
def Pv {α:Type} (o:Option α) (P:α→Prop):Prop:=∃a,o=some a∧P a
section
variable {α β γ ι ρ:Type} {P Q:α→Prop} {o:Option α}
theorem gj {a:α} (h:P a):Pv (some a) P:=⟨a,rfl,h⟩
theorem Pv.eq {a:α} (h:Pv o (fun x=>x=a)):o=some a:=by obtain⟨x,e,rfl⟩:=h;exact e
theorem Pv.imp (h:Pv o P) (k:∀a,P a→Q a):Pv o Q:=by obtain⟨a,e,p⟩:=h;exact⟨a,e,k a p⟩
theorem kE {f:α→Option β} {P:β→Prop} (h:Pv o fun a=>Pv (f a) P):Pv (o.bind f) P:=by
 obtain⟨a,rfl,b,e,p⟩:=h;exact⟨b,e,p⟩
theorem aY {f:α→Option β} {a:α} {P:β→Prop} (e:o=some a) (h:Pv (f a) P):Pv (o.bind f) P:=by subst e;exact h
theorem jt {f:α→Option β} {a:α} {P:β→Prop} (h:Pv (f a) P):Pv (b_ a f) P:=h
theorem Ra {b:Bool} {o1 o2:Option α} (hb:b=true) (h:Pv o1 P):Pv (if b=true then o1 else o2) P:=by rw[if_pos hb];exact h
theorem nq {b:Bool} {o1 o2:Option α} (hb:b=false) (h:Pv o2 P):Pv (if b=true then o1 else o2) P:=by rw[hb,if_neg (by simp)];exact h
def CtP (N:α→Prop) (V:ρ→Prop):Ct α ρ→Prop
 | .nx a=>N a
 | .bk a=>N a
 | .rt v=>V v
theorem GZ {o:Option (Ct α ρ)} {t:α→Option ρ} {P:ρ→Prop} (h:Pv o (CtP (fun a=>Pv (t a) P) P)):Pv (eE o t) P:=by
 obtain⟨c,rfl,p⟩:=h
 cases c with
 | nx a=>exact p
 | bk a=>exact p
 | rt v=>exact⟨v,rfl,p⟩
theorem OD {o:Option (Except Err α)} {f:α→Option β} {a:α} {P:β→Prop} (e:o=some (.ok a)) (h:Pv (f a) P):Pv ((vp o).bind f) P:=by subst e;exact h
theorem Np {f:ι→α→Option α} (I:List ι→α→Prop) {ys:List ι} {a:α} (h0:I [] a) (hs:∀done y rest b,ys=done++y::rest→I done b→Pv (f y b) (I (done++[y]))) (hP:∀b,I ys b→P b):Pv (dW f ys a) P:=by
 obtain⟨b,h1,h2⟩:=Lr (f:=f) (a:=a) I h0 (fun done y rest b e hb=>hs done y rest b e hb)
 exact⟨b,h1,hP b h2⟩
theorem G3 {f:ι→α→Option (Ct α ρ)} (I:List ι→α→Prop) {ys:List ι} {a:α} {P:Ct α ρ→Prop} (h0:I [] a) (hs:∀done y rest b,ys=done++y::rest→I done b→Pv (f y b) (fun c=>match c with|.nx b'=>I (done++[y]) b'|.bk b'=>P (.nx b')|.rt v=>P (.rt v))) (hP:∀b,I ys b→P (.nx b)):Pv (cA f ys a) P:=by
 have key:∀(rest done:List ι) (b:α),ys=done++rest→I done b→Pv (cA f rest b) P:=by
  intro rest
  induction rest with
  | nil=>intro done b e hb;rw[List.append_nil] at e;subst e;exact⟨_,rfl,hP b hb⟩
  | cons y rest ih=>
   intro done b e hb
   obtain⟨c,h1,h2⟩:=hs done y rest b e hb
   cases c with
   | nx b'=>obtain⟨r,h3,h4⟩:=ih (done++[y]) b' (by rw[e];simp) h2;exact⟨r,by rw[Gy h1];exact h3,h4⟩
   | bk b'=>exact⟨_,W8 h1,h2⟩
   | rt v=>exact⟨_,zB h1,h2⟩
 exact key ys [] a rfl h0
theorem LR {κ:Type} {e:κ→ι} {f:ι→α→Option α}:∀{xs:List κ} {a:α},dW f (xs.map e) a=dW (fun y=>f (e y)) xs a
 | [],a=>rfl
 | x::xs,a=>by
  rw[List.map_cons,vH,vH]
  congr 1;funext b;exact LR
theorem L_ {κ:Type} {e:κ→ι} {f:ι→α→Option (Ct α ρ)}:∀{xs:List κ} {a:α},cA f (xs.map e) a=cA (fun y=>f (e y)) xs a
 | [],a=>rfl
 | x::xs,a=>by
  rw[List.map_cons]
  conv=>lhs;unfold cA
  conv=>rhs;unfold cA
  cases f (e x) a with
  | none=>rfl
  | some c=>cases c<;>first|exact L_|rfl
theorem VJ {κ:Type} {e:κ→ι} {f:ι→α→Option α} (I:List κ→α→Prop) {xs:List κ} {a:α} (h0:I [] a) (hs:∀done y rest b,xs=done++y::rest→I done b→Pv (f (e y) b) (I (done++[y]))) (hP:∀b,I xs b→P b):Pv (dW f (xs.map e) a) P:=by
 rw[LR];exact Np I h0 hs hP
theorem VL {κ:Type} {e:κ→ι} {f:ι→α→Option (Ct α ρ)} (I:List κ→α→Prop) {xs:List κ} {a:α} {P:Ct α ρ→Prop} (h0:I [] a) (hs:∀done y rest b,xs=done++y::rest→I done b→Pv (f (e y) b) (fun c=>match c with|.nx b'=>I (done++[y]) b'|.bk b'=>P (.nx b')|.rt v=>P (.rt v))) (hP:∀b,I xs b→P (.nx b)):Pv (cA f (xs.map e) a) P:=by
 rw[L_];exact G3 I h0 hs hP
theorem Kl {n k:Nat} {done rest:List Nat} (e:List.range n=done++k::rest):done=List.range k∧k<n:=by
 have h1:done.length<n:=by have:=congrArg List.length e;simp at this;omega
 have h2:(List.range n)[done.length]?=some k:=by rw[e];simp
 rw[List.getElem?_range h1] at h2
 have h3:done.length=k:=by simpa using h2
 refine⟨?_,by omega⟩
 have:done=(List.range n).take done.length:=by rw[e];simp
 rw[this,h3,List.take_range,Nat.min_eq_left (by omega)]
theorem VN {f:Int→α→Option α} (I:Nat→α→Prop) {n:Nat} {a:α} (h0:I 0 a) (hs:∀k b,k<n→I k b→Pv (f (k:Int) b) (I (k+1))) (hP:∀b,I n b→P b):Pv (dW f ((List.range n).map fun(i:Nat)=>(i:Int)) a) P:=by
 refine VJ (fun done b=>I done.length b) h0 ?_ (by simpa using hP)
 intro done y rest b e hb
 obtain⟨h1,h2⟩:=Kl e
 have:done.length=y:=by rw[h1];simp
 rw[this] at hb
 refine(hs y b h2 hb).imp fun c hc=>?_
 show I (done++[y]).length c
 rw[List.length_append,this];exact hc
theorem VP {f:Int→α→Option (Ct α ρ)} (I:Nat→α→Prop) {n:Nat} {a:α} {P:Ct α ρ→Prop} (h0:I 0 a) (hs:∀k b,k<n→I k b→Pv (f (k:Int) b) (fun c=>match c with|.nx b'=>I (k+1) b'|.bk b'=>P (.nx b')|.rt v=>P (.rt v))) (hP:∀b,I n b→P (.nx b)):Pv (cA f ((List.range n).map fun(i:Nat)=>(i:Int)) a) P:=by
 refine VL (fun done b=>I done.length b) h0 ?_ (by simpa using hP)
 intro done y rest b e hb
 obtain⟨h1,h2⟩:=Kl e
 have:done.length=y:=by rw[h1];simp
 rw[this] at hb
 refine(hs y b h2 hb).imp fun c hc=>?_
 cases c with
 | nx c=>show I (done++[y]).length c;rw[List.length_append,this];exact hc
 | bk c=>exact hc
 | rt c=>exact hc
theorem Ak {b:Bool} {o:Option Bool} {P:Bool→Prop} (hb:b=false) (h:Pv o P):Pv (nM b o) P:=by unfold nM;rw[hb];exact h
end
abbrev Ev:=Str→Int
def Ev.set (ρ:Ev) (x:Str) (v:Int):Ev:=fun y=>if y=x then v else ρ y
def ptV (ρ:Ev):Pt→Int
 | .inl i=>i
 | .inr s=>ρ s
def abv (ρ:Ev) (w:List Pt):Int:=(w.map (ptV ρ)).sum
def abw (ρ:Ev) (b:Int) (w:List Pt):Int:=abv ρ w%b
structure Op where
 name:Str
 steps:List St
 turns:Int
 other:Int
structure Op.Ok (o:Op):Prop where
 steps:∀s∈o.steps,s.ok=true
 l1:1≤o.steps.length
 l8:o.steps.length≤8
 t1:1≤o.turns
 t4:o.turns≤4
 o0:0≤o.other
 o9:o.other≤9
 nm:iI o.name=true
theorem VR {L:List Str} {x:Str} (h:x∈L):∃i:Nat,BK L x=some (i:Int)∧L[i]?=some x:=by
 unfold BK
 cases q:L.findIdx? fun z=>decide (z=x) with
 | none=>
  have:=List.findIdx?_eq_none_iff.mp q x h
  simp at this
 | some i=>
  refine⟨i,rfl,?_⟩
  obtain⟨h1,h2,_⟩:=List.findIdx?_eq_some_iff_getElem.mp q
  rw[List.getElem?_eq_getElem h1]
  simpa using h2
inductive Fr where
 | rdy (v:Int)|act (t a:Nat) (look:Int) (ρ:Ev)
def St.gw:St→List Pt
 | .give w _=>w
 | _=>[]
def land (ρ:Ev) (b:Int) (t:Nat) (x:Nat×St):Fr:=if x.2.qI=true then .rdy (abw ρ b x.2.gw) else .act t x.1 (-1) ρ
def pos (L:List Str) (x:Str):Nat:=(L.findIdx? fun z=>decide (z=x)).getD 0
theorem qC {L:List Str} {x:Str} (h:x∈L):BK L x=some (pos L x:Int)∧L[pos L x]?=some x∧pos L x<L.length:=by
 obtain⟨i,h1,h2⟩:=VR h
 have:pos L x=i:=by
  unfold BK at h1
  obtain⟨j,hj,hh⟩:=Option.map_eq_some_iff.mp h1
  have:j=i:=by exact Int.ofNat.inj hh
  unfold pos;rw[hj,this];rfl
 rw[this]
 exact⟨h1,h2,(List.getElem?_eq_some_iff.mp h2).1⟩
def opL (o:Op):Str×List D×Int×Int:=(o.name,o.steps.map sD,o.turns,o.other)
def Xf (o:Op) (cells:List Str):Prop:=∀s∈o.steps,s.qI=false→s.cell∈cells
structure StB (LL CC:List Str) (s:St):Prop where
 ok:s.ok=true
 ls:∀y∈s.ls,y∈LL
 cell:s.qI=false→s.cell∈CC
structure JC (LL CC:List Str) (o:Op):Prop where
 ok:o.Ok
 st:∀s∈o.steps,StB LL CC s
 hd:∃s r,o.steps=s::r∧s.qI=false
theorem JC.cells {LL CC:List Str} {o:Op} (h:JC LL CC o):Xf o CC:=fun s hs hg=>(h.st s hs).cell hg
theorem at0 {α:Type} {x:α} {r:List α}:atI (x::r) (0:Int)=some x:=at_of (by decide) rfl
section
variable {l1 l2:Str} {CC:List Str} {f:Nat→Int}
def Jd (ss:List St):Nat:=(ss.filter fun s=>!s.qI).length
def RM (o:Op):Prop:=o.turns*(Jd o.steps:Int)≤2
def Wt1 (o:Op):Prop:=o.turns*(Jd o.steps:Int)≤1
structure OpD (LL CC:List Str) (name:Str) (o:Op):Prop extends JC LL CC o where
 name:o.name=name
 len:o.steps.length≤4
 tw:o.turns≤2
 wt:o.turns*(Jd o.steps:Int)≤4
end
def glueL (G:Op→Nat→Bool) (os:List Op):List (Str×Int):=os.flatMap fun o=>((List.range o.steps.length).filter (G o)).map fun(i:Nat)=>(o.name,(i:Int))
structure BD (b:RD) (os:List Op):Prop where
 base:2≤b.base∧b.base≤3
 loc:∃n,b.locals=[nm n 2,nm n 3]∧(b.cells=[nm n 0]∨b.cells=[nm n 0,nm n 1])∧(os.map Op.name <+: [nm n 4,nm n 5,nm n 6]∨os.map Op.name <+: [nm n 1,nm n 2,nm n 3])
 st:b.starts.length=b.cells.length∧∀x∈b.starts,0≤x∧x<b.base
 strong:∃p:Str→Bool,b.strong=b.cells.filter p
 ops:b.ops=os.map opL
 op:∀o∈os,OpD b.locals b.cells o.name o
 many:os.length=2∨os.length=3
 glue:∃G,b.glue=glueL G os∧∀o∈os,∀i,G o i=true→∀s,o.steps[i]?=some s→s.qI=false
 kind:(b.kind=0∧os.length=2)∨(b.kind=1∧os.length=3∧∀o∈os,RM o)∨(b.kind=2∧os.length=3∧b.cells.length=2∧∀o∈os,RM o)∨(b.kind=3∧os.length=2)
 at0:b.at_=0
 wt1:b.kind=2→∀o∈os.drop 1,Wt1 o
def RN (b:Int) (ν:List Int):Prop:=∀x∈ν,0≤x∧x<b
theorem kh {cs:List Str} {ν:List Int} (h:ν.length=cs.length):(cs.zip ν).map (·.1)=cs:=List.map_fst_zip (by omega)
theorem V1 {cs:List Str} {ν:List Int} (hn:cs.Nodup) (h:ν.length=cs.length) {i:Nat} {c:Str} {v:Int} (hc:cs[i]?=some c) (hv:ν[i]?=some v):fJ (cs.zip ν) c=some v:=by
 have hm:(c,v)∈cs.zip ν:=by
  have:(cs.zip ν)[i]?=some (c,v):=by rw[List.getElem?_zip_eq_some];exact⟨hc,hv⟩
  exact List.mem_of_getElem? this
 exact yX (p:=(c,v)) (by rw[kh h];exact hn) hm
theorem V2 {cs:List Str} {ν:List Int} (hn:cs.Nodup) (h:ν.length=cs.length) {i:Nat} {c:Str} {v:Int} (hc:cs[i]?=some c):jh (cs.zip ν) c v=cs.zip (ν.set i v):=by
 have hm:c∈cs:=List.mem_of_getElem? hc
 have hil:=(List.getElem?_eq_some_iff.mp hc).1
 unfold jh
 rw[if_pos (by rw[kh h];exact hm)]
 refine List.ext_getElem? fun j=>?_
 rw[List.getElem?_map]
 by_cases hj:j<cs.length
 ·have e1:(cs.zip ν)[j]?=some (cs[j],ν[j]):=by rw[List.getElem?_zip_eq_some];exact⟨List.getElem?_eq_getElem hj,List.getElem?_eq_getElem (by omega)⟩
  rw[e1]
  show some (if cs[j]=c then(c,v) else(cs[j],ν[j]))=_
  symm
  rw[List.getElem?_zip_eq_some]
  by_cases hij:i=j
  ·subst hij
   have e:cs[i]=c:=by rw[List.getElem?_eq_getElem hil] at hc;exact Option.some.inj hc
   rw[if_pos e]
   exact⟨hc,by rw[List.getElem?_set_self (by omega)]⟩
  ·have e:cs[j]≠c:=fun z=>hij (by
    rw[List.getElem?_eq_getElem hil] at hc
    exact(List.getElem_inj hn).mp ((Option.some.inj hc).trans z.symm))
   rw[if_neg e]
   exact⟨List.getElem?_eq_getElem hj,by rw[List.getElem?_set_ne hij,List.getElem?_eq_getElem (by omega)]⟩
 ·rw[List.getElem?_eq_none (by simp;omega),List.getElem?_eq_none (by simp;omega)];rfl
end TY
set_option maxHeartbeats 2000000
namespace AL
open PySem L2 DL PyProof.Rows
end AL
set_option maxHeartbeats 2000000
namespace TY
open PySem L2 DL AL PyProof.Rows
end TY
set_option maxHeartbeats 4000000
namespace DL
open PySem L2 PyProof.Rows
end DL
namespace AL
open PySem L2 DL PyProof.Rows
end AL
namespace TY
open PySem L2 DL AL PyProof.Rows
end TY
set_option maxHeartbeats 2000000
namespace TY
open PySem L2 DL AL PyProof.Rows
end TY
set_option maxHeartbeats 2000000
namespace TY
open PySem L2 DL AL PyProof.Rows
theorem Nq (n k:Int):dU (.str (nm n k)):=(Af n k).2
theorem BD.names {b:RD} {os:List Op} (h:BD b os):(os.map Op.name).Nodup∧∀o∈os,dU (.str o.name)∧PyData.strOk o.name=true:=by
 obtain⟨n,_,_,hp⟩:=h.loc
 have three:∀a c d:Int,0≤a∧a<c∧c<d∧d<26→[nm n a,nm n c,nm n d].Nodup:=by
  intro a c d hh
  simp only[List.nodup_cons,List.mem_cons,List.not_mem_nil,or_false,not_false_eq_true,List.nodup_nil,and_true,not_or]
  exact⟨⟨fun z=>by have:=tX (n:=n) (k:=a) (j:=c) (by omega) (by omega) z;omega,fun z=>by have:=tX (n:=n) (k:=a) (j:=d) (by omega) (by omega) z;omega⟩,fun z=>by have:=tX (n:=n) (k:=c) (j:=d) (by omega) (by omega) z;omega⟩
 have good:∀x∈os.map Op.name,dU (.str x)∧PyData.strOk x=true:=by
  intro x hx
  rcases hp with hp|hp
  ·have:=hp.subset hx
   simp only[List.mem_cons,List.not_mem_nil,or_false] at this
   rcases this with e|e|e<;>rw[e]<;>exact⟨Nq _ _,yW _ _⟩
  ·have:=hp.subset hx
   simp only[List.mem_cons,List.not_mem_nil,or_false] at this
   rcases this with e|e|e<;>rw[e]<;>exact⟨Nq _ _,yW _ _⟩
 refine⟨?_,fun o ho=>good _ (List.mem_map.mpr ⟨o,ho,rfl⟩)⟩
 rcases hp with hp|hp
 ·exact hp.sublist.nodup (three 4 5 6 (by omega))
 ·exact hp.sublist.nodup (three 1 2 3 (by omega))
end TY
set_option maxHeartbeats 2000000
namespace TY
open PySem L2 DL AL PyProof.Rows
end TY
set_option maxHeartbeats 2000000
namespace TY
open PySem L2 DL AL PyProof.Rows
end TY
set_option maxHeartbeats 2000000
namespace TY
open PySem L2 DL AL PyProof.Rows
instance abE:DecidableEq (Int×Int×Int×Int×List Int):=inferInstance
instance abz:DecidableEq (List (Int×(Int×Int×Int×Int×List Int))):=inferInstance
instance abF:DecidableEq (List Int×List (Int×(Int×Int×Int×Int×List Int))):=inferInstance
end TY
set_option maxHeartbeats 2000000
namespace TY
open PySem L2 DL AL PyProof.Rows
end TY
set_option maxHeartbeats 2000000
namespace TY
open PySem L2 DL AL PyProof.Rows
theorem Ux {b:Int} {n:Nat} (hb:2≤b):(2:Int) ^ n≤b ^ n:=by
 induction n with
 | zero=>simp
 | succ n ih=>
  rw[Int.pow_succ,Int.pow_succ]
  have h1:(0:Int)<2 ^ n:=Int.pow_pos (by omega)
  exact Int.mul_le_mul ih hb (by omega) (by omega)
theorem Xg {b:Int} {n:Nat} (hb:2≤b) (h:b ^ n≤100):n≤6:=by
 rcases Nat.lt_or_ge 6 n with hn|hn
 ·have h1:=Ux (n:=n) hb
  have h2:(2:Int) ^ 7≤2 ^ n:=by
   obtain⟨k,rfl⟩:∃k,n=7+k:=⟨n-7,by omega⟩
   rw[Int.pow_add]
   have:(0:Int)<2 ^ k:=Int.pow_pos (by omega)
   have:(1:Int)≤2 ^ k:=by omega
   omega
  have:(2:Int) ^ 7=128:=by decide
  omega
 ·exact hn
theorem Xh {b:Int} (hb:2≤b∧b≤10) {ms:List (Str×Int)} (hn:(ms.map (·.1)).Nodup) (hf:b ^ ms.length≤100) (h:∀p∈ms,iI p.1=true∧dU (.str p.1)∧p.1.length≤16000000∧0≤p.2∧p.2<b):nR b ms=some (.ok ⟨b,ms⟩):=by
 have key:∀l:List (Str×Int),(∀p∈l,p∈ms)→lJ b l=none:=by
  intro l
  induction l with
  | nil=>intro _;rfl
  | cons p l ih=>
   intro hm
   obtain⟨h1,_,_,h4,h5⟩:=h p (hm p (by simp))
   unfold lJ
   rw[if_neg (by rw[h1];simp),if_neg (by omega)]
   exact ih fun q hq=>hm q (by simp[hq])
 have hl:=Xg hb.1 hf
 rw[Tf hn (fun p hp=>⟨(h p hp).2.1,zF (by have:=h p hp;omega),(h p hp).2.2.1⟩) (by omega) (zF (by omega))]
 have e:Ah b ms=none:=by
  unfold Ah
  rw[if_neg (by omega),if_neg (by omega),key ms fun _ h=>h]
 rw[e];rfl
end TY
set_option maxHeartbeats 2000000
namespace TY
open PySem L2 DL AL PyProof.Rows
abbrev sO (zs:List (Str×Int)):Ob:=.aM (kS zs) (dV D.int zs)
theorem tV {h:List Ob} {n:Nat} {zs:List (Str×Int)} (e:h[n]?=some (sO zs)):lB D.int h n=some zs:=Y_ (fun a b e=>by injection e) e
theorem Qu {cs:List Str} {ν:List Int} (hn:cs.Nodup) (h:ν.length=cs.length) (hl:cs.length≤1000) {x:Str} (hx:x∈cs) {v:Int}:jy (cs.zip ν) x v=some (cs.zip (ν.set (pos cs x) v)):=by
 rw[← V2 hn h (qC hx).2.1]
 exact yZ (by rw[List.length_zip];omega)
theorem Hw {cs:List Str} {ν:List Int} (hn:cs.Nodup) (h:ν.length=cs.length) {x:Str} (hx:x∈cs):fJ (cs.zip ν) x=some (ν.getD (pos cs x) 0):=by
 have hp:=(qC hx).2.2
 refine V1 hn h (qC hx).2.1 ?_
 rw[List.getD_eq_getElem?_getD,List.getElem?_eq_getElem (by omega)];rfl
section
variable {c:CL} {h:List Ob} {m mm:Nat} {b:Int} {cs:List Str} {μ:List Int}
theorem Uy {x:Str} {v:Int} (h3:EC.NoCell∈c.has) (H:hM c h m=some (mm,⟨b,cs.zip μ⟩)) (hl:μ.length=cs.length) (hx:x∉cs) (hr:dU (.str x)):lE c m x v h=some (D.tup [D.str ("cell":Str),D.str x],h):=by
 unfold lE
 rw[H,Option.bind_some]
 have e:i_ ⟨b,cs.zip μ⟩ x v=some (.error ⟨.NoCell,[.str x]⟩):=by
  unfold i_
  rw[if_pos (by rw[kh hl];simp[hx]),qH hr]
 show eE (k_ c (mW (i_ ⟨b,cs.zip μ⟩ x v) _ _) _) _=_
 rw[e,FW]
 unfold k_
 simp only[if_pos h3]
 rfl
theorem Vb {x:Str} {v:Int} (h3:EC.BadNumber∈c.has) (H:hM c h m=some (mm,⟨b,cs.zip μ⟩)) (hl:μ.length=cs.length) (hx:x∈cs) (hv:v<0∨b≤v) (hr:dU (.int v)):lE c m x v h=some (D.tup [D.str ("number":Str),D.int v],h):=by
 unfold lE
 rw[H,Option.bind_some]
 have e:i_ ⟨b,cs.zip μ⟩ x v=some (.error ⟨.BadNumber,[.int v]⟩):=by
  unfold i_
  rw[if_neg (by rw[kh hl];simp[hx]),if_pos (by
   show (!(decide ((0:Int)≤v)&&decide (v<b)))=true
   simp only[Bool.not_eq_true',Bool.and_eq_false_iff,decide_eq_false_iff_not]
   omega),qH hr]
 show eE (k_ c (mW (i_ ⟨b,cs.zip μ⟩ x v) _ _) _) _=_
 rw[e,FW]
 unfold k_
 simp only[if_pos h3]
 rfl
theorem V3 {x:Str} {v:Int} (hn:cs.Nodup) (nQ:cs.length≤1000) (H:hM c h m=some (mm,⟨b,cs.zip μ⟩)) (hl:μ.length=cs.length) (hx:x∈cs) (hv:0≤v∧v<b):lE c m x v h=some (D.non,fV h mm ⟨b,cs.zip (μ.set (pos cs x) v)⟩):=by
 unfold lE
 rw[H,Option.bind_some]
 have e:i_ ⟨b,cs.zip μ⟩ x v=some (.ok ⟨b,cs.zip (μ.set (pos cs x) v)⟩):=by
  unfold i_
  rw[if_neg (by rw[kh hl];simp[hx]),if_neg (by
   show ¬(!(decide ((0:Int)≤v)&&decide (v<b)))=true
   simp only[Bool.not_eq_true',Bool.and_eq_false_iff,decide_eq_false_iff_not]
   omega)]
  show (jy (cs.zip μ) x v).bind _=_
  rw[Qu hn hl nQ hx]
  rfl
 show eE (k_ c (mW (i_ ⟨b,cs.zip μ⟩ x v) _ _) _) _=_
 rw[e]
 rfl
theorem Vc {x:Str} (h3:EC.NoCell∈c.has) (H:hM c h m=some (mm,⟨b,cs.zip μ⟩)) (hl:μ.length=cs.length) (hx:x∉cs) (hr:dU (.str x)) (ho:PyData.strOk x=true):vC c m x h=some true:=by
 unfold vC
 rw[H,Option.bind_some]
 have e:mO ⟨b,cs.zip μ⟩ x=some (.error ⟨.NoCell,[.str x]⟩):=by
  unfold mO
  rw[if_pos (by rw[kh hl];simp[hx]),qH hr]
 show eE (k_ c (mW (mO ⟨b,cs.zip μ⟩ x) _ _) _) _=_
 rw[e,FW]
 unfold k_
 simp only[if_pos h3]
 unfold vh
 rw[if_pos rfl]
 simp only[List.getElem?_cons_zero,Option.bind_some]
 rw[vK (n:=0) (Ag ho) (by omega)]
 rfl
theorem KZ {xs:List Str} (h:∀x∈xs,PyData.strOk x=true):Cm 1 (vL D.str xs):=Ou fun d hd=>by obtain⟨x,hx,rfl⟩:=List.mem_map.mp hd;exact Ag (h x hx)
theorem Nr {l:Nat} {x:Str} (h3:EC.NoCell∈c.has) (hn:cs.Nodup) (nQ:cs.length≤1000) (hcs:∀y∈cs,PyData.strOk y=true) (H:hM c h m=some (mm,⟨b,cs.zip μ⟩)) (hl:μ.length=cs.length) (hL:h[l]?=some (.lst (μ.map D.int))) (hx:x∉cs) (hr:dU (.str x)) (ho:PyData.strOk x=true):nY c m cs l x h=some true:=by
 refine Pv.eq ?_
 unfold nY
 have hk:(cs.zip μ).map (·.1)=cs:=kh hl
 have hzl:(cs.zip μ).length=cs.length:=by rw[List.length_zip];omega
 refine aY H ?_
 refine aY (a:=(cs.length:Int)) (by
  show (if (cs.zip μ).length<16000000 then some ((cs.zip μ).length:Int) else none)=_
  rw[hzl,if_pos (by omega)]) ?_
 show Pv ((nM _ ((gK _ _ ((cs.zip μ).map (·.1))).bind _)).bind _) _
 simp only[hk]
 refine kE (Ak (by simp) (aY (Gx (g:=fun y=>y) (by omega) (fun _ _=>rfl) (fun _ _=>rfl)) ?_))
 rw[List.map_id']
 refine aY (vK (KZ hcs) (by omega)) (gj ?_)
 refine nq (by simp[hx]) (aY (Bh (by omega)) (GZ (VP (fun _ _=>True) trivial ?_ fun _ _=>?_)))
 ·intro k u hk' _
  have hkm:k<μ.length:=by omega
  refine aY (a:=cs[k]) (by rw[qW];exact List.getElem?_eq_getElem hk') ?_
  have hmem:cs[k]∈cs:=List.getElem_mem hk'
  have hp:pos cs cs[k]=k:=by
   have:=(qC hmem).2.1
   have h2:=(qC hmem).2.2
   rw[List.getElem?_eq_getElem h2] at this
   have e:=Option.some.inj this
   rcases Nat.lt_trichotomy (pos cs cs[k]) k with hlt|heq|hgt
   ·exact absurd e (List.pairwise_iff_getElem.mp hn _ _ h2 hk' hlt)
   ·exact heq
   ·exact absurd e.symm (List.pairwise_iff_getElem.mp hn _ _ hk' h2 hgt)
  refine kE (Ak (by simp[hmem]) (aY (Hw hn hl hmem) ?_))
  rw[hp]
  have e1:μ.getD k 0=μ[k]:=by rw[List.getD_eq_getElem?_getD,List.getElem?_eq_getElem hkm];rfl
  rw[e1]
  refine aY (show yE (μ[k])=some true from rfl) (kE (Ak rfl (aY (Qo (fun a b e=>by injection e) hL) (aY (a:=μ[k]) (by rw[qW];exact List.getElem?_eq_getElem hkm) (gj (gj (nq (by simp) (gj trivial))))))))
 ·exact aY (Vc h3 H hl hx hr ho) (gj rfl)
end
structure oM (c:CL) (h:List Ob) (b:Int) (cs:List Str) (d7 d8:List Int):Prop where
 qm:h[5]?=some (jJ [1,3])
 ql:h[8]?=some (jJ [6,7])
 m0:cY c h 1 2 ⟨b,cs.zip d7⟩
 m1:cY c h 3 4 ⟨b,cs.zip d8⟩
 l0:h[6]?=some (.lst (d7.map D.int))
 l1:h[7]?=some (.lst (d8.map D.int))
 n0:d7.length=cs.length
 n1:d8.length=cs.length
theorem tL {c:CL} {h h':List Ob} {n m:Nat} {r:bU} (H:cY c h n m r) (e1:h'[n]?=h[n]?) (e2:h'[m]?=h[m]?):cY c h' n m r:=⟨e1.trans H.o,e2.trans H.d⟩
theorem V4:∀a b:Int,D.int a=D.int b→a=b:=fun a b e=>by injection e
theorem Xi {os:List Str} {ν:List Int} {b:Int} (hl:ν.length=os.length) (hn:os.Nodup) (hb:2≤b∧b≤10) (hf:b ^ os.length≤100) (ho:∀x∈os,iI x=true∧dU (.str x)∧x.length≤16000000) (hR:RN b ν):nR b (os.zip ν)=some (.ok ⟨b,os.zip ν⟩):=
 Xh hb (by rw[kh hl];exact hn) (by rw[List.length_zip];rw[show min os.length ν.length=os.length by omega];exact hf) fun p hp=>by
  have h1:p.1∈os:=by rw[← kh hl];exact List.mem_map_of_mem hp
  have h2:p.2∈ν:=List.of_mem_zip hp |>.2
  obtain⟨a1,a2,a3⟩:=ho _ h1
  exact⟨a1,a2,a3,(hR _ h2).1,(hR _ h2).2⟩
theorem Zg {b:Int} (hb:2≤b∧b≤10):∃most:Nat,atI [(6:Int),(4:Int),(3:Int),(2:Int),(2:Int),(2:Int),(2:Int),(2:Int),(2:Int)] (b-(2:Int))=some (most:Int)∧2≤most∧most≤6∧∀k:Nat,k≤most→b ^ k≤100:=by
 have h:b=2∨b=3∨b=4∨b=5∨b=6∨b=7∨b=8∨b=9∨b=10:=by omega
 have small:∀k:Nat,k≤6→k=0∨k=1∨k=2∨k=3∨k=4∨k=5∨k=6:=fun k h=>by omega
 rcases h with rfl|rfl|rfl|rfl|rfl|rfl|rfl|rfl|rfl
 ·exact⟨6,rfl,by omega,by omega,fun k hk=>by rcases small k (by omega) with rfl|rfl|rfl|rfl|rfl|rfl|rfl<;>first|decide|omega⟩
 ·exact⟨4,rfl,by omega,by omega,fun k hk=>by rcases small k (by omega) with rfl|rfl|rfl|rfl|rfl|rfl|rfl<;>first|decide|omega⟩
 ·exact⟨3,rfl,by omega,by omega,fun k hk=>by rcases small k (by omega) with rfl|rfl|rfl|rfl|rfl|rfl|rfl<;>first|decide|omega⟩
 all_goals exact⟨2,rfl,by omega,by omega,fun k hk=>by rcases small k (by omega) with rfl|rfl|rfl|rfl|rfl|rfl|rfl<;>first|decide|omega⟩
theorem Ma {cs:List Str} (hn:cs.Nodup) {k:Nat} (hk:k<cs.length):pos cs cs[k]=k:=by
 have hmem:cs[k]∈cs:=List.getElem_mem hk
 have:=(qC hmem).2.1
 have h2:=(qC hmem).2.2
 rw[List.getElem?_eq_getElem h2] at this
 have e:=Option.some.inj this
 rcases Nat.lt_trichotomy (pos cs cs[k]) k with hlt|heq|hgt
 ·exact absurd e (List.pairwise_iff_getElem.mp hn _ _ h2 hk hlt)
 ·exact heq
 ·exact absurd e.symm (List.pairwise_iff_getElem.mp hn _ _ hk h2 hgt)
theorem Zh {cs:List Str} {ν:List Int} (hn:cs.Nodup) (hl:ν.length=cs.length) (nQ:cs.length≤1000):gK (fun _=>some true) (fun name=>(fJ (cs.zip ν) name).bind fun v=>some v) cs=some ν:=by
 rw[Gx (g:=fun x=>ν.getD (pos cs x) 0) (by omega) (fun _ _=>rfl) (fun x hx=>by rw[Hw hn hl hx];rfl)]
 congr 1
 refine List.ext_getElem (by rw[List.length_map];omega) fun i h1 h2=>?_
 rw[List.getElem_map,Ma hn (by rw[List.length_map] at h1;exact h1),List.getD_eq_getElem?_getD,List.getElem?_eq_getElem h2]
 rfl
section
variable {c:CL} (hN:EC.NoCell∈c.has) (hB:EC.BadNumber∈c.has) {b:Int} {cs:List Str} {x:Str} (hn:cs.Nodup) (nQ:cs.length≤1000) (hcs:∀y∈cs,PyData.strOk y=true) (hx:x∉cs) (hr:dU (.str x)) (ho:PyData.strOk x=true)
include hN hn nQ hcs hx hr ho
theorem aaH {H:List Ob} {d7 d8:List Int} (J:oM c H b cs d7 d8):Pv ((jC (0:Int) (2:Int)).bind fun r1=>
 eE (cA (fun k2 s_2=>
 (hQ H 5).bind fun nZ=>
 (atI nZ k2).bind fun pC=>
 (hQ H 8).bind fun oK=>
 (atI oK k2).bind fun pG=>
 (nY c pC cs pG x H).bind fun pH=>
 if (!pH)=true then some (.rt (.rt (.ok false)))
 else some (.nx ())) r1 ()) fun Cz=>
 some (.nx H:Ct (List Ob) (Except Err Bool))) (fun z=>z=.nx H):=by
 refine aY (show jC (0:Int) (2:Int)=some [(0:Int),(1:Int)] from rfl) (GZ (G3 (fun _ _=>True) trivial ?_ (fun _ _=>gj rfl)))
 rintro done y rest _ he _
 have hy:y=0∨y=1:=by
  have:y∈[(0:Int),1]:=by rw[he];simp
  simpa using this
 rcases hy with rfl|rfl
 ·exact aY (uD J.qm) (aY (show atI [1,3] (0:Int)=some 1 from rfl) (aY (uD J.ql) (aY (show atI [6,7] (0:Int)=some 6 from rfl) (aY (Nr hN hn nQ hcs (Bl J.m0) J.n0 J.l0 hx hr ho) (nq rfl (gj trivial))))))
 ·exact aY (uD J.qm) (aY (show atI [1,3] (1:Int)=some 3 from rfl) (aY (uD J.ql) (aY (show atI [6,7] (1:Int)=some 7 from rfl) (aY (Nr hN hn nQ hcs (Bl J.m1) J.n1 J.l1 hx hr ho) (nq rfl (gj trivial))))))
include hB
theorem Zi {h:List Ob} {d7 d8:List Int} (J:oM c h b cs d7 d8) (hb:2≤b∧b≤10) {deed:Int} (hcr:∀y∈cs,dU (.str y)) :
  Pv (b_ (deed%(2:Int)) fun side=>
 (jR (deed/(2:Int)) ((cs.length:Int)+(1:Int))).bind fun at_=>
 (jR (deed/(14:Int)) (b+(4:Int))).bind fun v11=>
 b_ (v11-(2:Int)) fun number=>
 (hQ h 5).bind fun za=>
 (atI za side).bind fun zJ=>
 (Bw cs [x]).bind fun Cu=>
 (atI Cu at_).bind fun Cv=>
 (lE c zJ Cv number h).bind fun told=>
 (if (decide (at_=(cs.length:Int)))=true then b_ (D.tup [D.str ("cell":Str),D.str x]) fun due=>
 some (due,told.2) else(if ((decide (number<(0:Int))) || (decide (b≤number)))=true then b_ (D.tup [D.str ("number":Str),D.int number]) fun BL=>
 some (BL,told.2) else b_ ((fun _=>D.non) ()) fun BP=>
 (hQ told.2 8).bind fun held=>
 (atI held side).bind fun sJ=>
 (hL D.int told.2 sJ).bind fun Cy=>
 (oY Cy at_ number).bind fun ys=>
 b_ (told.2.set sJ (.lst (ys.map D.int))) fun BR=>
 some (BP,BR)).bind fun s_=>
 some (s_.1,s_.2)).bind fun s_1=>
 (lA ((fun d=>d) told.1) ((fun d=>d) s_1.1)).bind fun q2=>
 if (!q2)=true then some (.rt (.ok false))
 else(jC (0:Int) (2:Int)).bind fun r1=>
 eE (cA (fun k2 s_2=>
 (hQ s_1.2 5).bind fun nZ=>
 (atI nZ k2).bind fun pC=>
 (hQ s_1.2 8).bind fun oK=>
 (atI oK k2).bind fun pG=>
 (nY c pC cs pG x s_1.2).bind fun pH=>
 if (!pH)=true then some (.rt (.rt (.ok false)))
 else some (.nx ())) r1 ()) fun Cz=>
 some (.nx s_1.2:Ct (List Ob) (Except Err Bool))) (fun z=>∃h' d7 d8,z=.nx h'∧oM c h' b cs d7 d8):=by
 refine jt (aY (tQ (by omega)) (aY (tQ (by omega)) (jt ?_)))
 have hat:0≤deed/2%((cs.length:Int)+1)∧deed/2%((cs.length:Int)+1)≤cs.length:=by
  have h1:=Int.emod_nonneg (deed/2) (show (cs.length:Int)+1≠0 by omega)
  have h2:=Int.emod_lt_of_pos (deed/2) (show (0:Int)<(cs.length:Int)+1 by omega)
  omega
 have hnum:-2≤deed/14%(b+4)-2∧deed/14%(b+4)-2<b+2:=by
  have h1:=Int.emod_nonneg (deed/14) (show b+4≠0 by omega)
  have h2:=Int.emod_lt_of_pos (deed/14) (show (0:Int)<b+4 by omega)
  omega
 generalize deed/2%((cs.length:Int)+1)=a at *
 generalize deed/14%(b+4)-2=v at *
 obtain⟨k,rfl⟩:∃k:Nat,a=(k:Int):=⟨a.toNat,by omega⟩
 have aaI:∃(m mm l:Nat) (μ:List Int),atI [1,3] (deed%2)=some m∧atI [6,7] (deed%2)=some l∧hM c h m=some (mm,⟨b,cs.zip μ⟩)∧μ.length=cs.length∧h[l]?=some (.lst (μ.map D.int))∧(∀h' sS,h'.length=h.length→(∀j,j≠mm→j≠l→h'[j]?=h[j]?)→h'[mm]?=some (sO (cs.zip sS))→h'[l]?=some (.lst (sS.map D.int))→sS.length=cs.length→∃d7 d8,oM c h' b cs d7 d8)∧mm<h.length∧l<h.length∧mm≠l∧(mm≠8∧l≠8):=by
  have l5:=(List.getElem?_eq_some_iff.mp J.ql).1
  have:deed%2=0∨deed%2=1:=by omega
  rcases this with e|e<;>rw[e]
  ·refine⟨1,2,6,d7,rfl,rfl,Bl J.m0,J.n0,J.l0,fun h' sS _ hf h1 h2 h3=>⟨sS,d8,⟨(hf 5 (by omega) (by omega)).trans J.qm,(hf 8 (by omega) (by omega)).trans J.ql,⟨(hf 1 (by omega) (by omega)).trans J.m0.o,h1⟩,tL J.m1 (hf 3 (by omega) (by omega)) (hf 4 (by omega) (by omega)),h2,(hf 7 (by omega) (by omega)).trans J.l1,h3,J.n1⟩⟩,by omega,by omega,by omega,by omega,by omega⟩
  ·refine⟨3,4,7,d8,rfl,rfl,Bl J.m1,J.n1,J.l1,fun h' sS _ hf h1 h2 h3=>⟨d7,sS,⟨(hf 5 (by omega) (by omega)).trans J.qm,(hf 8 (by omega) (by omega)).trans J.ql,tL J.m0 (hf 1 (by omega) (by omega)) (hf 2 (by omega) (by omega)),⟨(hf 3 (by omega) (by omega)).trans J.m1.o,h1⟩,(hf 6 (by omega) (by omega)).trans J.l0,h2,J.n0,h3⟩⟩,by omega,by omega,by omega,by omega,by omega⟩
 obtain⟨m,mm,l,μ,e1,e2,hm,hμ,hL,hJ,hmm,hll,hne,h8⟩:=aaI
 refine aY (uD J.qm) (aY e1 (aY (W4 (by simp;omega)) ?_))
 have hj:∀H:List Ob,(∃d7 d8,oM c H b cs d7 d8)→∀d:D,Cm 1 d→∀told:D,told=d→Pv ((lA told d).bind fun q2=>
   if (!q2)=true then some (.rt (.ok false))
   else(jC (0:Int) (2:Int)).bind fun r1=>
   eE (cA (fun k2 s_2=>
   (hQ H 5).bind fun nZ=>
   (atI nZ k2).bind fun pC=>
   (hQ H 8).bind fun oK=>
   (atI oK k2).bind fun pG=>
   (nY c pC cs pG x H).bind fun pH=>
   if (!pH)=true then some (.rt (.rt (.ok false)))
   else some (.nx ())) r1 ()) fun Cz=>
   some (.nx H:Ct (List Ob) (Except Err Bool))) (fun z=>∃h' d7 d8,z=.nx h'∧oM c h' b cs d7 d8):=by
  rintro H ⟨a0,a1,K⟩ d hd told rfl
  exact aY (vK hd (by omega)) (nq rfl ((aaH hN hn nQ hcs hx hr ho K).imp fun z hz=>⟨H,a0,a1,hz,K⟩))
 have Rb:∀(s:Str) (d:D),PyData.strOk s=true→Cm 0 d→Cm 1 (D.tup [D.str s,d]):=fun s d h1 h2=>Y5 fun z hz=>by
  simp only[List.mem_cons,List.not_mem_nil,or_false] at hz
  rcases hz with rfl|rfl
  ·exact Ag h1
  ·exact h2
 by_cases hk:k=cs.length
 ·subst hk
  refine aY (a:=x) (by rw[qW,List.getElem?_append_right (Nat.le_refl _),Nat.sub_self];rfl) (aY (Uy hN hm hμ hx hr) ?_)
  refine kE (Ra (by simp) (jt (gj ?_)))
  exact hj h ⟨d7,d8,J⟩ _ (Rb _ _ (by trivial) (Ag ho)) _ rfl
 ·have hk':k<cs.length:=by omega
  have hmem:cs[k]∈cs:=List.getElem_mem hk'
  refine aY (a:=cs[k]) (by rw[qW,List.getElem?_append_left hk'];exact List.getElem?_eq_getElem hk') ?_
  by_cases hv:v<0∨b≤v
  ·refine aY (Vb hB hm hμ hmem hv (zF (by omega))) ?_
   refine kE (nq (by simp;omega) (kE (Ra (by simpa using hv) (jt (gj (gj ?_))))))
   exact hj h ⟨d7,d8,J⟩ _ (Rb _ _ (by trivial) Oq) _ rfl
  ·refine aY (V3 hn nQ hm hμ hmem (by omega)) ?_
   have hp:=Ma hn hk'
   have hq8:(fV h mm ⟨b,cs.zip (μ.set (pos cs cs[k]) v)⟩)[8]?=some (jJ [6,7]):=by
    unfold fV;rw[List.getElem?_set_ne h8.1];exact J.ql
   have hl':(fV h mm ⟨b,cs.zip (μ.set (pos cs cs[k]) v)⟩)[l]?=some (.lst (μ.map D.int)):=by
    unfold fV;rw[List.getElem?_set_ne hne];exact hL
   have Iz:oY μ (k:Int) v=some (μ.set k v):=by
    show (ixN μ.length (k:Int)).map _=_
    rw[Oo (by omega) (by omega)];rfl
   refine kE (nq (by simp;omega) (kE (nq (by simp;omega) (jt (aY (uD hq8) (aY e2 (aY (Qo V4 hl') (aY Iz (jt (gj (gj ?_)))))))))))
   refine hj _ (hJ _ (μ.set k v) (by simp[fV]) (fun j j1 j2=>?_) ?_ ?_ (by simp[hμ])) _ Y4 _ rfl
   ·rw[List.getElem?_set_ne (fun z=>j2 z.symm)]
    unfold fV;rw[List.getElem?_set_ne (fun z=>j1 z.symm)]
   ·rw[List.getElem?_set_ne (fun z=>hne z.symm)]
    unfold fV;rw[List.getElem?_set_self hmm,hp]
   ·rw[List.getElem?_set_self (by simp[fV];exact hll)]
end
theorem Zj {c:CL} (hN:EC.NoCell∈c.has) (hB:EC.BadNumber∈c.has) (sc:List Int):vJ c sc=some (.ok true):=by
 refine Pv.eq ?_
 unfold vJ
 obtain⟨f,hd,hf⟩:=Ly sc 0 12 (by omega)
 refine aY (show mF sc (0:Int) (12:Int)=_ from hf) (aY (zE (by omega) (by omega)) (jt ?_))
 generalize hbb:(2:Int)+f (0:Int).toNat%9=b
 have hb:2≤b∧b≤10:=by omega
 obtain⟨most,em,hm2,hm6,hpow⟩:=Zg hb
 refine aY em (aY (zE (by omega) (by omega)) (aY (Um _ 8 (by omega)) (aY (zE (by omega) (by omega)) (aY (tQ (by omega)) ?_))))
 generalize f (1:Int).toNat=n
 obtain⟨mn,emn,hmn⟩:∃mn:Nat,f (2:Int).toNat%((most:Int)+1)=(mn:Int)∧mn≤most:=by
  have h1:=Int.emod_nonneg (f (2:Int).toNat) (show (most:Int)+1≠0 by omega)
  have h2:=Int.emod_lt_of_pos (f (2:Int).toNat) (show (0:Int)<(most:Int)+1 by omega)
  exact⟨(f (2:Int).toNat%((most:Int)+1)).toNat,by omega,by omega⟩
 rw[emn]
 refine aY (Bh (by omega)) ?_
 obtain⟨ν,abH,abx,eν⟩:∃ν:List Int,ν.length=mn∧RN b ν∧gK (fun _=>some true) (fun k=>(atI (uQ f 12) ((3:Int)+k)).bind fun v3=>(jR v3 b).bind fun v4=>some v4) ((List.range mn).map fun(i:Nat)=>(i:Int))=some ν:=by
  obtain⟨xs,h1,h2,h3⟩:=Y6 (P:=fun x:Int=>0≤x∧x<b) (V:=fun x=>x) (ys:=(List.range mn).map fun(i:Nat)=>(i:Int)) (f:=fun k=>(atI (uQ f 12) ((3:Int)+k)).bind fun v3=>(jR v3 b).bind fun v4=>some v4) (by simp;omega) (fun y hy=>by
   obtain⟨i,hi,rfl⟩:=List.mem_map.mp hy
   have hi:=List.mem_range.mp hi
   refine⟨f ((3:Int)+(i:Int)).toNat%b,⟨Int.emod_nonneg _ (by omega),Int.emod_lt_of_pos _ (by omega)⟩,?_⟩
   rw[zE (by omega) (by omega),Option.bind_some,tQ (by omega)];rfl)
  rw[List.map_id'] at h3
  exact⟨xs,by rw[h1];simp,h2,h3⟩
 refine aY eν ?_
 have Rf:cut (fO n 8) none (some (mn:Int))=fO n mn:=by
  have:mn=0∨mn=1∨mn=2∨mn=3∨mn=4∨mn=5∨mn=6:=by omega
  rcases this with rfl|rfl|rfl|rfl|rfl|rfl|rfl<;>rfl
 generalize hcs:fO n mn=cs at Rf
 have hcl:cs.length=mn:=by rw[← hcs];exact Uk _ _
 have hl:ν.length=cs.length:=by omega
 have hn:cs.Nodup:=by rw[← hcs];exact J9 n (by omega)
 have hck:∀k,k<mn→cs[k]?=some (nm n (k:Int)):=fun k hk=>by rw[← hcs];exact Ks hk
 have ho:∀y∈cs,iI y=true∧dU (.str y)∧y.length≤16000000:=fun y hy=>by
  rw[← hcs] at hy
  obtain⟨k,_,rfl⟩:=vG hy
  exact⟨ZL _ _,(Af n k).2,(Af n k).1⟩
 have hstr:∀y∈cs,PyData.strOk y=true:=fun y hy=>by
  rw[← hcs] at hy
  obtain⟨k,_,rfl⟩:=vG hy
  exact yW _ _
 have hx:nm n 7∉cs:=fun hy=>by
  rw[← hcs] at hy
  obtain⟨k,hk,e⟩:=vG hy
  have:=tX (n:=n) (by omega) (by omega) e
  omega
 have hzl:(cs.zip ν).length=mn:=by rw[List.length_zip];omega
 refine jt (kE (VN (fun k h=>h=[sO ((cs.zip ν).take k)]) rfl ?_ ?_))
 ·rintro k h hk rfl
  have e1:ν[k]?=some ν[k]:=List.getElem?_eq_getElem (by omega)
  have e2:=hck k hk
  refine aY (a:=ν[k]) (by rw[qW];exact e1) (aY (a:=nm n (k:Int)) (by rw[qW];exact Ks (by omega)) (aY (tV rfl) (aY (yZ (by rw[List.length_take];omega)) (jt (gj ?_)))))
  have hnk:nm n (k:Int)∉((cs.zip ν).take k).map (·.1):=fun hy=>by
   rw[List.map_take,kh hl,← hcs,Ub n (by omega)] at hy
   obtain⟨j,hj,e⟩:=vG hy
   have:=tX (n:=n) (by omega) (by omega) e
   omega
  rw[LC hnk]
  have ez:(cs.zip ν)[k]?=some (nm n (k:Int),ν[k]):=List.getElem?_zip_eq_some.mpr ⟨e2,e1⟩
  show [sO _]=[sO _]
  rw[List.take_add_one,ez]
  rfl
 rintro h rfl
 rw[List.take_of_length_le (by omega)]
 have Rg:=Xi hl hn hb (by rw[hcl];exact hpow mn hmn) ho abx
 refine aY (tV rfl) (OD Rg (aY (tV rfl) (OD Rg (jt (jt (aY (tV rfl) ?_))))))
 rw[Rf,kh hl]
 refine aY (vK (KZ hstr) (by omega)) (kE (Ak rfl (aY (Zh hn hl (by omega)) (aY (vK (n:=1) (Ou fun d hd=>by obtain⟨x,_,rfl⟩:=List.mem_map.mp hd;exact Oq) (by omega)) (gj (nq rfl ?_))))))
 refine kE (Np (fun _ h=>oM c h b cs ν ν∧h.length=9∧∃ξ:List Int,ξ.length=cs.length∧h[0]?=some (sO (cs.zip ξ))) ⟨⟨rfl,rfl,⟨rfl,rfl⟩,⟨rfl,rfl⟩,rfl,rfl,hl,hl⟩,rfl,ν,hl,rfl⟩ ?_ ?_)
 ·rintro done y rest h he ⟨J,h9,ξ,CJ,h0⟩
  have hy:y∈cs:=by rw[he];simp
  refine aY (tV h0) (aY (Hw hn CJ hy) (aY (Qu hn CJ (by omega) hy) (jt (gj ?_))))
  have hf:∀k,k≠0→(h.set 0 (sO (cs.zip (ξ.set (pos cs y) (b-1-ξ.getD (pos cs y) 0)))))[k]?=h[k]?:=fun k hk=>List.getElem?_set_ne (fun z=>hk z.symm)
  exact⟨⟨(hf 5 (by omega)).trans J.qm,(hf 8 (by omega)).trans J.ql,tL J.m0 (hf 1 (by omega)) (hf 2 (by omega)),tL J.m1 (hf 3 (by omega)) (hf 4 (by omega)),(hf 6 (by omega)).trans J.l0,(hf 7 (by omega)).trans J.l1,J.n0,J.n1⟩,by rw[← h9];exact List.length_set,_,by simp[CJ],List.getElem?_set_self (show 0<h.length by omega)⟩
 rintro h ⟨J,h9,ξ,CJ,h0⟩
 refine aY (show atI (fO n 8) (7:Int)=some (nm n 7) from rfl) (aY (tV h0) (aY (yZ (by rw[List.length_zip];omega)) (jt ?_)))
 obtain⟨g,hg,hgf⟩:=Ly sc 1 30 (by omega)
 refine aY (show mF sc (1:Int) (30:Int)=_ from hgf) (GZ (G3 (fun _ h=>∃d7 d8,oM c h b cs d7 d8) ?_ ?_ fun _ _=>gj rfl))
 ·have hf:∀o:Ob,∀k,k≠0→(h.set 0 o)[k]?=h[k]?:=fun o k hk=>List.getElem?_set_ne (fun z=>hk z.symm)
  exact⟨ν,ν,⟨(hf _ 5 (by omega)).trans J.qm,(hf _ 8 (by omega)).trans J.ql,tL J.m0 (hf _ 1 (by omega)) (hf _ 2 (by omega)),tL J.m1 (hf _ 3 (by omega)) (hf _ 4 (by omega)),(hf _ 6 (by omega)).trans J.l0,(hf _ 7 (by omega)).trans J.l1,J.n0,J.n1⟩⟩
 ·rintro done y rest h1 _ ⟨d7,d8,J1⟩
  have:=Zi hN hB hn (by omega) hstr hx (Af n 7).2 (yW n 7) J1 hb (deed:=y) (fun z hz=>(ho z hz).2.1)
  rw[hcl] at this
  exact this.imp (by rintro _ ⟨h2,a0,a1,rfl,K⟩;exact⟨a0,a1,K⟩)
end TY
theorem PySem.Challenge.cw_orderatonce_k05_memory_items_holds : PySem.Challenge.rw_orderatonce_k05_memory_items.Holds :=
 Z.zzWalk @TY.Zj
