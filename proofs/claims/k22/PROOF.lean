import PyProof.Rows.All
import HandS.GenList
import HandS.Comp
import Wide.All
import OpenK.AllK
import Wide.FinOn
import HandS.ForMost
import HandS.Exc
import HandS.ExcOwn
import HandS.ExcField
import HandS.Small
import HandS.TupAny
import HandS.IsInst
import HandS.Flow
import HandS.Walk
import HandS.WordsExc
import HandS.Defaults
import HandS.More
import PyProof.FString
import PyProof.FString4
import KE.KExcSuper
import PyProof.FitsInt
import PyProof.StrLawsRepr
import HandS.TryMany
import HandS.ExcIs
import HandS.Star
import KE.KExcIs
import HandS.Deep
import KE.KDictDisplayH
import KE.KeyNested
import HandS.OwnEq
import HandS.IterNext
import HandS.ExcInit
import HandS.MakeKwOnly
import HandS.StrMore
import HandS.Text
import KE.DataMinMax
import HandS.SortKw
import ObjForm.LawKit
import KE.KDictZip
import HandS.Style
import HandS.TupLen
import HandS.DictComp
import HandS.SetFor
import KE.KSuper
import HandS.Property
import PyProof.EqKinds
import KE.KWithOwn
import HandS.Rev
import HandS.HotCalls
import PyProof.ReprNest
import PyProof.ListCopy
import HandS.ExcValue
import HandS.SuiteRaise
import KE.KDictWalk
import KE.KDictList
import KE.KEqDict
import KE.KDictPairs
import HandS.Finally
import PySem.Challenge.RW_orderatonce_k22_errors_family
set_option Elab.async false
set_option linter.all false
set_option maxRecDepth 100000
def a0a:=@Option.bind_eq_some_iff
def a0b:=@Option.map_eq_some_iff
def a0c:=@List.mem_cons
def a0d:=@if_pos
def a0e:=@L2.pss_cons
def a0f:=@List.getElem?_eq_some_iff
def a0g:=@List.getElem?_set
def a0h:=@List.getElem?_eq_getElem
def a0i:=@L2.pa_cons
def a0j:=@if_neg
def a0k:=@Option.bind_some
def a0l:=@PySem.W.exm_ref
def a0m:=@PySem.sizeLine_eq
def a0n:=@List.mem_singleton
def a0o:=@L2.pss_nil
def a0p:=@PySem.wpAny_loadName_local
def a0q:=@L2.pe_int
def a0r:=@Bool.and_eq_true
def a0s:=@List.getElem?_append_left
def a0t:=@L2.upd_ne
def a0u:=@List.mem_of_getElem?
def a0v:=@List.mem_cons_self
def a0w:=@L2.upd_same
def a0x:=@L2.pa_nil
def a0y:=@List.getElem?_map
def a0z:=@List.getElem?_eq_none
def a0A:=@Nat.ne_of_lt
def a0B:=@Nat.lt_of_lt_of_le
def a0C:=@List.mem_cons_of_mem
def a0D:=@Nat.le_trans
def a0E:=@PySem.plainObj_wpAny_Assign_Attribute
def a0F:=@List.map_cons
def a0G:=@Classical.byContradiction
def a0H:=@PySem.wpAny_bind
def a0I:=@List.zip_cons_cons
def a0J:=@List.getElem?_of_mem
def a0K:=@List.ext_getElem?
def a0L:=@Nat.lt_succ_of_lt
def a0M:=@PySem.wpAny_Name
def a0N:=@List.mem_map
def a0O:=@List.mem_append_left
def a0P:=@List.length_map
def a0Q:=@PySem.W.mg_of
def a0R:=@decide_eq_true
def a0S:=@PySem.wpAny_Call_Name_kw
def a0T:=@L2.pe_lst
def a0U:=@List.append_nil
def a0V:=@Nat.lt_of_succ_lt
def a0W:=@if_true
def a0X:=@PySem.wpAny_FormattedValue_repr
def a0Y:=@List.length_cons
def a0Z:=@PySem.wpAny_Constant_str
def b0a:=@List.find?_cons
def b0b:=@Option.map_some
def b0c:=@Bool.false_ne_true
def b0d:=@PySem.W.callWith_K
def b0e:=@List.zipWith_cons_cons
def b0f:=@List.size_toArray
def b0g:=@Nat.le_succ
def b0h:=@PySem.wpAny_formatField_str
def b0i:=@PySem.wpAny_execs_cons
def b0j:=@beq_self_eq_true
def b0k:=@List.not_mem_nil
def b0l:=@List.any_cons
def b0m:=@List.all_cons
def b0n:=@PySem.wpAny_pure
def b0o:=@Option.some.inj
def b0p:=@PySem.wpAny_execs_nil
def b0q:=@decide_eq_false
def b0r:=@L2.ps_if
def b0s:=@List.map_map
def b0t:=@PySem.wpAny_call
def b0u:=@L2.ps_ret
local macro_rules | `(tactic| trivial)=>`(tactic| first|exact Or.inl rfl|exact Or.inr rfl|exact⟨rfl,rfl,rfl,by decide +kernel,rfl,by decide +kernel,by decide +kernel⟩|decide +kernel|fail)
set_option maxHeartbeats 1000000
namespace L2
open PySem PySem.Spec PyProof.Rows GenW
structure Ql (S L:Addr) (v:Value) (s s':Shared):Prop where
 os:s'.os=s.os
 bare:AllBare s'.gens
 keep:∀b o,b≠S→b≠L→s.heap.get? b=some o→s'.heap.get? b=some o
 own:∀acc c,s.heap.get? S=some (lstObj acc c)→∃c',s'.heap.get? S=some (lstObj (acc.push v) c')
 loc:∃o:Obj,s'.heap.get? L=some o∧∀v,o.data≠.cell v
end L2
set_option maxHeartbeats 1000000
namespace L2
open PySem PySem.Spec PyProof.Rows GenW
end L2
set_option maxHeartbeats 1000000
namespace L2
open PySem PySem.Spec PyProof.Rows GenW
theorem Ql.push {S L:Addr} {v:Value} {s s₁:Shared} {acc:Array Value} {c:Nat} (hS:s.heap.get? S=some (lstObj acc c)) (hne:S≠L) (hos:s₁.os=s.os) (hb:AllBare s₁.gens) (hk:∀b o,b≠S→b≠L→s.heap.get? b=some o→s₁.heap.get? b=some o) (h1:∃c',s₁.heap.get? S=some (lstObj (acc.push v) c')) (hL:∃o:Obj,s₁.heap.get? L=some o∧∀v,o.data≠.cell v):Ql S L v s s₁:=
 ⟨hos,hb,hk,fun acc' c'' e=>by rw[hS] at e;cases e;exact h1,hL⟩
end L2
namespace DL
open PySem L2 PyProof.Rows
def Ex (H H':Hp):Prop:=∀a o,H a=some o→H' a=some o
theorem Ex.refl (H:Hp):Ex H H:=fun _ _ h=>h
theorem Ex.trans {H H1 H2:Hp} (a:Ex H H1) (b:Ex H1 H2):Ex H H2:=fun x o h=>b x o (a x o h)
theorem Ex.none {H H':Hp} (e:Ex H H') {a:Addr} (h:H' a=Option.none):H a=Option.none:=by
 cases q:H a with
 | none=>rfl
 | some o=>rw[e a o q] at h;cases h
theorem Ex.new {H:Hp} {p:Addr} {o:HO} (h:H p=Option.none):Ex H (upd H p o):=fun a u e=>by
 rw[a0t (ne_of_none e h)];exact e
inductive Sm:HO→HO→Prop
 | rf (o:HO):Sm o o
 | lk (ob:Obj) (kvs):Sm (.dK kvs) (.frz ob (.dK kvs))
 | ul (ob:Obj) (kvs):Sm (.frz ob (.dK kvs)) (.dK kvs)
 | lt (ob:Obj) (kvs):Sm (.dT kvs) (.frz ob (.dT kvs))
 | ut (ob:Obj) (kvs):Sm (.frz ob (.dT kvs)) (.dT kvs)
 | le (ob:Obj) (φ):Sm (.ext φ) (.frz ob (.ext φ))
 | ue (ob:Obj) (φ):Sm (.frz ob (.ext φ)) (.ext φ)
def Rl (H H':Hp):Prop:=∀a o,H a=some o→∃o',H' a=some o'∧Sm o o'
def Rk (G H:Hp):Prop:=∀a o,G a=some o→H a=some o∨(∃ob kvs,o=.dK kvs∧H a=some (.frz ob (.dK kvs)))∨∃ob kvs,o=.dT kvs∧H a=some (.frz ob (.dT kvs))
theorem Rk.rl {G H:Hp} (r:Rk G H):Rl G H:=fun a o h=>by
 rcases r a o h with e|⟨ob,kvs,rfl,e⟩|⟨ob,kvs,rfl,e⟩
 ·exact⟨o,e,.rf o⟩
 ·exact⟨_,e,.lk ob kvs⟩
 ·exact⟨_,e,.lt ob kvs⟩
theorem Rk.ex {G H H':Hp} (r:Rk G H) (e:Ex H H'):Rk G H':=fun a o h=>by
 rcases r a o h with q|⟨ob,kvs,z,q⟩|⟨ob,kvs,z,q⟩
 ·exact .inl (e _ _ q)
 ·exact .inr (.inl ⟨ob,kvs,z,e _ _ q⟩)
 ·exact .inr (.inr ⟨ob,kvs,z,e _ _ q⟩)
theorem Ex.rl {H H':Hp} (e:Ex H H'):Rl H H':=fun a o h=>⟨o,e a o h,.rf o⟩
theorem Rl.l {K:PySem.W.Frag} {H H':Hp} {a:Addr} {xs:List V} (r:Rl H H') (h:SqL K H a xs):SqL K H' a xs:=by
 rcases h with (h|⟨o,h⟩)|h
 ·obtain⟨o',e,s⟩:=r _ _ h;cases s;exact .inl (.inl e)
 ·obtain⟨o',e,s⟩:=r _ _ h;cases s;exact .inl (.inr ⟨_,e⟩)
 ·exact .inr h
theorem Rl.ls {H H':Hp} {a:Addr} {xs:List V} (r:Rl H H') (h:Rd H a (.lst xs)):Rd H' a (.lst xs):=by
 rcases h with h|⟨o,h⟩
 ·obtain⟨o',e,s⟩:=r _ _ h;cases s;exact .inl e
 ·obtain⟨o',e,s⟩:=r _ _ h;cases s;exact .inr ⟨_,e⟩
theorem Rl.t {K:PySem.W.Frag} {H H':Hp} {a:Addr} {xs:List V} (r:Rl H H') (h:SqT K H a xs):SqT K H' a xs:=by
 rcases h with (h|⟨o,h⟩)|h
 ·obtain⟨o',e,s⟩:=r _ _ h;cases s;exact .inl (.inl e)
 ·obtain⟨o',e,s⟩:=r _ _ h;cases s;exact .inl (.inr ⟨_,e⟩)
 ·exact .inr h
theorem Rl.k {H H':Hp} {a:Addr} {kvs:List (Key×V)} (r:Rl H H') (h:Rd H a (.dK kvs)):Rd H' a (.dK kvs):=by
 rcases h with h|⟨o,h⟩
 ·obtain⟨o',e,s⟩:=r _ _ h
  cases s with
  | rf=>exact .inl e
  | lk ob=>exact .inr ⟨_,e⟩
 ·obtain⟨o',e,s⟩:=r _ _ h
  cases s with
  | rf=>exact .inr ⟨_,e⟩
  | ul=>exact .inl e
theorem Rl.kt {H H':Hp} {a:Addr} {kvs:List (List Key×V)} (r:Rl H H') (h:Rd H a (.dT kvs)):Rd H' a (.dT kvs):=by
 rcases h with h|⟨o,h⟩
 ·obtain⟨o',e,s⟩:=r _ _ h
  cases s with
  | rf=>exact .inl e
  | lt ob=>exact .inr ⟨_,e⟩
 ·obtain⟨o',e,s⟩:=r _ _ h
  cases s with
  | rf=>exact .inr ⟨_,e⟩
  | ut=>exact .inl e
theorem Rl.i {H H':Hp} {a C dx:Addr} {fs:List (Str×V)} (r:Rl H H') (h:H a=some (.ins C dx fs)):H' a=some (.ins C dx fs):=by
 obtain⟨o',e,s⟩:=r _ _ h;cases s;exact e
theorem Rl.x {H H':Hp} {a:Addr} {fs:List (Str×V)} (r:Rl H H') (h:H a=some (.xd fs)):H' a=some (.xd fs):=by
 obtain⟨o',e,s⟩:=r _ _ h;cases s;exact e
theorem Rl.e {H H':Hp} {a:Addr} {φ:Heap→Prop} (r:Rl H H') (h:Rd H a (.ext φ)):Rd H' a (.ext φ):=by
 rcases h with h|⟨o,h⟩
 ·obtain⟨o',e,s⟩:=r _ _ h
  cases s with
  | rf=>exact .inl e
  | le ob=>exact .inr ⟨_,e⟩
 ·obtain⟨o',e,s⟩:=r _ _ h
  cases s with
  | rf=>exact .inr ⟨_,e⟩
  | ue=>exact .inl e
section
variable (K:PySem.W.Frag)
mutual
def Nk (H:Hp):NestedKey→V→Prop
 | .none,v=>v=.non
 | .num i,v=>v=.int i
 | .text x,v=>v=.str x
 | .tup ks,v=>∃a vs,v=.ref a∧SqT K H a vs∧gA H ks vs
def gA (H:Hp):List NestedKey→List V→Prop
 | [],vs=>vs=[]
 | k::ks,vs=>∃v r,vs=v::r∧Nk H k v∧gA H ks r
end
variable {K}
mutual
theorem Nk.mono {H H':Hp} (r:Rl H H'):∀(k:NestedKey) (v:V),Nk K H k v→Nk K H' k v
 | .none,v,h=>by unfold Nk at h ⊢;exact h
 | .num i,v,h=>by unfold Nk at h ⊢;exact h
 | .text x,v,h=>by unfold Nk at h ⊢;exact h
 | .tup ks,v,h=>by
  unfold Nk at h ⊢
  obtain⟨a,vs,e,s,q⟩:=h
  exact⟨a,vs,e,r.t s,gA.mono r ks vs q⟩
theorem gA.mono {H H':Hp} (r:Rl H H'):∀(ks:List NestedKey) (vs:List V),gA K H ks vs→gA K H' ks vs
 | [],vs,h=>by unfold gA at h ⊢;exact h
 | k::ks,vs,h=>by
  unfold gA at h ⊢
  obtain⟨v,t,e,p,q⟩:=h
  exact⟨v,t,e,Nk.mono r k v p,gA.mono r ks t q⟩
end
end
abbrev NE:=NestedKey×Addr×V
def aaw (w:World) (a:Addr) (kvs:List NE) (h:Heap):Prop:=
 kvs.length≤sizeLine∧(a == sysModules)=false∧(∀p∈kvs,p.1.depth≤8)∧∃xs:List (NestedKey×Addr×Value),
  Paired (fun(p:NE) (q:NestedKey×Addr×Value)=>p.1=q.1∧p.2.1=q.2.1∧RelV p.2.2 q.2.2) kvs xs∧
  ∃o es ep,h.get? a=some o∧o.ExactDict∧o.data=.dict es ep∧es.toList=xs.map (fun x=>(⟨x.1.hash w,.ref x.2.1,x.2.2⟩:DictEntry))∧(xs.map (·.1)).Nodup
abbrev JR (w:World) (a:Addr) (kvs:List NE):HO:=.ext (aaw w a kvs)
inductive D where
 | non|bl (b:Bool)|int (i:Int)|str (x:Str)|ref (a:Addr)|ty (n:String)
 | lst (xs:List D)|tup (xs:List D)|dB (ns:List Int)
 | bO (ks:List Key) (xs:List D)|dct (ks:List (List Key)) (xs:List D)
 | lN (w:World) (ks:List NestedKey) (xs:List D)
 | ins (C:Addr) (fs:List Str) (xs:List D)
 | exc (a C dd:Addr) (fs:List Str) (xs:List D)
 deriving Inhabited
section
variable (K:PySem.W.Frag)
mutual
def Rp (H:Hp):D→V→Prop
 | .non,v=>v=.non
 | .bl b,v=>v=.bl b
 | .int i,v=>v=.int i
 | .str x,v=>v=.str x
 | .ref a,v=>v=.ref a
 | .ty n,v=>v=.ty n
 | .lst xs,v=>∃a vs,v=.ref a∧Rd H a (.lst vs)∧aj H xs vs
 | .dB ns,v=>∃a,v=.ref a∧SqL K H a (ns.map V.int)
 | .tup xs,v=>∃a vs,v=.ref a∧SqT K H a vs∧aj H xs vs
 | .bO ks xs,v=>∃a vs,v=.ref a∧Rd H a (.dK (ks.zip vs))∧ks.length=vs.length∧aj H xs vs
 | .dct ks xs,v=>∃a vs,v=.ref a∧Rd H a (.dT (ks.zip vs))∧ks.length=vs.length∧aj H xs vs
 | .lN w ks xs,v=>∃(a b:Addr) (vs:List V) (dD:List Addr),v=.ref a∧Rd H a (JR w b (ks.zip (dD.zip vs)))∧ks.length=dD.length∧gA K H ks (dD.map V.ref)∧ks.length=vs.length∧aj H xs vs
 | .ins C fs xs,v=>∃a dx vs,v=.ref a∧H a=some (.ins C dx (fs.zip vs))∧fs.length=vs.length∧aj H xs vs
 | .exc a C dd fs xs,v=>∃vs,v=.ref a∧H dd=some (.xd (fs.zip vs))∧fs.length=vs.length∧aj H xs vs
def aj (H:Hp):List D→List V→Prop
 | [],vs=>vs=[]
 | d::ds,vs=>∃v r,vs=v::r∧Rp H d v∧aj H ds r
end
variable {K}
mutual
theorem Rp.mono {H H':Hp} (r:Rl H H'):∀(d:D) (v:V),Rp K H d v→Rp K H' d v
 | .non,v,h=>h
 | .bl b,v,h=>h
 | .int i,v,h=>h
 | .str x,v,h=>h
 | .ref a,v,h=>h
 | .ty n,v,h=>h
 | .lst xs,v,h=>by
  unfold Rp at h ⊢
  obtain⟨a,vs,e,s,q⟩:=h
  exact⟨a,vs,e,r.ls s,aj.mono r xs vs q⟩
 | .dB ns,v,h=>by
  unfold Rp at h ⊢
  obtain⟨a,e,s⟩:=h
  exact⟨a,e,r.l s⟩
 | .tup xs,v,h=>by
  unfold Rp at h ⊢
  obtain⟨a,vs,e,s,q⟩:=h
  exact⟨a,vs,e,r.t s,aj.mono r xs vs q⟩
 | .bO ks xs,v,h=>by
  unfold Rp at h ⊢
  obtain⟨a,vs,e,s,z,q⟩:=h
  exact⟨a,vs,e,r.k s,z,aj.mono r xs vs q⟩
 | .dct ks xs,v,h=>by
  unfold Rp at h ⊢
  obtain⟨a,vs,e,s,z,q⟩:=h
  exact⟨a,vs,e,r.kt s,z,aj.mono r xs vs q⟩
 | .lN w ks xs,v,h=>by
  unfold Rp at h ⊢
  obtain⟨a,b,vs,dD,e,s,l,n,z,q⟩:=h
  exact⟨a,b,vs,dD,e,r.e s,l,gA.mono r _ _ n,z,aj.mono r xs vs q⟩
 | .ins C fs xs,v,h=>by
  unfold Rp at h ⊢
  obtain⟨a,dx,vs,e,s,z,q⟩:=h
  exact⟨a,dx,vs,e,r.i s,z,aj.mono r xs vs q⟩
 | .exc a C dd fs xs,v,h=>by
  unfold Rp at h ⊢
  obtain⟨vs,e,s,z,q⟩:=h
  exact⟨vs,e,r.x s,z,aj.mono r xs vs q⟩
theorem aj.mono {H H':Hp} (r:Rl H H'):∀(ds:List D) (vs:List V),aj K H ds vs→aj K H' ds vs
 | [],vs,h=>h
 | d::ds,vs,h=>by
  unfold aj at h ⊢
  obtain⟨v,t,e,p,q⟩:=h
  exact⟨v,t,e,Rp.mono r d v p,aj.mono r ds t q⟩
end
theorem aj.len {H:Hp}:∀{ds:List D} {vs:List V},aj K H ds vs→ds.length=vs.length
 | [],vs,h=>by unfold aj at h;subst h;rfl
 | d::ds,vs,h=>by
  unfold aj at h
  obtain⟨v,t,rfl,p,q⟩:=h
  rw[a0Y,a0Y,aj.len q]
theorem aj.get {H:Hp}:∀{ds:List D} {vs:List V} {i:Nat} {d:D},aj K H ds vs→ds[i]?=some d→∃v,vs[i]?=some v∧Rp K H d v
 | [],vs,i,d,h,e=>by simp at e
 | x::ds,vs,i,d,h,e=>by
  unfold aj at h
  obtain⟨v,t,rfl,p,q⟩:=h
  cases i with
  | zero=>simp at e;subst e;exact⟨v,rfl,p⟩
  | succ i=>
   obtain⟨u,a,b⟩:=aj.get (i:=i) q (by simpa using e)
   exact⟨u,by simpa using a,b⟩
theorem aj.Qm {H:Hp}:∀{ds:List D} {vs:List V} {i:Nat} {v:V},aj K H ds vs→vs[i]?=some v→∃d,ds[i]?=some d∧Rp K H d v
 | [],vs,i,v,h,e=>by unfold aj at h;subst h;simp at e
 | x::ds,vs,i,v,h,e=>by
  unfold aj at h
  obtain⟨w,t,rfl,p,q⟩:=h
  cases i with
  | zero=>simp at e;subst e;exact⟨x,rfl,p⟩
  | succ i=>
   obtain⟨u,a,b⟩:=aj.Qm (i:=i) q (by simpa using e)
   exact⟨u,by simpa using a,b⟩
theorem aj.app {H:Hp}:∀{ds es:List D} {vs us:List V},aj K H ds vs→aj K H es us→aj K H (ds++es) (vs++us)
 | [],es,vs,us,h,h'=>by unfold aj at h;subst h;exact h'
 | d::ds,es,vs,us,h,h'=>by
  unfold aj at h
  obtain⟨v,t,rfl,p,q⟩:=h
  show aj K H (d::(ds++es)) _
  unfold aj
  exact⟨v,t++us,rfl,p,aj.app q h'⟩
theorem aj.one {H:Hp} {d:D} {v:V} (h:Rp K H d v):aj K H [d] [v]:=by
 unfold aj;exact⟨v,[],rfl,h,by unfold aj;rfl⟩
theorem aj.nil {H:Hp}:aj K H [] []:=by unfold aj;rfl
theorem aj.cons {H:Hp} {d:D} {v:V} {ds:List D} {vs:List V} (h:Rp K H d v) (t:aj K H ds vs):aj K H (d::ds) (v::vs):=by
 unfold aj;exact⟨v,vs,rfl,h,t⟩
theorem aj.set {H:Hp}:∀{ds:List D} {vs:List V} (i:Nat) {d:D} {v:V},aj K H ds vs→Rp K H d v→aj K H (ds.set i d) (vs.set i v)
 | [],vs,i,d,v,h,_=>by unfold aj at h;subst h;exact aj.nil
 | x::ds,vs,i,d,v,h,p=>by
  unfold aj at h
  obtain⟨w,t,rfl,p',q⟩:=h
  cases i with
  | zero=>exact aj.cons p q
  | succ i=>exact aj.cons p' (aj.set i q p)
theorem aj.take {H:Hp}:∀{ds:List D} {vs:List V} (n:Nat),aj K H ds vs→aj K H (ds.take n) (vs.take n)
 | ds,vs,0,h=>aj.nil
 | [],vs,n+1,h=>by unfold aj at h;subst h;exact aj.nil
 | d::ds,vs,n+1,h=>by
  unfold aj at h
  obtain⟨v,t,rfl,p,q⟩:=h
  exact aj.cons p (aj.take n q)
theorem aj.drop {H:Hp}:∀{ds:List D} {vs:List V} (n:Nat),aj K H ds vs→aj K H (ds.drop n) (vs.drop n)
 | ds,vs,0,h=>h
 | [],vs,n+1,h=>by unfold aj at h;subst h;exact aj.nil
 | d::ds,vs,n+1,h=>by
  unfold aj at h
  obtain⟨v,t,rfl,p,q⟩:=h
  exact aj.drop n q
theorem aj.oW {H:Hp} {vs:List V} (h:aj K H [] vs):vs=[]:=by unfold aj at h;exact h
theorem aj.oO {H:Hp} {d:D} {ds:List D} {vs:List V} (h:aj K H (d::ds) vs):∃v t,vs=v::t∧Rp K H d v∧aj K H ds t:=by unfold aj at h;exact h
theorem Rp.jC {H:Hp} {i:Int} {v:V} (h:Rp K H (.int i) v):v=.int i:=h
theorem Rp.mY {H:Hp} {i:Bool} {v:V} (h:Rp K H (.bl i) v):v=.bl i:=h
theorem Rp.dU {H:Hp} {i:Str} {v:V} (h:Rp K H (.str i) v):v=.str i:=h
end
section
variable {K:PySem.W.Frag} {x y z d:D}
def fD (K:PySem.W.Frag) (r:R2) (x y z:D):Prop:=∀Hb H v u (Q:VK),Ex Hb H→Rp K Hb x v→Rp K Hb y u→(∀w,(∀Hb,Rp K Hb z w)→Q w H)→r v u H Q
theorem aax {C:Int→Int→Prop} {g:Int→Int→V} {i j:Int} (hc:C i j) (hz:∀Hb,Rp K Hb z (g i j)):fD K (rI C g) (.int i) (.int j) z:=fun Hb H v u Q e hv hu q=>⟨i,j,hv,hu,hc,q _ hz⟩
theorem Zq {g:Int→Int→V} {i j:Int} (hz:∀Hb,Rp K Hb z (g i j)):fD K (rI0 g) (.int i) (.int j) z:=fun Hb H v u Q e hv hu q=>⟨i,j,hv,hu,q _ hz⟩
end
section
variable {X:Cx}
def gD (r r':R2):R2:=fun x y H Q=>r x y H Q∨r' x y H Q
theorem OpR.or {f:Value→Value→Sem Value} {r r':R2} (h:OpR X f r) (h':OpR X f r'):OpR X f (gD r r'):=fun pins s σ H x y v u Q I rx ry q=>q.elim (h pins s σ H x y v u Q I rx ry) (h' pins s σ H x y v u Q I rx ry)
theorem IxR.or {r r':R2} (h:IxR X r) (h':IxR X r'):IxR X (gD r r'):=fun va sl pins s σ H x y v u Q I rx ry q hs=>q.elim (fun q=>h va sl pins s σ H x y v u Q I rx ry q hs) (fun q=>h' va sl pins s σ H x y v u Q I rx ry q hs)
theorem CallR.or {f:Value} {r r':List V→Hp→VK→Prop} (h:CallR X f r) (h':CallR X f r'):CallR X f (fun xs H Q=>r xs H Q∨r' xs H Q):=fun pins s σ H xs us Q I rx q=>q.elim (h pins s σ H xs us Q I rx) (h' pins s σ H xs us Q I rx)
def rAddS:R2:=fun x y H Q=>∃i j,x=.str i∧y=.str j∧i.length+j.length≤sizeLine∧Q (.str (i++j)) H
def O8:R2:=fun x y H Q=>∃l b xs zs,x=.ref l∧y=.ref b∧Rd H l (.lst xs)∧Rd H b (.lst zs)∧xs.length+zs.length≤sizeLine∧∀p,H p=none→Q (.ref p) (upd H p (.lst (xs++zs)))
theorem W4:OpR X (binaryOp .Add) O8:=by
 intro pins s σ H x y v u Q I rx ry h
 obtain⟨l,b,xs,zs,rfl,rfl,hH,hB,hz,q⟩:=h
 cases rx
 cases ry
 obtain⟨z,its,n,r,e⟩:=(show ObjOk X.prog X.w H s.heap l (.lst xs) from hH.ok I.hok)
 obtain⟨z2,its2,n2,r2,e2⟩:=(show ObjOk X.prog X.w H s.heap b (.lst zs) from hB.ok I.hok)
 have hl:=r.length
 have hl2:=r2.length
 refine PySem.P.add_list e e2 ?_ (by rw[b0f,b0f];omega)
 have ea:its.toArray++its2.toArray=(its++its2).toArray:=by simp
 rw[ea]
 exact⟨.ref _,_,I.lnew (t':=s.toks) (r.append r2) (by rw[List.length_append];omega),rfl,q _ I.fresh⟩
def wj (K:PySem.W.Frag):R2:=gD (rI0 fun i j=>.int (i+j)) (gD rAddS (gD O8 (rCatA K)))
def Jj:R2:=rI0 fun i j=>.int (i-j)
def Jk:R2:=rI CMul fun i j=>.int (i*j)
def Jl:R2:=rI (fun _ j=>0<j) fun i j=>.int (i%j)
def Jm:R2:=rI CDiv fun i j=>.int (i/j)
def Jo:R2:=rI CPow fun i j=>.int (i ^ j.toNat)
def JT:R2:=rI0 fun i j=>.bl (decide (i<j))
def JV:R2:=rI0 fun i j=>.bl (decide (j<i))
def JW:R2:=rI0 fun i j=>.bl (decide (j≤i))
def pA (K:PySem.W.Frag):R2:=gD rEq (rEqD K)
def qd (K:PySem.W.Frag):R2:=gD rNe (rNeD K)
def Jp (neg:Bool):R2:=fun y x H Q=>∃a o,x=.ref a∧DGet H a y o∧Q (.bl (if neg then !o.isSome else o.isSome)) H
def rSIn (neg:Bool):R2:=fun x y H Q=>∃(c:Nat) (z:Str),x=.str ⟨#[c]⟩∧y=.str z∧Q (.bl (if neg then !decide (c∈z.cps.toList) else decide (c∈z.cps.toList))) H
def O9 (K:PySem.W.Frag) (neg:Bool):R2:=if neg then rNotInD K else rInD K
def JX (K:PySem.W.Frag) (neg:Bool):R2:=gD (rIn K neg) (gD (Jp neg) (gD (rSIn neg) (O9 K neg)))
def rIxD:R2:=fun x y H Q=>∃a v,x=.ref a∧DGet H a y (some v)∧Q v H
def rJ (K:PySem.W.Frag):R2:=gD (rIxL K) (gD (rIxT K) (gD rIxS rIxD))
theorem Yh:OpR X (binaryOp .Add) (wj X.K):=OpR.or op_add (OpR.or op_add_str (OpR.or W4 op_catA))
theorem Yi:OpR X (binaryOp .Sub) Jj:=op_sub
theorem Yj:OpR X (binaryOp .Mult) Jk:=op_mul
theorem Yk:OpR X (binaryOp .Mod) Jl:=op_mod
theorem Yl:OpR X (binaryOp .FloorDiv) Jm:=op_fdiv
theorem Ym:OpR X (binaryOp .Pow) Jo:=op_pow
theorem Zr:OpR X (compareOp .Lt) JT:=op_lt
theorem Zt:OpR X (compareOp .Gt) JV:=op_gt
theorem Zu:OpR X (compareOp .GtE) JW:=op_ge
theorem Zv {k:Nat} (hr:Room k X.A):OpR X (compareOp .Eq) (pA X.K):=OpR.or op_eq (op_eqD hr.units)
theorem Zw {k:Nat} (hr:Room k X.A):OpR X (compareOp .NotEq) (qd X.K):=OpR.or op_ne (op_neD hr.units)
theorem Yn {k:Nat} (hr:Room k X.A):IxR X rIxD:=fun va sl pins s σ H x y v u Q I rx ry h hs=>by
 obtain⟨a,z,rfl,g,q⟩:=h
 cases rx
 exact PyProof.Rows.tail_any (dict_typeIs I g) PySem.F.slot_dict_getitem.lookup (d_getItem (hu_of hr) I g ry fun w' s' I' rw'=>⟨z,H,I',rw',q⟩) hs
theorem Zx {k:Nat} (hr:Room k X.A):IxR X (rJ X.K):=IxR.or ix_list (IxR.or ix_tup (IxR.or ix_str (Yn hr)))
def qT (K:PySem.W.Frag):List V→Hp→VK→Prop:=fun xs H Q=>(∃x n,xs=[x]∧LenV K x H n∧Q (.int n) H)∨(∃(a:Addr) (kvs:List (Key×V)),xs=[V.ref a]∧Rd H a (.dK kvs)∧Q (.int kvs.length) H)
theorem U0:CallR X (.builtin "len") (fun xs H Q=>∃(a:Addr) (kvs:List (Key×V)),xs=[V.ref a]∧Rd H a (.dK kvs)∧Q (.int kvs.length) H):=by
 intro pins s σ H xs us Q I r h
 obtain⟨a,kvs,rfl,ha,q⟩:=h
 obtain⟨u,rfl,ru⟩:=vals1 r
 cases ru
 exact d_len I ha fun t s' I'=>⟨.int kvs.length,H,I',⟨t,rfl⟩,q⟩
theorem VH:CallR X (.builtin "len") (qT X.K):=CallR.or call_len U0
def Jq:List V→Hp→VK→Prop:=fun xs H Q=>(∃i,xs=[.int i]∧Q (.int i) H)∨∃k,xs=[.bl k]∧Q (.int (if k then 1 else 0)) H
theorem VJ:CallR X (.type "int") Jq:=call_int1
end
section
variable {K:PySem.W.Frag} {ta tb te tx:TE} {tt tu:TT} {x y z d:D} {b:Bool} {i j:Int}
theorem fD.inl {r r':R2} (h:fD K r x y z):fD K (gD r r') x y z:=fun Hb H v u Q e hv hu q=>.inl (h Hb H v u Q e hv hu q)
theorem fD.inr {r r':R2} (h:fD K r' x y z):fD K (gD r r') x y z:=fun Hb H v u Q e hv hu q=>.inr (h Hb H v u Q e hv hu q)
theorem dec_str {i j:Str}:decide (V.str i=V.str j)=decide (i=j):=by
 rw[Bool.eq_iff_iff];simp
theorem M_ {Hb:Hp} {ds:List D} {vs:List V} {i:Int} {d:D} (r:aj K Hb ds vs) (h:atI ds i=some d):∃v,atI vs i=some v∧Rp K Hb d v:=by
 unfold atI at h ⊢
 rw[← r.len]
 cases q:ixN ds.length i with
 | none=>rw[q] at h;cases h
 | some j=>
  rw[q,a0k] at h
  rw[a0k]
  exact r.get h
end
def lH (lo:Int) (n:Nat):List D:=(List.range n).map fun i=>D.int (lo+(i:Nat))
theorem VL {lo:Int} {n i:Nat} {d:D} (h:(lH lo n)[i]?=some d):i<n∧d=.int (lo+i):=by
 unfold lH at h
 rw[a0y] at h
 cases q:(List.range n)[i]? with
 | none=>rw[q] at h;cases h
 | some k=>
  rw[q] at h
  obtain⟨h1,h2⟩:=a0f.mp q
  rw[List.getElem_range] at h2
  subst h2
  rw[List.length_range] at h1
  exact⟨h1,(b0o h).symm⟩
theorem Mr {lo:Int} {n:Nat}:(lH lo n).length=n:=by unfold lH;simp
theorem LC (σ:L2.St):∀vs:List Nat,wipe (wipe σ vs) vs=wipe σ vs:=by
 intro vs
 refine a0K fun i=>?_
 have key:∀(τ:L2.St) (us:List Nat),(wipe τ us)[i]?=if i∈us then(τ[i]?).map fun _=>none else τ[i]?:=by
  intro τ us
  induction us with
  | nil=>simp[wipe]
  | cons u us ih=>
   unfold wipe
   rw[a0g]
   by_cases q:u=i
   ·subst q
    rw[a0d rfl,a0d (a0v ..),wipe_length]
    by_cases z:u<τ.length
    ·rw[a0d z,a0h z];rfl
    ·rw[a0j z,a0z (by omega)];rfl
   ·rw[a0j q,ih]
    by_cases z:i∈us
    ·rw[a0d z,a0d (a0C _ z)]
    ·rw[a0j z,a0j (fun y=>(a0c.mp y).elim (fun e=>q e.symm) z)]
 rw[key,key]
 by_cases z:i∈vs
 ·rw[a0d z,a0d z];cases σ[i]?<;>rfl
 ·rw[a0j z]
section
variable {K:PySem.W.Frag}
theorem VN {N:List Str} {vs:List V} {i:Nat} {v:V} (hv:vs[i]?=some v):(L2.start N vs)[i]?=some (some v):=by
 unfold L2.start
 have hi:i<vs.length:=(a0f.mp hv).1
 rw[a0s (by simpa using hi),a0y,hv];rfl
structure gU (K:PySem.W.Frag) (x qual:Str) (st:Stmt) (f:Addr) (fd:FuncData):Prop where
 ex:∃(oc:Value) (od:Option Addr) (dV kV doc pm:Value) (an:Option Addr) (cdv ct:Value) (osl:Array (Option Value)),
  fd=PySem.W.fnOf x qual (defArgs st) (defBody st) (defScope st) dV kV doc pm an cdv ct∧K.lookup f=some ⟨oc,od,.func fd,osl⟩∧PySem.W.codeIn K cdv qual=true
 kp:PySem.W.keepIn K (.ref f)=true
theorem tW {x qual:Str} {st:Stmt} {f:Addr} {fd:FuncData} (F:Fun K x qual st f fd):gU K x qual st f fd:=by
 obtain⟨⟨oc,od,kV,doc,pm,an,cdv,ct,osl,h⟩,k⟩:=F
 exact⟨⟨oc,od,.none,kV,doc,pm,an,cdv,ct,osl,h⟩,k⟩
theorem gU.okX {P:Program} {w:World} {mg:Str→Option Value} {base:Heap} {x qual:Str} {st:Stmt} {f:Addr} {fd:FuncData} {N ps:List Str} {k:Nat} {sp:Sp} (F:gU K x qual st f fd) (S:FnScope N ps (defScope st)) (len:∀vs H Q E,sp vs H Q E→vs.length=ps.length)
  (hbody:∀(cdv:Value) (A:Around) (outer:List Env) (s:Shared) (H:Hp) (vs:List V) (Q:VK) (E:XK),Room k (A.deeper (envOfC qual (defScope st) s.heap.objs.size f cdv))→sp vs H Q E→
   ∃t,PSs (cxOf (L2.CX P w) P w K mg base N qual (defScope st) f cdv A outer s H E) (defBody st) t∧t {nx:=fun _ H'=>Q .non H',rt:=Q} (L2.start N vs) H):FnOk P w K mg base (L2.CX P w) (k+1) f fd ps sp:=by
 obtain⟨oc,od,dV,kV,doc,pm,an,cdv,ct,osl,rfl,lk,hcd⟩:=F.ex
 exact fn_of lk hcd S len fun A outer s H vs Q E hr hsp=>hbody cdv A outer s H vs Q E hr hsp
structure Cal (P:Program) (w:World) (K:PySem.W.Frag) (mg:Str→Option Value) (base:Heap) (x:Str) (ps:List Str) (k:Nat) (sp:Sp):Prop where
 ex:∃f fd,FnOk P w K mg base (L2.CX P w) k f fd ps sp∧mg x=some (.ref f)∧PySem.W.keepIn K (.ref f)=true∧Binds K fd ps []
end
section
variable {X:Cx} {x:Str} {ps:List Str} {k j:Nat} {sp:Sp} {W:WX} {e:Expr} {es:List Expr} {t:TA} {p pos:Pos}
theorem Oc (C:Cal X.prog X.w X.K X.mg X.base x ps k sp) (hr:Room j X.A) (hk:k≤j) (tk:Takes X W) (ha:PA X (e::es) t) (hg:Gl X x:=by rfl) (hdb:(x == ("__debug__":Str))=false:=by decide)
  (he:starEach (e::es) X.env=(false,eval e X.env)::starEach es X.env:=by rfl) (hpl:(backTo pos (starEach es X.env)).any (·.1)=false:=by rfl):PE X (.Call (.Name x p) (e::es) [] pos) (tCallS sp (WE W) t):=by
 obtain⟨f,fd,h1,h2,h3,h4⟩:=C.ex
 exact pe_callS h1 (hr.mono hk) hg h2 h3 h4 (fun σ=>passAt tk σ) ha hdb he hpl
end
def Od:List Str:=["len","int","range","isinstance","list","tuple","enumerate","sum","any","str","bool","dict","super","sorted","reversed","iter","abs","max","min","ValueError","Exception","zip","all"]
def fG (mg:Str→Option Value):Prop:=∀x∈Od,mg x=none
section
variable {X:Cx} {a b c e l:Expr} {es:List Expr} {ta tb tc te tl:TE} {t:TA} {pos p:Pos} {k:Nat} {x:Str}
theorem p_add (ha:PE X a ta) (hb:PE X b tb):PE X (.BinOp a .Add b pos) (tOp (wj X.K) ta tb):=pe_op Yh ha hb
theorem Ir (ha:PE X a ta) (hb:PE X b tb):PE X (.BinOp a .Sub b pos) (tOp Jj ta tb):=pe_op Yi ha hb
theorem tE (ha:PE X a ta) (hb:PE X b tb):PE X (.BinOp a .Mult b pos) (tOp Jk ta tb):=pe_op Yj ha hb
theorem jx (ha:PE X a ta) (hb:PE X b tb):PE X (.BinOp a .Mod b pos) (tOp Jl ta tb):=pe_op Yk ha hb
theorem tG (ha:PE X a ta) (hb:PE X b tb):PE X (.BinOp a .FloorDiv b pos) (tOp Jm ta tb):=pe_op Yl ha hb
theorem vX (ha:PE X a ta) (hb:PE X b tb):PE X (.BinOp a .Pow b pos) (tOp Jo ta tb):=pe_op Ym ha hb
theorem aay (ha:PE X a ta) (hb:PE X b tb):PE X (.Compare a [.GtE] [b] pos) (tOp JW ta tb):=pe_cmpR Zu ha hb (nomark _)
theorem q_lt (ha:PE X a ta) (hb:PE X b tb):PT X (.Compare a [.Lt] [b] pos) (tTest (tOp JT ta tb)):=pt_cmpR Zr ha hb (nomark _)
theorem aaz (ha:PE X a ta) (hb:PE X b tb):PT X (.Compare a [.Gt] [b] pos) (tTest (tOp JV ta tb)):=pt_cmpR Zt ha hb (nomark _)
theorem aaA (hr:Room k X.A) (ha:PE X a ta) (hb:PE X b tb):PT X (.Compare a [.Eq] [b] pos) (tTest (tOp (pA X.K) ta tb)):=pt_cmpR (Zv hr) ha hb (nomark _)
theorem aaB (hr:Room k X.A) (ha:PE X a ta) (hb:PE X b tb):PT X (.Compare a [.NotEq] [b] pos) (tTest (tOp (qd X.K) ta tb)):=pt_cmpR (Zw hr) ha hb (nomark _)
def tTru (K:PySem.W.Frag) (ta:TE):TT:=fun σ H Q=>ta σ H fun x H'=>∃k,TruV K x H' k∧Q k H'
theorem Zy (ha:PE X a ta) (he:∀whole,isTrue a X.env whole=(do let v ← whole;standAt a.pos;holding [v] (truthy v)):=by intro _;rfl):PT X a (tTru X.K ta):=pt_truth ha he
theorem aaC (hr:Room k X.A) (ha:PE X a ta) (hb:PE X b tb) (hs:PlainIx b:=by exact fun _ _=>rfl):PE X (.Subscript a b pos) (tOp (rJ X.K) ta tb):=pe_ix (Zx hr) ha hb hs
theorem ZC (hB:fG X.mg) (h:PE X e te) (hg:Gl X "len":=by rfl) (he:starEach [e] X.env=(false,eval e X.env)::starEach [] X.env:=by rfl):PE X (.Call (.Name "len" p) [e] [] pos) (tCB (qT X.K) (tCons te tNil)):=
 pe_callB VH hg (hB _ (by trivial)) PySem.boot_len (a0i h a0x he) (he:=he)
theorem iV (hB:fG X.mg) (h:PE X e te) (hg:Gl X "int":=by rfl) (he:starEach [e] X.env=(false,eval e X.env)::starEach [] X.env:=by rfl):PE X (.Call (.Name "int" p) [e] [] pos) (tCB Jq (tCons te tNil)):=
 pe_callTy VJ hg (hB _ (by trivial)) boot_int (a0i h a0x he) (he:=he)
def Iu (K:PySem.W.Frag):List V→Hp→VK→Prop:=fun xs H Q=>(∃p ys,xs=[.ref p]∧(SqL K H p ys∨SqT K H p ys)∧∀l,H l=none→Q (.ref l) (upd H l (.lst ys)))∨∃(a:Addr) (kvs:List (Key×V)),xs=[.ref a]∧Rd H a (.dK kvs)∧∀p,H p=none→Q (.ref p) (upd H p (.lst (kvs.map fun kv=>kV kv.1)))
theorem W6 (hB:fG X.mg) (h:PE X e te) (hc:X.calm=true:=by rfl) (hg:Gl X "list":=by rfl) (he:starEach [e] X.env=(false,eval e X.env)::starEach [] X.env:=by rfl):PE X (.Call (.Name "list" p) [e] [] pos) (tCB (Iu X.K) (tCons te tNil)):=
 pe_callTy (CallR.or call_list_of (call_listD hc)) hg (hB _ (by trivial)) (by trivial) (a0i h a0x he) (he:=he)
theorem kY {n:Addr} (h:X.mg x=some (.ref n)) (hg:Gl X x:=by rfl) (hd:(x == ("__debug__":Str))=false:=by decide):PE X (.Name x pos) (tC (.ref n)):=pe_glob hg h rfl hd
theorem vR {tg:Expr} (hB:fG X.mg) (h:PE X e te) (hg:Gl X "range":=by rfl) (hs:starEach [e] X.env=[(false,eval e X.env)]:=by rfl):PI X tg (.Call (.Name "range" p) [e] [] pos) (iRng1 (tCons te tNil)):=pi_range1 hg (hB _ (by trivial)) (a0i h a0x hs) hs
theorem Yo {tg:Expr} (hB:fG X.mg) (h:PE X a ta) (h2:PE X b tb) (hg:Gl X "range":=by rfl) (hs:starEach [a,b] X.env=[(false,eval a X.env),(false,eval b X.env)]:=by rfl) (hs2:starEach [b] X.env=[(false,eval b X.env)]:=by rfl) :
  PI X tg (.Call (.Name "range" p) [a,b] [] pos) (iRng2 (tCons ta (tCons tb tNil))):=pi_range2 hg (hB _ (by trivial)) (a0i h (a0i h2 a0x hs2) (by rw[hs,hs2])) hs hs2
theorem jO (K:PySem.W.Frag) (ha:PE X a ta) (hb:PE X b tb) (hK:X.K=K:=by rfl):PE X (.BinOp a .Add b pos) (tOp (wj K) ta tb):=by subst hK;exact p_add (ha:=ha) (hb:=hb)
theorem lA (K:PySem.W.Frag) (hr:Room k X.A) (ha:PE X a ta) (hb:PE X b tb) (hK:X.K=K:=by rfl):PT X (.Compare a [.Eq] [b] pos) (tTest (tOp (pA K) ta tb)):=by subst hK;exact aaA (hr:=hr) (ha:=ha) (hb:=hb)
theorem ZD (K:PySem.W.Frag) (hr:Room k X.A) (ha:PE X a ta) (hb:PE X b tb) (hK:X.K=K:=by rfl):PT X (.Compare a [.NotEq] [b] pos) (tTest (tOp (qd K) ta tb)):=by subst hK;exact aaB (hr:=hr) (ha:=ha) (hb:=hb)
theorem HW (K:PySem.W.Frag) (ha:PE X a ta) (he:∀whole,isTrue a X.env whole=(do let v ← whole;standAt a.pos;holding [v] (truthy v)):=by intro _;rfl) (hK:X.K=K:=by rfl):PT X a (tTru K ta):=by subst hK;exact Zy (ha:=ha) (he:=he)
theorem mK (K:PySem.W.Frag) (hr:Room k X.A) (ha:PE X a ta) (hb:PE X b tb) (hs:PlainIx b:=by exact fun _ _=>rfl) (hK:X.K=K:=by rfl):PE X (.Subscript a b pos) (tOp (rJ K) ta tb):=by subst hK;exact aaC (hr:=hr) (ha:=ha) (hb:=hb) (hs:=hs)
theorem Oe (K:PySem.W.Frag) (hB:fG X.mg) (h:PE X e te) (hg:Gl X "len":=by rfl) (he:starEach [e] X.env=(false,eval e X.env)::starEach [] X.env:=by rfl) (hK:X.K=K:=by rfl):PE X (.Call (.Name "len" p) [e] [] pos) (tCB (qT K) (tCons te tNil)):=by subst hK;exact ZC (hB:=hB) (h:=h) (hg:=hg) (he:=he)
theorem VP (K:PySem.W.Frag) (hB:fG X.mg) (h:PE X e te) (hc:X.calm=true:=by rfl) (hg:Gl X "list":=by rfl) (he:starEach [e] X.env=(false,eval e X.env)::starEach [] X.env:=by rfl) (hK:X.K=K:=by rfl):PE X (.Call (.Name "list" p) [e] [] pos) (tCB (Iu K) (tCons te tNil)):=by subst hK;exact W6 (hB:=hB) (h:=h) (hc:=hc) (hg:=hg) (he:=he)
end
end DL
set_option maxHeartbeats 2000000
namespace PySem
namespace bA
open PySem.W PySem.Calls PyProof.Rows PySem.HandSPX
def Qn (jv:List Expr) (jp p0 p1 p2 p3 p4:Pos):Stmt:=.Expr (.Call (.Attribute (.Call (.Name "super" p0) [] [] p1) "__init__" p2) [.JoinedStr jv jp] [] p3) p4
structure oJ (prog:Program) (K:Frag) (mg:Str→Option Value) (C fI:Addr) (cn qual:Str) (st:Stmt) (ps:List Str) (jv:List Expr) (rest:List Stmt):Prop where
 gC:mg cn=some (.ref C)
 cls:∃nm q N bs bm sn sub ab col dd k0 k1 k2 k3 k5,K.lookup C=some (excClassObj nm q C N bs bm true sn sub ab col dd k0 k1 k2 k3 k5 "ValueError.__new__")∧refsVE bm=true
 sa:findIn K (.ref C) "__setattr__"=some (some (.builtin "object.__setattr__"))
 ga:findIn K (.ref C) "__getattribute__"=some (some (.builtin "BaseException.__getattribute__"))
 gg:findIn K (.ref C) "__getattr__"=some none
 iC:findIn K (.ref C) "__init__"=some (some (.ref fI))
 tC:typeIn K (.ref fI)=some (.type "function")
 kC:keepIn K (.ref C)=true
 exC:subIn K (.ref C) (.type "BaseException")=some true
 JZ:subIn K (.ref C) (.type "ValueError")=some true
 J5:mroIn K C (.ref C)=some true
 tyC:typeIn K (.ref C)=some (.type "type")
 hdC:hasDictIn K C=true
 sup:ks_superIn K C C "__init__"=some (some (.builtin "ValueError.__init__"))
 gG:nsIn K cStatics "thirdparty.any"=some none
 mgS:mg "super"=none
 top:(prog.main.scope.names.lookup ("super":Str)).isSome=false
 lk:∃(oc:Value) (od:Option Addr) (kV doc pm:Value) (an:Option Addr) (cda:Addr) (ct:Value) (cc:Addr) (osl:Array (Option Value)) (ccl:Value) (cdd:Option Addr) (vs:Array Value) (ccs:Array (Option Value)) (file:Str) (tf:Tok) (cl:Value) (cld:Option Addr) (csl:Array (Option Value)),
  K.lookup fI=some ⟨oc,od,.func (ksFn "__init__" qual (L2.defArgs st) (L2.defBody st) (L2.defScope st) .none kV doc pm an (.ref cda) ct cc),osl⟩∧codeIn K (.ref cda) qual=true∧
  K.lookup cda=some ⟨ccl,cdd,.fields vs,ccs⟩∧vs[2]?=some (.str file tf)∧((prog.main.file:Str) == file)=true∧K.lookup cc=some ⟨cl,cld,.cell (some (.ref C)),csl⟩
structure kZ (st:Stmt) (qual:Str) (ps:List Str) (jv:List Expr) (rest:List Stmt):Prop where
 body:∃jp p0 p1 p2 p3 p4,L2.defBody st=Qn jv jp p0 p1 p2 p3 p4::rest∧(p2.endLine == p3.line)=true
 args:((L2.defArgs st).posonlyargs++(L2.defArgs st).args).head?.map (·.arg)=some "self"
 nM:(L2.defScope st).names.lookup ("self":Str)=some .local
 tX:(L2.defScope st).names.lookup ("super":Str)=some .globalImplicit
 tY:(L2.defScope st).names.lookup ("__class__":Str)=some .free
 jZ:∀p∈ps,(L2.defScope st).names.lookup p=some .local
 kind:(L2.defScope st).kind=.function
 gen:(L2.defScope st).isGenerator=false
 co:(L2.defScope st).isCoroutine=false
 wO:∀x∈(L2.defScope st).names,x.2≠.cell
 first:∀(x:Addr) (us:List Value),us.length=ps.length→(((("self":Str)::ps).zip (Value.ref x::us)).reverse.lookup ("self":Str))=some (.ref x)
 bind:∀(kV doc pm:Value) (an:Option Addr) (cdv ct:Value) (cc:Addr) (us:List Value),us.length=ps.length+1→bindArgs (ksFn "__init__" qual (L2.defArgs st) (L2.defBody st) (L2.defScope st) .none kV doc pm an cdv ct cc) ⟨us,[]⟩=pure ((("self":Str)::ps).zip us)
section
variable {prog:Program} {w:World} {A:Around} {E:Value→Shared→Prop} {R:Result→Shared→Prop} {s:Shared} {K:Frag} {mg:Str→Option Value} {C fI:Addr} {cn qual:Str} {st:Stmt} {ps:List Str} {jv:List Expr} {rest:List Stmt}
theorem ni {h h':Heap} (X:L2.Mod K mg h) (k:∀b o,h.get? b=some o→h'.get? b=some o):L2.Mod K mg h':=by
 obtain⟨a,b,⟨mb,c,d⟩,f⟩:=X
 exact⟨a.keeps k,b.keeps k,⟨mb,c.keeps k,d⟩,f.keeps k⟩
theorem VR {env:Env} {o:Expr} {jp p2 p3:Pos} {nm:Str} (hpos:(p2.endLine == p3.line)=true) :
  eval (.Call (.Attribute o nm p2) [.JoinedStr jv jp] [] p3) env=(do
   let ov ← attributeBase o nm env (eval o env)
   standAt p2.atName
   let (f,first) ← holding [ov] (getMethod ov nm (do return (← importBound o env).getD true))
   callWith p3 f first (backTo p3 (starEach [.JoinedStr jv jp] env)) []):=by
 show (do
   let ov ← attributeBase o nm env (eval o env)
   standAt p2.atName
   methodCall o nm p2 p3 env ov 1 (backTo p3 (starEach [.JoinedStr jv jp] env)) [])=_
 have e1:∀ov,methodCall o nm p2 p3 env ov 1 (backTo p3 (starEach [.JoinedStr jv jp] env)) []=(do
   let (f,first) ← holding [ov] (getMethod ov nm (do return (← importBound o env).getD true))
   callWith p3 f first (backTo p3 (starEach [.JoinedStr jv jp] env)) []):=fun ov=>by
  have e2:methodCallPos true o env p2 p3=pure p3:=by
   unfold methodCallPos
   rw[hpos]
   rfl
  show (do
   let (f,first) ← holding [ov] (getMethod ov nm (do return (← importBound o env).getD true))
   let callPos ← methodCallPos true o env p2 p3
   callWith callPos f first (backTo p3 (starEach [.JoinedStr jv jp] env)) [])=_
  rw[e2]
  rfl
 simp only[e1]
theorem Lp (T:oJ prog K mg C fI cn qual st ps jv rest) (S:kZ st qual ps jv rest) {x t0:Addr} {us:List Value} (X:L2.Mod K mg s.heap) (hx:s.heap.get? x=some (excO C t0)) (hnx:K.lookup x=none)
  (hroom:A.depth<recursionLimit) (hus:us.length=ps.length)
  (hev:∀(jp:Pos) (L:Addr) (cda cc:Addr) (s1:Shared) (Q:Value→Shared→Prop) (E1:Value→Shared→Prop),(∀b o,s.heap.get? b=some o→s1.heap.get? b=some o)→s1.heap.Ns L (fun y=>(((("self":Str)::ps).zip (.ref x::us)).reverse.lookup y))→
   (∀y tk tks h5,(∀b o,s1.heap.get? b=some o→h5.get? b=some o)→Q (.str y tk) {s1 with heap:=h5,toks:=tks})→wpAny (model prog w) (A.deeper (ksEnv qual (L2.defScope st) L fI (.ref cda) cc)) (eval (.JoinedStr jv jp) (ksEnv qual (L2.defScope st) L fI (.ref cda) cc)) Q E1 s1)
  (h:∀(L:Addr) (cda cc:Addr) (h2:Heap) (t1:Addr) (tks:Nat),s.heap.objs.size≤L→(∀b o,b≠x→s.heap.get? b=some o→h2.get? b=some o)→h2.get? x=some (excO C t1)→h2.Ns L (fun y=>(((("self":Str)::ps).zip (.ref x::us)).reverse.lookup y))→
   wpAny (model prog w) (A.deeper (ksEnv qual (L2.defScope st) L fI (.ref cda) cc)) (execs rest (ksEnv qual (L2.defScope st) L fI (.ref cda) cc)) (fun f s'=>R (.ok (.ret (match f with|.ret v=>v|_=>.none))) s') (fun _ _=>False) {s with heap:=h2,toks:=tks}) :
  codeAny (model prog w) A (.call (.ref fI) ⟨.ref x::us,[]⟩) R s:=by
 obtain⟨oc,od,kV,doc,pm,an,cda,ct,cc,osl,ccl,cdd,vs,ccs,file,tf,cl,cld,csl,ho,hcd,hcode,hvs,hfile,hcell⟩:=T.lk
 obtain⟨nm,q,N,bs,bm,sn,sub,ab,col,dd,k0,k1,k2,k3,k5,hC,hbm⟩:=T.cls
 obtain⟨jp,p0,p1,p2,p3,p4,hB,hpos⟩:=S.body
 refine ks_codeAny_call_defAt (fd:=ksFn "__init__" qual (L2.defArgs st) (L2.defBody st) (L2.defScope st) .none kV doc pm an (.ref cda) ct cc) (body:=L2.defBody st) (binds:=(("self":Str)::ps).zip (.ref x::us)) hroom (X.kin _ _ ho) rfl X.nolimit (codeRec_of X.kin hcd) rfl
  (BindsTo.of_eq (S.bind kV doc pm an (.ref cda) ct cc (.ref x::us) (by simp[hus]))) S.wO (fun y hy=>?_) (fun h₁ hns hk₁=>?_) S.co S.gen S.kind
 ·have hm:=List.of_mem_zip hy
  rcases a0c.mp hm.1 with e1|e1
  ·rw[e1];exact S.nM
  ·exact S.jZ _ e1
 ·have X1:L2.Mod K mg h₁:=ni X hk₁
  have hx1:=hk₁ _ _ hx
  have hself:(((("self":Str)::ps).zip (Value.ref x::us)).reverse.lookup ("self":Str))=some (.ref x):=S.first x us hus
  obtain⟨ar,har,aaD⟩:∃ar,((L2.defArgs st).posonlyargs++(L2.defArgs st).args).head?=some ar∧ar.arg="self":=by
   have:=S.args
   cases z:((L2.defArgs st).posonlyargs++(L2.defArgs st).args).head? with
   | none=>rw[z] at this;cases this
   | some ar=>rw[z] at this;exact⟨ar,rfl,b0o this⟩
  obtain⟨mb,hmb,Jr⟩:=X1.blt
  have hcl:clsIn K C=some {name:=nm,bases:=bs,mro:=.ref C::bm,ns:=N,qualname:=q,hasDict:=true,slotNames:=sn,subclasses:=sub,abstract:=ab,collection:=col,hasDel:=false}:=by unfold clsIn;rw[hC]<;>rfl
  have I1:InstAt h₁ x (excO C t0) C none:=⟨hx1,rfl,rfl,trivial⟩
  show wpAt _ _ _ (execs (L2.defBody st) (ksEnv qual (L2.defScope st) s.heap.objs.size fI (.ref cda) cc)) _ _ _
  have goal:∀bd:List Stmt,bd=Qn jv jp p0 p1 p2 p3 p4::rest→wpAt (model prog w) (A.deeper (ksEnv qual (L2.defScope st) s.heap.objs.size fI (.ref cda) cc)) (.func (L2.defBody st) (ksEnv qual (L2.defScope st) s.heap.objs.size fI (.ref cda) cc)) (execs bd (ksEnv qual (L2.defScope st) s.heap.objs.size fI (.ref cda) cc)) (fun f s'=>R (.ok (.ret (match f with|.ret v=>v|_=>.none))) s')
    (fun _ _=>False) {s with heap:=h₁,toks:=s.toks+((("self":Str)::ps).zip (Value.ref x::us)).length}:=fun bd hbd=>?_
  ·exact ks_wpAt_mono (goal _ hB) (fun _ _ z=>z) (fun _ _ z=>z.elim)
  subst hbd
  refine ks_wpAt_execs_cons (ks_wpAt_Expr_any (ks_wpAt_MethodCall ?_ (VR hpos)) (by unfold interactive;rw[show (ksEnv qual (L2.defScope st) s.heap.objs.size fI (.ref cda) cc).scope.kind=.function from S.kind];rfl))
  refine ks_wpAt_super_base (env:=ksEnv qual (L2.defScope st) s.heap.objs.size fI (.ref cda) cc) S.tX S.tY (by decide) rfl (X1.kin _ _ ho) rfl har rfl (X1.kin _ _ hcode) rfl hvs hfile T.top ?_
  refine ks_loadName_global S.kind S.tX (loadGlobal_builtin (env:=ksEnv qual (L2.defScope st) s.heap.objs.size fI (.ref cda) cc) X1.glob T.mgS hmb ((Jr _ (by trivial)).trans (by first|rfl|decide +kernel)) ⟨rfl,?_⟩)
  refine wpAny_loadName_free S.kind S.tY rfl ⟨_,X1.kin _ _ hcell,rfl⟩ ?_
  rw[aaD]
  refine a0p S.kind S.nM hns hself ?_
  refine ks_wpAny_isType_cls (X1.kin _ _ hC) rfl ⟨rfl,?_⟩
  refine ks_wpAny_call_super (X1.kin _ _ hC) rfl hx1 rfl (fun c e=>by cases e) (looks_mroIn X1.kin T.J5) (fun h₂ e2 k2'=>?_)
  have X2:L2.Mod K mg h₂:=ni X1 k2'
  have hx2:=k2' _ _ hx1
  have I2:InstAt h₂ x (excO C t0) C none:=⟨hx2,rfl,rfl,trivial⟩
  have hm:=T.sup
  unfold ks_superIn at hm
  rw[hcl] at hm
  refine kxs_getMethod kxs_ValueError e2 (looks_opaque X2.kin T.gG) (l₀:=.ref C::bm) ?_ rfl X2.kin hm (I2.type.andThen (looks_subIn X2.kin T.JZ)) (ks_ne X2.kin I2 hcl) (by decide) ?_
  ·exact fun A Q E s k q=>a0H ((looks_clsIn X2.kin hcl) A _ E s k (b0n q))
  have QX:h₂.Ns s.heap.objs.size (fun y=>(((("self":Str)::ps).zip (.ref x::us)).reverse.lookup y)):=hns.keeps k2'
  have k3:∀b o,h₂.get? b=some o→(h₂.push (kxs_mw "ValueError.__init__" x)).get? b=some o:=fun b o e=>Heap.get?_push_of_some _ e
  have hu:(h₂.push (kxs_mw "ValueError.__init__" x)).get? h₂.objs.size=some (kxs_mw "ValueError.__init__" x):=Heap.get?_push_size h₂ rfl
  refine kxs_callWith (i:="ValueError.__init__") (x:=x) rfl ?_
  refine evalArgs_plain ?_
  refine spliced_cons (hev jp _ cda cc _ _ _ (fun b o e=>k3 _ _ (k2' _ _ (hk₁ _ _ e))) (QX.keeps k3) fun y tk tks h5 k5=>spliced_nil ⟨k5 _ _ hu,?_⟩)
  show wpAny (model prog w) _ (call (.ref h₂.objs.size) [.str y tk]) _ _ _
  refine b0t (codeAny_of_tree ?_)
  show wpAny _ _ (callAny (.ref h₂.objs.size) ⟨[.str y tk],[]⟩) _ _ _
  simp only[callAny]
  refine a0H (wpAny_load (k5 _ _ hu) ?_)
  simp only[kxs_mw,show (Value.type "method-wrapper" == Value.type "method" || Value.type "method-wrapper" == Value.type "builtin_function_or_method" || Value.type "method-wrapper" == Value.type "method-wrapper")=true by decide,a0W]
  refine KFB.if_so (by decide) ?_
  have FB:=F.excBase_ValueError
  refine a0H (check_bound_init FB.toExcCallFacts (k5 _ _ (k3 _ _ (X2.kin _ _ hC))) (k5 _ _ (k3 _ _ hx2)) rfl ?_)
  refine a0H (b0n (b0n ?_))
  refine⟨plainId_quiet FB.init.plain _,codeAny_builtin FB.initEntry ?_⟩
  refine exc_init_tree (cls:=.ref C) (t0:=t0) (dv:=none) (c2:=.none) (c3:=.none) (b4:=.bool false) (k5 _ _ (k3 _ _ hx2)) (by rw[a0m];exact(by decide:1≤16777216)) fun h4 k4 e4 t4=>?_
  have xL:s.heap.objs.size≠x:=Nat.ne_of_gt (Heap.lt_size hx)
  obtain⟨oL,es,ep,hL,r⟩:=(QX.keeps k3).keeps k5
  exact wpAt_of_wpAny (h s.heap.objs.size cda cc h4 _ _ (Nat.le_refl _) (fun b o hb e=>k4 _ _ hb (k5 _ _ (k3 _ _ (k2' _ _ (hk₁ _ _ e))))) e4 ⟨oL,es,ep,k4 _ _ xL hL,r⟩)
theorem LK (T:oJ prog K mg C fI cn qual st ps jv rest) (S:kZ st qual ps jv rest) {x t0:Addr} {us:List Value} (X:L2.Mod K mg s.heap) (hx:s.heap.get? x=some (excO C t0)) (hnx:K.lookup x=none)
  (hroom:A.depth<recursionLimit) (hus:us.length=ps.length)
  (hev:∀(jp:Pos) (L:Addr) (cda cc:Addr) (s1:Shared) (Q:Value→Shared→Prop) (E1:Value→Shared→Prop),(∀b o,s.heap.get? b=some o→s1.heap.get? b=some o)→s1.heap.Ns L (fun y=>(((("self":Str)::ps).zip (.ref x::us)).reverse.lookup y))→
   (∀y tk tks,Q (.str y tk) {s1 with toks:=tks})→wpAny (model prog w) (A.deeper (ksEnv qual (L2.defScope st) L fI (.ref cda) cc)) (eval (.JoinedStr jv jp) (ksEnv qual (L2.defScope st) L fI (.ref cda) cc)) Q E1 s1)
  (h:∀(L:Addr) (cda cc:Addr) (h2:Heap) (t1:Addr) (tks:Nat),s.heap.objs.size≤L→(∀b o,b≠x→s.heap.get? b=some o→h2.get? b=some o)→h2.get? x=some (excO C t1)→h2.Ns L (fun y=>(((("self":Str)::ps).zip (.ref x::us)).reverse.lookup y))→
   wpAny (model prog w) (A.deeper (ksEnv qual (L2.defScope st) L fI (.ref cda) cc)) (execs rest (ksEnv qual (L2.defScope st) L fI (.ref cda) cc)) (fun f s'=>R (.ok (.ret (match f with|.ret v=>v|_=>.none))) s') (fun _ _=>False) {s with heap:=h2,toks:=tks}) :
  codeAny (model prog w) A (.call (.ref fI) ⟨.ref x::us,[]⟩) R s:=
 Lp T S X hx hnx hroom hus (fun jp L cda cc s1 Q E1 k1 n1 q1=>hev jp L cda cc s1 Q E1 k1 n1 fun y tk tks=>q1 y tk tks s1.heap fun _ _ e=>e) h
structure Made (h h':Heap) (e C d:Addr) (m:Str→Option Value):Prop where
 keep:∀b o,h.get? b=some o→h'.get? b=some o
 new:h.objs.size≤e
 obj:∃oe vs,h'.get? e=some oe∧oe.cls=.ref C∧oe.dict=some d∧oe.data=.fields vs∧vs[1]?=some .none∧vs[2]?=some .none∧4<vs.size
 qU:h.objs.size≤d
 dne:d≠e
 ns:h'.Ns1 d m
def oU (prog:Program) (w:World) (A:Around) (h:Heap) (u:Value):Prop:=∀(env:Env) (s1:Shared) (Q E1:Value→Shared→Prop),(∀b o,h.get? b=some o→s1.heap.get? b=some o)→
 (∀(y:Str) (tk:Tok) (tks:Nat),y.length≤1000000→Q (.str y tk) {s1 with toks:=tks})→wpAny (model prog w) (A.deeper env) (pyReprObj u) Q E1 s1
theorem W7 {A:Around} {h:Heap} {x:Str} {t:Tok} (hx:(reprText x).length≤1000000):oU prog w A h (.str x t):=fun env s1 Q E1 _ q=>by
 exact pyReprObj_str (q _ _ _ hx) (a0D hx (by rw[a0m];decide))
theorem W8 {A:Around} {h:Heap} {x:Int} {t:Tok} (hx:x.natAbs.log2<1920) (hz:(Str.ofString (toString x)).length≤1000000):oU prog w A h (.int x t):=fun env s1 Q E1 _ q=>by
 exact pyReprObj_int hx (q _ _ _ hz)
theorem oU.keeps {A:Around} {h h':Heap} {u:Value} (r:oU prog w A h u) (k:∀b o,h.get? b=some o→h'.get? b=some o):oU prog w A h' u:=fun env s1 Q E1 k1 q=>r env s1 Q E1 (fun b o e=>k1 _ _ (k _ _ e)) q
theorem V1 {p pre:Str} {cst:Nat} {j1 j2 j3 q1 q2 q3 q4:Pos} (T:oJ prog K mg C fI cn qual st [p] [.Constant (.str pre) cst j1,.FormattedValue (.Name p j2) 114 none j3] [.Assign [.Attribute (.Name "self" q1) p q2] (.Name p q3) q4])
  (S:kZ st qual [p] [.Constant (.str pre) cst j1,.FormattedValue (.Name p j2) 114 none j3] [.Assign [.Attribute (.Name "self" q1) p q2] (.Name p q3) q4]) (hp:(p == ("self":Str))=false) (hpd:(p == ("__debug__":Str))=false) (hno:findIn K (.ref C) p=some none)
  (hpre:pre.length≤100) {v:Value} (X:L2.Mod K mg s.heap) (hroom:A.depth+1<recursionLimit) (hrep:oU prog w (A.under (.builtin "type.__call__" ⟨[.ref C,v],[]⟩)) s.heap v)
  (hq:∀h' tk e d,Made s.heap h' e C d (fun y=>if y=p then some v else none)→R (.ok (.ret (.ref e))) {s with heap:=h',toks:=tk}) :
  codeAny (model prog w) A (.call (.ref C) ⟨[v],[]⟩) R s:=by
 obtain⟨nm,q,N,bs,bm,sn,sub,ab,col,dd,k0,k1,k2,k3,k5,hC,hbm⟩:=T.cls
 have hcl:clsIn K C=some {name:=nm,bases:=bs,mro:=.ref C::bm,ns:=N,qualname:=q,hasDict:=true,slotNames:=sn,subclasses:=sub,abstract:=ab,collection:=col,hasDel:=false}:=by unfold clsIn;rw[hC]<;>rfl
 obtain⟨hp0,g,dr,tk,os⟩:=s
 have k:∀b o,hp0.get? b=some o→((hp0.push (kdv_tup [v])).push (excO C hp0.objs.size)).get? b=some o:=fun b o e=>Heap.get?_push_of_some _ (Heap.get?_push_of_some _ e)
 have hget:((hp0.push (kdv_tup [v])).push (excO C hp0.objs.size)).get? (hp0.objs.size+1)=some (excO C hp0.objs.size):=by heap_get
 have hnx:K.lookup (hp0.objs.size+1)=none:=by
  cases e:K.lookup (hp0.objs.size+1) with
  | none=>rfl
  | some o=>
   have z:hp0.get? (hp0.objs.size+1)=some o:=X.kin _ _ e
   exact absurd (a0V (Heap.lt_size z)) (Nat.lt_irrefl _)
 have hsz1:[v].length≤sizeLine:=by rw[a0m];exact(by decide:1≤16777216)
 have qO:(((("self":Str)::[p]).zip [Value.ref (hp0.objs.size+1),v]).reverse.lookup ("self":Str))=some (.ref (hp0.objs.size+1)):=S.first _ [v] rfl
 have lp:(((("self":Str)::[p]).zip [Value.ref (hp0.objs.size+1),v]).reverse.lookup p)=some v:=by
  show (List.lookup p [(p,v),(("self":Str),Value.ref (hp0.objs.size+1))])=some v
  simp[List.lookup]
 refine call_own F.excBase_ValueError (fun X=>refsVE_contains X bm hbm) (X.kin _ _ hC) (looks_findIn X.kin T.iC) (fun self=>bind_fn X.kin self T.tC) hsz1 ?_
 refine LK (s:=⟨(hp0.push (kdv_tup [v])).push (excO C hp0.objs.size),g,dr,tk,os⟩) T S (ni X k) hget hnx hroom rfl (fun jp L cda cc s1 Q E1 k1 n1 q1=>?_) fun L cda cc h2 t1 tks hL k2 e2 n2=>?_
 ·
  refine wpAny_JoinedStr ?_
  show wpAny _ _ (eval (.Constant (.str pre) cst j1) _) _ _ _
  refine a0Z ⟨pre,_,rfl,?_,?_⟩
  ·show (Str.empty++pre).length≤sizeLine
   have:(Str.empty++pre).length=pre.length:=by rw[Str.length_append];show 0+pre.length=_;omega
   rw[this,a0m];omega
  show wpAny _ _ (eval (.FormattedValue (.Name p j2) 114 none j3) _) _ _ _
  refine a0X (a0M (a0p S.kind (S.jZ p (by simp)) n1 lp ?_) hpd)
  refine hrep _ _ _ _ (fun b o e=>k1 _ _ (k _ _ e)) fun y tk tks hy=>?_
  have hys:y.length≤sizeLine:=by rw[a0m];omega
  have fin:∀(s3:Shared) (z:Tok),(∃tks,s3={s1 with toks:=tks})→∃(y':Str) (t:Tok),Value.str y z=.str y' t∧((Str.empty++pre)++y').length≤sizeLine∧Joins (model prog w) ((A.under (.builtin "type.__call__" ⟨[.ref C,v],[]⟩)).deeper (ksEnv qual (L2.defScope st) L fI (.ref cda) cc)) E1 [] ((Str.empty++pre)++y') (fun out s₁=>out.length≤sizeLine∧Q (.str out s₁.toks) {s₁ with toks:=s₁.toks+1}) s3:=fun s3 z hs=>by
   obtain⟨Qo,rfl⟩:=hs
   have hl:((Str.empty++pre)++y).length≤sizeLine:=by
    rw[Str.length_append,Str.length_append,a0m]
    show 0+pre.length+y.length≤_
    omega
   exact⟨y,_,rfl,hl,hl,q1 _ _ _⟩
  exact b0h (fin _ _ ⟨_,rfl⟩) (fin _ _ ⟨_,rfl⟩) hys
 ·
  have hk:(L2.defScope st).kind=.function:=S.kind
  have X2:K.In h2:=fun a o e=>k2 a o (fun z=>by rw[z,hnx] at e;cases e) (k a o (X.kin a o e))
  refine b0i (a0E ?_)
  refine a0M (a0p S.kind (S.jZ p (by simp)) n2 lp ?_) hpd
  refine a0M (a0p S.kind S.nM n2 qO ?_) (by decide)
  refine set_plain X2 (ox:=excO C t1) (od:=none) ⟨e2,rfl,rfl,trivial⟩ T.sa ?_
  refine exc_osa X2 e2 hcl (show refsVE (.ref C::bm)=true from hbm) rfl hno (fun h₃ tk₃ dx k₃ dn dne hx₃ hn₃=>?_)
  refine b0p ?_
  have tZ:hp0.objs.size+1+1≤L:=by
   have q:=hL
   first
    | (simpa only[Heap.size_push] using q)
    | exact q
  have hLlt:L<h2.objs.size:=n2.lt
  have old:∀b o,hp0.get? b=some o→h₃.get? b=some o:=fun b o e=>k₃ b o (a0A (a0L (Heap.lt_size e))) (k2 b o (a0A (a0L (Heap.lt_size e))) (k b o e))
  exact⟨rfl,hq h₃ tk₃ (hp0.objs.size+1) dx ⟨old,b0g _,⟨_,_,hx₃,rfl,rfl,rfl,rfl,rfl,(by decide:4<6)⟩,a0D (a0D (a0D (b0g _) (b0g _)) (a0D tZ (Nat.le_of_lt hLlt))) dn,dne,hn₃⟩⟩
end
def wu:L2.V→Prop
 | .str x=>(reprText x).length≤1000000
 | .int i=>i.natAbs.log2<1920
 | _=>False
theorem Og {prog:Program} {w:World} {A:Around} {h:Heap} {v:L2.V} {u:Value} (h1:wu v) (r:L2.RelV v u):oU prog w A h u:=by
 cases v with
 | str x=>obtain⟨t,rfl⟩:=r;exact W7 h1
 | int i=>
  obtain⟨t,rfl⟩:=r
  have e:=int_text_length_le (k:=1920) (by decide) (show i.natAbs.log2<1920 from h1)
  exact W8 h1 (by rw[ofString_length];omega)
 | non=>exact h1.elim
 | bl b=>exact h1.elim
 | byt b=>exact h1.elim
 | flt b=>exact h1.elim
 | ref b=>exact h1.elim
 | ty b=>exact h1.elim
def dF (P:Program) (K:Frag) (mg:Str→Option Value) (cn p:Str) (C:Addr):Prop:=∃(fI:Addr) (qual:Str) (st:Stmt) (pre:Str) (cst:Nat) (j1 j2 j3 q1 q2 q3 q4:Pos),
 oJ P K mg C fI cn qual st [p] [.Constant (.str pre) cst j1,.FormattedValue (.Name p j2) 114 none j3] [.Assign [.Attribute (.Name "self" q1) p q2] (.Name p q3) q4]∧
 kZ st qual [p] [.Constant (.str pre) cst j1,.FormattedValue (.Name p j2) 114 none j3] [.Assign [.Attribute (.Name "self" q1) p q2] (.Name p q3) q4]∧
 (p == ("self":Str))=false∧(p == ("__debug__":Str))=false∧findIn K (.ref C) p=some none∧pre.length≤100
theorem dF.xf {P:Program} {K:Frag} {mg:Str→Option Value} {cn p:Str} {C:Addr} (T:dF P K mg cn p C):L2.XfC K C:=by
 obtain⟨fI,qual,st,pre,cst,j1,j2,j3,q1,q2,q3,q4,T,S,h1,h2,h3,h4⟩:=T
 exact⟨T.ga,T.gg,T.exC,T.hdC⟩
theorem dF.no {P:Program} {K:Frag} {mg:Str→Option Value} {cn p:Str} {C:Addr} (T:dF P K mg cn p C):findIn K (.ref C) p=some none:=by
 obtain⟨fI,qual,st,pre,cst,j1,j2,j3,q1,q2,q3,q4,T,S,h1,h2,h3,h4⟩:=T
 exact h3
theorem dF.g {P:Program} {K:Frag} {mg:Str→Option Value} {cn p:Str} {C:Addr} (T:dF P K mg cn p C):mg cn=some (.ref C):=by
 obtain⟨fI,qual,st,pre,cst,j1,j2,j3,q1,q2,q3,q4,T,S,h1,h2,h3,h4⟩:=T
 exact T.gC
end bA
end PySem
namespace DL
open PySem L2 PyProof.Rows
def Qp (C:Addr) (p:Str) (ta:TA):L2.St→Hp→XK→Prop:=fun σ H Q=>ta σ H fun vs H1=>∃v,vs=[v]∧bA.wu v∧∀d,H1 d=none→Q (.ref C) (some d) (upd H1 d (.xd [(p,v)]))
section
variable {X:Cx} {C:Addr} {cn p:Str} {a:Expr} {ta:TA} {pp pos pos2:Pos} {k:Nat} {W:WX}
theorem Ms {v:V} {u:Value} (r:RelV v u) (f:Str):RelO (List.lookup f [(p,v)]) (if f=p then some u else none):=by
 by_cases q:f=p
 ·rw[a0d q,q]
  show RelO (List.lookup p [(p,v)]) (some u)
  simp only[List.lookup,b0j]
  exact r
 ·have z:(f == p)=false:=by simpa using q
  rw[a0j q]
  simp only[List.lookup,z]
  exact True.intro
def Qq (C:Addr) (p:Str) (W:WX) (ta:TA):TS:=fun _ σ H=>Qp C p ta σ H fun cls d H'=>W cls d σ H'
end
structure nR where
 c:Value
 nm:Option Nat
 ts:Addr→Value→Option Addr→TS
def O_ (i:Nat) (T:Ends):Ends:={nx:=fun σ H=>T.nx (σ.set i none) H,rt:=T.rt,bk:=fun σ H=>T.bk (σ.set i none) H,ct:=fun σ H=>T.ct (σ.set i none) H}
def t_ (K:PySem.W.Frag) (Wo:WX) (T:Ends):List nR→WX
 | []=>Wo
 | c::r=>fun cls d σ H=>∃b,PySem.W.exmOne K cls c.c=some b∧(b=true→∀a,H a=none→match c.nm with|none=>c.ts a cls d T σ H|some i=>c.ts a cls d (O_ i T) (σ.set i (some (.ref a))) H)∧(b=false→t_ K Wo T r cls d σ H)
def Qs (K:PySem.W.Frag) (Wo:WX) (l:List nR) (tb:WX→TS):TS:=fun T σ H=>tb (t_ K Wo T l) T σ H
section
variable {K:PySem.W.Frag} {d:D}
def fW:D→Prop
 | .str x=>(reprText x).length≤1000000
 | .int i=>i.natAbs.log2<1920
 | _=>False
theorem fW.v {Hb:Hp} {v:V} (h:fW d) (r:Rp K Hb d v):bA.wu v:=by
 cases d<;>first|exact h.elim|(cases (Rp.dU r);exact h)|(cases (Rp.jC r);exact h)
end
instance abE (k:Key) (ks:List Key):Decidable (k∈ks):=@List.instDecidableMemOfLawfulBEq Key instBEqOfDecidableEq inferInstance k ks
def kD:Key→D
 | .inl i=>.int i
 | .inr s=>.str s
def dget (ks:List Key) (ds:List D) (k:Key):Option D:=((ks.zip ds).find? fun kv=>decide (kv.1=k)).map (·.2)
def nO (ks:List Key) (k:Key):List Key:=if k∈ks then ks else ks++[k]
def Iv (ks:List Key) (ds:List D) (k:Key) (d:D):List D:=if k∈ks then List.zipWith (fun k' d'=>if k'=k then d else d') ks ds else ds++[d]
section
variable {K:PySem.W.Frag}
theorem oX {Hb:Hp} {k:Key} {v:V} (r:Rp K Hb (kD k) v):v=kV k:=by cases k<;>exact r
theorem ZF {Hb:Hp} (k:Key):Rp K Hb (kD k) (kV k):=by cases k<;>(unfold kD kV Rp;rfl)
theorem Nb {Hb:Hp} {k:Key}:∀{ks:List Key} {ds:List D} {vs:List V},ks.length=vs.length→aj K Hb ds vs→(∀d,dget ks ds k=some d→∃v,valV (ks.zip vs) k=some v∧Rp K Hb d v)∧(dget ks ds k).isSome=(valV (ks.zip vs) k).isSome
 | [],ds,vs,_,_=>⟨fun d h=>by simp[dget] at h,rfl⟩
 | q::ks,[],vs,hl,r=>by rw[aj.oW r] at hl;simp at hl
 | q::ks,e::ds,vs,hl,r=>by
  obtain⟨v,t,rfl,rv,rt⟩:=aj.oO r
  have ih:=Nb (k:=k) (ks:=ks) (by simpa using hl) rt
  unfold dget valV at ih ⊢
  simp only[a0I,b0a]
  by_cases z:q=k
  ·simp only[z,decide_true,b0b,Option.isSome_some,and_true]
   intro d h
   cases h
   exact⟨v,rfl,rv⟩
  ·simp only[z,decide_false]
   exact ih
theorem V2 {k:Key} {v:V} {ks:List Key} {vs:List V} (hl:ks.length=vs.length):putK (ks.zip vs) k v=(nO ks k).zip (if k∈ks then List.zipWith (fun k' v'=>if k'=k then v else v') ks vs else vs++[v]):=by
 unfold putK nO
 have e:((ks.zip vs).any fun kv=>decide (kv.1=k))=decide (k∈ks):=by
  induction ks generalizing vs with
  | nil=>simp
  | cons q ks ih=>
   cases vs with
   | nil=>simp at hl
   | cons w vs=>
    have:=ih (vs:=vs) (by simpa using hl)
    simp only[a0I,b0l,this,a0c,Bool.decide_or]
    by_cases z:q=k
    ·simp[z]
    ·have z':¬k=q:=fun e=>z e.symm
     simp[z,z']
 rw[e]
 by_cases m:k∈ks
 ·simp only[m,decide_true,a0W]
  clear e m
  induction ks generalizing vs with
  | nil=>simp
  | cons q ks ih=>
   cases vs with
   | nil=>simp at hl
   | cons w vs=>
    simp only[a0I,a0F,b0e]
    rw[ih (by simpa using hl)]
    by_cases z:q=k<;>simp[z]
 ·simp only[m,decide_false,if_false,Bool.false_eq_true]
  rw[List.zip_append hl];rfl
end
section
variable {K:PySem.W.Frag} {d:D}
theorem LQ {Hb:Hp} {f:Str}:∀{fs:List Str} {ds:List D} {vs:List V},fs.length=vs.length→aj K Hb ds vs→(fs.zip ds).lookup f=some d→∃v,(fs.zip vs).lookup f=some v∧Rp K Hb d v
 | [],ds,vs,_,_,h=>by simp at h
 | q::fs,[],vs,hl,r,h=>by simp at h
 | q::fs,e::ds,vs,hl,r,h=>by
  obtain⟨w,t,rfl,rv,rt⟩:=aj.oO r
  simp only[a0I,List.lookup] at h ⊢
  cases z:(f == q) with
  | true=>rw[z] at h;cases h;exact⟨w,rfl,rv⟩
  | false=>rw[z] at h;exact LQ (by simpa using hl) rt h
structure aaE (P:Program) (w:World) (K:PySem.W.Frag) (mg:Str→Option Value) (base:Heap) (C:Addr) (m:Str) (ps:List Str) (k:Nat) (sp:Sp):Prop where
 ex:∃f fd,FnOk P w K mg base (L2.CX P w) k f fd ps sp∧Cls K C∧Meth K C m f∧Binds K fd ps []
end
section
variable {K:PySem.W.Frag} {d x y:D} {ds es:List D}
mutual
def toPy:D→PyData
 | .non=>.none|.bl b=>.bool b|.int i=>.int i|.str x=>.str x
 | .lst xs=>.list (dO xs)|.tup xs=>.tuple (dO xs)
 | .dB _=>.none|.ref _=>.none|.ty _=>.none|.bO _ _=>.none|.dct _ _=>.none|.lN _ _ _=>.none|.ins _ _ _=>.none|.exc _ _ _ _ _=>.none
def dO:List D→List PyData
 | []=>[]
 | d::ds=>toPy d::dO ds
end
mutual
def bf:D→Bool
 | .non=>true|.bl b=>true|.int i=>true|.str x=>PyData.strOk x
 | .lst xs=>fL xs|.tup xs=>fL xs
 | .dB _=>false|.ref _=>false|.ty _=>false|.bO _ _=>false|.dct _ _=>false|.lN _ _ _=>false|.ins _ _ _=>false|.exc _ _ _ _ _=>false
def fL:List D→Bool
 | []=>true
 | d::ds=>bf d&&fL ds
end
mutual
theorem pJ {H:Hp}:∀(d:D) (v:V),bf d=true→Rp K H d v→Dp K H v (toPy d)
 | .non,v,_,r=>by cases (show v=.non from r);unfold toPy;exact .non
 | .bl b,v,_,r=>by cases (Rp.mY r);unfold toPy;exact .bl b
 | .int b,v,_,r=>by cases (Rp.jC r);unfold toPy;exact .int b
 | .str b,v,_,r=>by cases (Rp.dU r);unfold toPy;exact .str b
 | .lst xs,v,h,r=>by
  unfold Rp at r;unfold toPy
  obtain⟨a,vs,rfl,s,q⟩:=r
  exact .lst (.inl s) (HY xs vs (by unfold bf at h;exact h) q)
 | .tup xs,v,h,r=>by
  unfold Rp at r;unfold toPy
  obtain⟨a,vs,rfl,s,q⟩:=r
  exact .tup s (HY xs vs (by unfold bf at h;exact h) q)
 | .ref _,v,h,r=>by simp[bf] at h
 | .dB _,v,h,r=>by simp[bf] at h
 | .ty _,v,h,r=>by simp[bf] at h
 | .bO _ _,v,h,r=>by simp[bf] at h
 | .dct _ _,v,h,r=>by simp[bf] at h
 | .lN _ _ _,v,h,r=>by simp[bf] at h
 | .ins _ _ _,v,h,r=>by simp[bf] at h
 | .exc _ _ _ _ _,v,h,r=>by simp[bf] at h
theorem HY {H:Hp}:∀(ds:List D) (vs:List V),fL ds=true→aj K H ds vs→DpAll K H vs (dO ds)
 | [],vs,_,r=>by rw[aj.oW r];unfold dO;exact .nil
 | d::ds,vs,h,r=>by
  obtain⟨v,t,rfl,rv,rt⟩:=aj.oO r
  unfold fL at h
  rw[a0r] at h
  unfold dO
  exact .cons (pJ d v h.1 rv) (HY ds t h.2 rt)
end
mutual
theorem lay_of:∀d:D,bf d=true→(toPy d).canLay0=true
 | .non,_=>by unfold toPy;rfl
 | .bl _,_=>by unfold toPy;rfl
 | .int _,_=>by unfold toPy;rfl
 | .str x,h=>by unfold bf at h;unfold toPy PyData.canLay0;exact h
 | .lst xs,h=>by unfold bf at h;unfold toPy PyData.canLay0;exact G9 xs h
 | .tup xs,h=>by unfold bf at h;unfold toPy PyData.canLay0;exact G9 xs h
 | .ref _,h=>by simp[bf] at h
 | .dB _,h=>by simp[bf] at h
 | .ty _,h=>by simp[bf] at h
 | .bO _ _,h=>by simp[bf] at h
 | .dct _ _,h=>by simp[bf] at h
 | .lN _ _ _,h=>by simp[bf] at h
 | .ins _ _ _,h=>by simp[bf] at h
 | .exc _ _ _ _ _,h=>by simp[bf] at h
theorem G9:∀ds:List D,fL ds=true→PyData.canLayAll0 (dO ds)=true
 | [],_=>by unfold dO;rfl
 | d::ds,h=>by
  unfold fL at h
  rw[a0r] at h
  unfold dO PyData.canLayAll0
  rw[lay_of d h.1,G9 ds h.2];rfl
end
mutual
def dep:D→Nat
 | .lst xs=>nU xs+1|.tup xs=>nU xs+1
 | .dB _=>0|.non=>0|.bl _=>0|.int _=>0|.str _=>0|.ref _=>0|.ty _=>0|.bO _ _=>0|.dct _ _=>0|.lN _ _ _=>0|.ins _ _ _=>0|.exc _ _ _ _ _=>0
def nU:List D→Nat
 | []=>0
 | d::ds=>max (dep d) (nU ds)
end
mutual
theorem Oh:∀d:D,(toPy d).depth=dep d
 | .non=>by unfold toPy dep;rfl
 | .bl _=>by unfold toPy dep;rfl
 | .int _=>by unfold toPy dep;rfl
 | .str x=>by unfold toPy dep;rfl
 | .lst xs=>by unfold toPy dep PyData.depth;rw[G_ xs]
 | .tup xs=>by unfold toPy dep PyData.depth;rw[G_ xs]
 | .ref _=>by unfold toPy dep;rfl
 | .dB _=>by unfold toPy dep;rfl
 | .ty _=>by unfold toPy dep;rfl
 | .bO _ _=>by unfold toPy dep;rfl
 | .dct _ _=>by unfold toPy dep;rfl
 | .lN _ _ _=>by unfold toPy dep;rfl
 | .ins _ _ _=>by unfold toPy dep;rfl
 | .exc _ _ _ _ _=>by unfold toPy dep;rfl
theorem G_:∀ds:List D,PyData.depthAll (dO ds)=nU ds
 | []=>by unfold dO nU;rfl
 | d::ds=>by unfold dO nU PyData.depthAll;rw[Oh d,G_ ds]
end
theorem pF (h:bf d=true) (hd:dep d≤64):SeqAt.shaped (toPy d)=true:=by
 unfold SeqAt.shaped
 rw[lay_of d h,Bool.true_and,Oh]
 exact a0R hd
theorem Mu {Hb:Hp}:∀{xs:List Str} {vs:List V},aj K Hb (xs.map D.str) vs→vs=xs.map V.str
 | [],vs,r=>aj.oW r
 | n::ns,vs,r=>by
  obtain⟨v,t,rfl,p,q⟩:=aj.oO (show aj K Hb (.str n::ns.map D.str) vs from r)
  rw[Mu q,Rp.dU p];rfl
end
section
variable {K:PySem.W.Frag} {z:D}
theorem ZG {x y:D} (hx:bf x=true) (hy:bf y=true) (dx:dep x≤64) (dy:dep y≤64):fD K (pA K) x y (.bl (PyData.eqv (toPy x) (toPy y))):=fD.inr fun Hb H v u Q e hv hu q=>
 ⟨toPy x,toPy y,pJ x v hx (Rp.mono e.rl _ _ hv),pJ y u hy (Rp.mono e.rl _ _ hu),pF hx dx,pF hy dy,q _ fun _=>by unfold Rp;rfl⟩
theorem ZJ {x y:D} (hx:bf x=true) (hy:bf y=true) (dx:dep x≤64) (dy:dep y≤64):fD K (qd K) x y (.bl (!PyData.eqv (toPy x) (toPy y))):=fD.inr fun Hb H v u Q e hv hu q=>
 ⟨toPy x,toPy y,pJ x v hx (Rp.mono e.rl _ _ hv),pJ y u hy (Rp.mono e.rl _ _ hu),pF hx dx,pF hy dy,q _ fun _=>by unfold Rp;rfl⟩
theorem Nf {Hb:Hp}:∀{ks:List Key} {vs:List V},ks.length=vs.length→aj K Hb (ks.map kD) ((ks.zip vs).map fun kv=>kV kv.1)
 | [],vs,_=>aj.nil
 | k::ks,[],h=>by simp at h
 | k::ks,v::vs,h=>aj.cons (ZF k) (Nf (by simpa using h))
structure eY (K:PySem.W.Frag) (D:Addr):Prop where
 hg:PySem.W.findIn K (.ref D) "__getattribute__"=some (some (.builtin "BaseException.__getattribute__"))
 hk:PySem.W.findIn K (.ref D) "__getattr__"=some none
 hs:PySem.W.subIn K (.ref D) (.type "BaseException")=some true
 hd:PySem.W.hasDictIn K D=true
 ha:PySem.W.findIn K (.ref D) "__class__"=some (some (.builtin "object.__class__"))
 hn:PySem.W.specialIn K (.builtin "object.__class__") "__get__"=some (some (.builtin "getset_descriptor.__get__"))
 ht:PySem.W.takesIn K (.builtin "object.__class__")=some true
 hm:PySem.W.mroIn K D (.type "object")=some true
def qW (K:PySem.W.Frag) (cls:Value) (d:Option Addr) (a:Addr):List V→Hp→VK→Prop:=fun xs H Q=>∃(c:V) (cv:Value) (D dd:Addr) (fs:List (Str×V)) (b:Bool),xs=[.ref a,c]∧eY K D∧cls=.ref D∧d=some dd∧H dd=some (.xd fs)∧(∀u,RelV c u→u=cv)∧PySem.W.kitOne K (.ref D) cv=some b∧Q (.bl b) H
theorem V3 {X:Cx} {a:Addr} {oe:Obj} {cls:Value} {d:Option Addr} {pn:List (Addr×Obj)} (hz:Zc cls d oe) (hf:∃vs,oe.data=.fields vs):CallR (X.suite a ((a,oe)::pn)) (.builtin "isinstance") (qW X.K cls d a):=by
 intro pins s σ H xs us Q I r h
 obtain⟨c,cv,D,dd,fs,b,rfl,C,rfl,rfl,hx,hcv,e,q⟩:=h
 cases r with
 | cons rx rr=>
  cases rr with
  | cons rt rr=>
   cases rr
   cases rx
   have ec:=hcv _ rt
   subst ec
   obtain⟨hget,_⟩:=I.pin (a,oe) (List.mem_append.mpr (.inl a0v))
   obtain⟨vs,hv⟩:=hf
   have hd:ObjOk X.prog X.w H s.heap dd (.xd fs):=I.hok dd _ hx
   obtain⟨mA,hns,hr⟩:=hd
   obtain⟨od,ho,hl⟩:=lookIn_ns hns
   have J:PySem.W.InstAt s.heap a oe D (some od):=⟨hget,hz.1,by unfold PySem.W.notCls;rw[hv]<;>rfl,by rw[hz.2];exact ho⟩
   have hc:(PySem.W.clsIn X.K D).isSome=true:=by
    have:=C.hd
    unfold PySem.W.hasDictIn at this
    cases z:PySem.W.clsIn X.K D with
    | none=>rw[z] at this;cases this
    | some _=>rfl
   exact PySem.W.kia_one (PySem.W.kitx_exc hc C.hg C.hk C.hs C.ha C.hn C.ht C.hm) I.kIn J e (fun z=>nomatch z) fun tk=>⟨.bl b,H,I.kept (t':=tk) fun _ _ z=>z,rfl,q⟩
theorem ZK {X:Cx} {a:Addr} {oe:Obj} {cls:Value} {d:Option Addr} {pn:List (Addr×Obj)} {e c:Expr} {te tc:TE} {p pos:Pos} (K:PySem.W.Frag) (hz:Zc cls d oe) (hf:∃vs,oe.data=.fields vs) (hB:fG X.mg) (h:PE (X.suite a ((a,oe)::pn)) e te) (h2:PE (X.suite a ((a,oe)::pn)) c tc)
  (hg:Gl (X.suite a ((a,oe)::pn)) "isinstance":=by rfl) (he:starEach [e,c] X.env=(false,eval e X.env)::starEach [c] X.env:=by rfl) (he2:starEach [c] X.env=(false,eval c X.env)::starEach [] X.env:=by rfl) (hpl:(backTo pos (starEach [c] X.env)).any (·.1)=false:=by rfl) (hK:X.K=K:=by rfl) :
  PE (X.suite a ((a,oe)::pn)) (.Call (.Name "isinstance" p) [e,c] [] pos) (tCB (qW K cls d a) (tCons te (tCons tc tNil))):=by
 subst hK
 exact pe_callB (V3 hz hf) hg (hB _ (by trivial)) (by trivial) (a0i h (a0i h2 a0x he2) he) (he:=he) (hpl:=hpl)
theorem jr {D C:Addr} {b:Bool} (hc:(PySem.W.clsIn K C).isSome=true) (ht:PySem.W.typeIn K (.ref C)=some (.type "type")) (hs:PySem.W.subIn K (.ref D) (.ref C)=some b) (hb:D=C→b=true):PySem.W.kitOne K (.ref D) (.ref C)=some b:=by
 unfold PySem.W.kitOne
 by_cases z:D=C
 ·subst z;rw[a0d (by simp),hb rfl]
 ·rw[a0j (by simp[z])]
  unfold PySem.W.kitCls
  simp only[hc,ht]
  first|exact hs|(simp;exact hs)
end
end DL
namespace DL
open PySem L2 TL
def letters:Str:="abcdefghijklmnopqrstuvwxyz"
def nY (i:Int):Nat:=97+(i%26).toNat
theorem vm:letters.cps.toList=(List.range 26).map (97 + ·):=by decide +kernel
theorem Tt {i:Int} (h0:0≤i) (h1:i<26):atI letters.cps.toList i=some (97+i.toNat):=by
 have q:=atI_nat (xs:=letters.cps.toList) (j:=i.toNat) (v:=97+i.toNat) (by
  rw[vm,a0y,a0h (by rw[List.length_range];omega),List.getElem_range];rfl)
 rwa [Int.toNat_of_nonneg h0] at q
theorem Nh (i:Int):nY i∈letters.cps.toList:=by
 rw[vm,a0N]
 exact⟨(i%26).toNat,List.mem_range.mpr (by omega),rfl⟩
def Oi (s:Str):Bool:=(decide (1≤(s.length:Int))&&decide ((s.length:Int)≤8))&&s.cps.toList.all fun c=>decide (c∈letters.cps.toList)
def nD (n:Int):Int:=1+n/2%8
def iW (n k:Int):Int:=if n%2=1 then 1+(nD n+k)%8 else nD n
def qK (n k:Int):List Nat:=(List.range (iW n k).toNat).map fun(a:Nat)=>nY (n/7+(a:Int))
def sY (n k:Int):Int:=n/16%nD n%iW n k
def j_ (n k:Int):List Nat:=(qK n k).set (sY n k).toNat (nY (n/128+k))
def nm (n k:Int):Str:=⟨(j_ n k).toArray⟩
def Oj (n:Int) (many:Nat):List Str:=(List.range many).map fun(k:Nat)=>nm n (k:Int)
theorem Lq (n:Int):1≤nD n∧nD n≤8:=by unfold nD;omega
theorem Ft (n k:Int):1≤iW n k∧iW n k≤8:=by
 have:=Lq n
 unfold iW
 split<;>omega
theorem Tv (n k:Int):0≤sY n k∧sY n k<iW n k:=by
 have h:=Ft n k
 exact⟨Int.emod_nonneg _ (by omega),Int.emod_lt_of_pos _ (by omega)⟩
theorem Tw (n k:Int):(qK n k).length=(iW n k).toNat:=by unfold qK;simp
theorem La (n k:Int):(j_ n k).length=(iW n k).toNat:=by unfold j_;rw[List.length_set,Tw]
theorem Yp (n k:Int):(nm n k).length=(iW n k).toNat:=by
 show (j_ n k).toArray.size=_
 rw[b0f,La]
theorem Ol (n k:Int):(nm n k).cps.toList=j_ n k:=rfl
theorem Ld {n k:Int} {c:Nat} (h:c∈j_ n k):c∈letters.cps.toList:=by
 unfold j_ at h
 rcases List.mem_or_eq_of_mem_set h with h|rfl
 ·unfold qK at h
  rw[a0N] at h
  obtain⟨a,_,rfl⟩:=h
  exact Nh _
 ·exact Nh _
theorem LR:∀cs:List Nat,joinL [] (cs.map fun c=>[c])=cs
 | []=>rfl
 | [c]=>rfl
 | c::d::r=>by
  show [c]++([]++joinL [] ((d::r).map fun c=>[c]))=_
  rw[LR (d::r)];rfl
theorem Tz (cs:List Nat):Txt.join (Str.ofString "") (cs.map fun c=>(⟨#[c]⟩:Str))=⟨cs.toArray⟩:=by
 have h:tl (Txt.join (Str.ofString "") (cs.map fun c=>(⟨#[c]⟩:Str)))=cs:=by
  rw[join_eq,tl_join,b0s]
  have e1:tl (Str.ofString "")=[]:=by decide +kernel
  rw[e1]
  exact LR cs
 generalize Txt.join (Str.ofString "") (cs.map fun c=>(⟨#[c]⟩:Str))=x at h
 obtain⟨a⟩:=x
 have:a.toList=cs:=h
 rw[← this]
end DL
namespace AL
open PySem L2 DL PyProof.Rows
structure XD where
 C:Addr
 fs:List Str
 ds:List D
inductive R where
 | d (x:D)|o (n:Nat)|w (i:Nat)
inductive Ob where
 | lst (ds:List D)|cR (xs:List R)
 | bO (ks:List Key) (ds:List D)|dX (ks:List Key) (xs:List R)
 | dct (ks:List (List Key)) (ds:List D)
 | dn (w:World) (ks:List NestedKey) (xs:List R)
 | ins (C:Addr) (fs:List Str) (xs:List R)
 | lO (ks:List Key) (ds:List D)|rK (ks:List (List Key)) (ds:List D)
 | rM (w:World) (ks:List NestedKey) (xs:List R)
 | qj (ks:List Key) (xs:List R)
inductive Sv where
 | no|v (r:R)|own (b:Ob)
structure ST where
 s:List Sv
 h:List Ob
abbrev bM (a b:List Addr):Prop:=∃t,b=a++t
theorem bM.refl (a:List Addr):bM a a:=⟨[],by simp⟩
theorem bM.trans {a b c:List Addr} (h:bM a b) (k:bM b c):bM a c:=by
 obtain⟨t,rfl⟩:=h;obtain⟨u,rfl⟩:=k;exact⟨t++u,by simp⟩
theorem bM.get {a b:List Addr} (h:bM a b) {n:Nat} {x:Addr} (e:a[n]?=some x):b[n]?=some x:=by
 obtain⟨t,rfl⟩:=h
 rw[a0s (a0f.mp e).1];exact e
theorem bM.mem {a b:List Addr} (h:bM a b) {x:Addr} (e:x∈a):x∈b:=by
 obtain⟨t,rfl⟩:=h;exact a0O _ e
theorem bM.push (a:List Addr) (p:Addr):bM a (a++[p]):=⟨[p],rfl⟩
section
variable (K:PySem.W.Frag)
def RV (ι:List Addr) (Hb:Hp):R→V→Prop
 | .d x,v=>Rp K Hb x v
 | .o n,v=>∃a,ι[n]?=some a∧v=.ref a
 | .w _,_=>False
abbrev bB (ι:List Addr) (Hb:Hp):List R→List V→Prop:=Paired (RV K ι Hb)
def dY (ι:List Addr) (Hb:Hp):Ob→HO→Prop
 | .lst ds,u=>∃vs,u=.lst vs∧aj K Hb ds vs
 | .cR xs,u=>∃vs,u=.lst vs∧bB K ι Hb xs vs
 | .bO ks ds,u=>∃vs,u=.dK (ks.zip vs)∧ks.length=vs.length∧aj K Hb ds vs
 | .dX ks xs,u=>∃vs,u=.dK (ks.zip vs)∧ks.length=vs.length∧bB K ι Hb xs vs
 | .dct ks ds,u=>∃vs,u=.dT (ks.zip vs)∧ks.length=vs.length∧aj K Hb ds vs
 | .dn w ks xs,u=>∃(b:Addr) (vs:List V) (dD:List Addr),u=JR w b (ks.zip (dD.zip vs))∧ks.length=dD.length∧gA K Hb ks (dD.map V.ref)∧ks.length=vs.length∧bB K ι Hb xs vs
 | .rM w ks xs,u=>∃(od:Obj) (b:Addr) (vs:List V) (dD:List Addr),u=.frz od (JR w b (ks.zip (dD.zip vs)))∧ks.length=dD.length∧gA K Hb ks (dD.map V.ref)∧ks.length=vs.length∧bB K ι Hb xs vs
 | .ins C fs xs,u=>∃dx vs,u=.ins C dx (fs.zip vs)∧fs.length=vs.length∧bB K ι Hb xs vs
 | .lO ks ds,u=>∃od vs,u=.frz od (.dK (ks.zip vs))∧ks.length=vs.length∧aj K Hb ds vs
 | .qj ks xs,u=>∃od vs,u=.frz od (.dK (ks.zip vs))∧ks.length=vs.length∧bB K ι Hb xs vs
 | .rK ks ds,u=>∃od vs,u=.frz od (.dT (ks.zip vs))∧ks.length=vs.length∧aj K Hb ds vs
variable {K}
theorem RV.mono {ι fH:List Addr} {Hb bF:Hp} (p:bM ι fH) (r:Rl Hb bF):∀{x:R} {v:V},RV K ι Hb x v→RV K fH bF x v
 | .d x,v,h=>Rp.mono r x v h
 | .o n,v,⟨a,e,q⟩=>⟨a,p.get e,q⟩
 | .w i,v,h=>h.elim
theorem bB.mono {ι fH:List Addr} {Hb bF:Hp} (p:bM ι fH) (r:Rl Hb bF) {xs:List R} {vs:List V} (h:bB K ι Hb xs vs):bB K fH bF xs vs:=L2.Paired.mapP h fun _ _ q=>q.mono p r
theorem dY.mono {ι fH:List Addr} {Hb bF:Hp} (p:bM ι fH) (r:Rl Hb bF):∀{b:Ob} {u:HO},dY K ι Hb b u→dY K fH bF b u
 | .lst ds,u,⟨vs,e,q⟩=>⟨vs,e,aj.mono r _ _ q⟩
 | .cR xs,u,⟨vs,e,q⟩=>⟨vs,e,bB.mono p r q⟩
 | .bO ks ds,u,⟨vs,e,z,q⟩=>⟨vs,e,z,aj.mono r _ _ q⟩
 | .dX ks xs,u,⟨vs,e,z,q⟩=>⟨vs,e,z,bB.mono p r q⟩
 | .dct ks ds,u,⟨vs,e,z,q⟩=>⟨vs,e,z,aj.mono r _ _ q⟩
 | .dn w ks xs,u,⟨b,vs,dD,e,l,n,z,q⟩=>⟨b,vs,dD,e,l,gA.mono r _ _ n,z,bB.mono p r q⟩
 | .rM w ks xs,u,⟨od,b,vs,dD,e,l,n,z,q⟩=>⟨od,b,vs,dD,e,l,gA.mono r _ _ n,z,bB.mono p r q⟩
 | .ins C fs xs,u,⟨dx,vs,e,z,q⟩=>⟨dx,vs,e,z,bB.mono p r q⟩
 | .lO ks ds,u,⟨od,vs,e,z,q⟩=>⟨od,vs,e,z,aj.mono r _ _ q⟩
 | .qj ks xs,u,⟨od,vs,e,z,q⟩=>⟨od,vs,e,z,bB.mono p r q⟩
 | .rK ks ds,u,⟨od,vs,e,z,q⟩=>⟨od,vs,e,z,aj.mono r _ _ q⟩
theorem dY.rN {ι:List Addr} {Hb:Hp}:∀{b:Ob} {fs:List (Str×V)},¬dY K ι Hb b (.xd fs)
 | .lst ds,fs,⟨vs,e,_⟩=>nomatch e
 | .cR xs,fs,⟨vs,e,q⟩=>nomatch e
 | .bO ks ds,fs,⟨vs,e,_⟩=>nomatch e
 | .dX ks xs,fs,⟨vs,e,_⟩=>nomatch e
 | .dct ks ds,fs,⟨vs,e,_⟩=>nomatch e
 | .dn w ks xs,fs,⟨b,vs,dD,e,_⟩=>nomatch e
 | .rM w ks xs,fs,⟨od,b,vs,dD,e,_⟩=>nomatch e
 | .ins C fs' xs,fs,⟨dx,vs,e,_⟩=>nomatch e
 | .lO ks ds,fs,⟨od,vs,e,_⟩=>nomatch e
 | .qj ks xs,fs,⟨od,vs,e,_⟩=>nomatch e
 | .rK ks ds,fs,⟨od,vs,e,_⟩=>nomatch e
end
def lB:HO→Bool
 | .frz _ _=>true
 | _=>false
structure Tp where
 p:List Addr→Hp→Prop
 m:∀ι fH Hb bF,bM ι fH→Rl Hb bF→p ι Hb→p fH bF
 l:∀ι fH Hb bF,bM ι fH→p ι Hb→p fH bF→p ι bF
structure Ac where
 H:Hp
 B:Hp
 ι:List Addr
section
variable (K:PySem.W.Frag)
def Rt (σ:L2.St) (ι:List Addr) (Hb:Hp):R→V→Prop
 | .d x,v=>Rp K Hb x v
 | .o n,v=>∃a,ι[n]?=some a∧v=.ref a
 | .w i,v=>σ[i]?=some (some v)
def rt (σ:L2.St) (r:R) (v:V):Tp:=⟨fun ι Hb=>Rt K σ ι Hb r v,fun ι fH Hb bF p rl h=>by
 cases r with
 | d x=>exact Rp.mono rl x v h
 | o n=>obtain⟨a,e,q⟩:=h;exact⟨a,p.get e,q⟩
 | w i=>exact h,fun ι fH Hb bF p h h'=>by
 cases r with
 | d x=>exact h'
 | o n=>obtain⟨a,e,q⟩:=h;exact⟨a,e,q⟩
 | w i=>exact h⟩
structure ao (A:Ac) (st:ST) (σ:L2.St) (H:Hp) (ts:List Tp) (Hb:Hp) (ι:List Addr):Prop where
 keep:∀a o,A.H a=some o→(a∉A.ι∨lB o=true)→H a=some o
 eB:Ex A.B Hb
 bH:Ex Hb H
 ap:∀a,A.B a=none→A.H a≠none→Hb a=none
 pre:bM A.ι ι
 hl:ι.length=st.h.length
 len:σ.length=st.s.length
 val:∀(i:Nat) r,st.s[i]?=some (.v r)→∃v,σ[i]?=some (some v)∧RV K ι Hb r v
 obj:∀(n:Nat) b,st.h[n]?=some b→∃a u,ι[n]?=some a∧H a=some u∧dY K ι Hb b u∧Hb a=none
 own:∀(i:Nat) b,st.s[i]?=some (.own b)→∃a u,σ[i]?=some (some (.ref a))∧H a=some u∧dY K ι Hb b u∧Hb a=none∧a∉ι∧A.H a=none∧lB u=false
 inj:ι.Nodup
 new:∀a∈ι,a∈A.ι∨∀o,A.H a=some o→lB o=true
 dsl:∀(i j:Nat) b c a,st.s[i]?=some (.own b)→st.s[j]?=some (.own c)→σ[i]?=some (some (.ref a))→σ[j]?=some (some (.ref a))→i=j
 tmp:∀p∈ts,p.p ι Hb
def Cf (A:Ac) (st:ST) (σ:L2.St) (H:Hp) (ts:List Tp):Prop:=∃Hb ι,ao K A st σ H ts Hb ι
def g8 (A:Ac) (st:ST) (σ:L2.St) (H:Hp) (ts:List Tp) (b:Ob) (v:V):Prop:=
 ∃Hb ι a u,ao K A st σ H ts Hb ι∧v=.ref a∧H a=some u∧dY K ι Hb b u∧Hb a=none∧a∉ι∧A.H a=none∧lB u=false∧∀(i:Nat) c,st.s[i]?=some (.own c)→σ[i]?≠some (some (.ref a))
def XO (A:Ac) (ts:List Tp) (x:XD) (st:ST) (cls:Value) (d:Option Addr) (σ:L2.St) (H:Hp):Prop:=
 ∃Hb ι dd vs,ao K A st σ H ts Hb ι∧cls=.ref x.C∧d=some dd∧H dd=some (.xd (x.fs.zip vs))∧x.fs.length=vs.length∧aj K Hb x.ds vs∧A.H dd=none∧Hb dd=none
end
section
variable {K:PySem.W.Frag} {A:Ac} {st st':ST} {σ:L2.St} {H H' Hb bF:Hp} {ts ts':List Tp} {ι fH:List Addr}
theorem ao.temps (C:ao K A st σ H ts Hb ι) (ht:∀p∈ts',p.p ι Hb):ao K A st σ H ts' Hb ι:={C with tmp:=ht}
theorem Cf.temps (C:Cf K A st σ H ts) (h:∀p∈ts',p∈ts∨∀ι Hb,p.p ι Hb):Cf K A st σ H ts':=by
 obtain⟨Hb,ι,C⟩:=C
 exact⟨Hb,ι,C.temps fun p hp=>(h p hp).elim (C.tmp p) fun q=>q ι Hb⟩
theorem Cf.drop {p:Tp} (C:Cf K A st σ H (p::ts)):Cf K A st σ H ts:=C.temps fun q hq=>.inl (by simp[hq])
theorem ao.nX (C:ao K A st σ H ts Hb ι) {dd:Addr} {fs:List (Str×V)} (h:H dd=some (.xd fs)):dd∉ι∧∀(i:Nat) c,st.s[i]?=some (.own c)→σ[i]?≠some (some (.ref dd)):=by
 refine⟨fun hm=>?_,fun i c hc e=>?_⟩
 ·obtain⟨n,hn⟩:=a0J hm
  have hlt:n<st.h.length:=by rw[← C.hl];exact(a0f.mp hn).1
  obtain⟨a,u,h1,h2,h3,_⟩:=C.obj n _ (a0h hlt)
  rw[hn] at h1;cases h1
  rw[h] at h2;cases h2
  exact dY.rN h3
 ·obtain⟨a,u,h1,h2,h3,_⟩:=C.own i c hc
  rw[e] at h1;cases h1
  rw[h] at h2;cases h2
  exact dY.rN h3
theorem ao.grow (C:ao K A st σ H ts Hb ι) (e:Ex H H') (eb:Ex Hb bF) (bh:Ex bF H') (fr:∀a,Hb a=none→bF a≠none→H a=none) (ht:∀p∈ts',p.p ι bF):ao K A st σ H' ts' bF ι where
 keep:=fun a o h n=>e a o (C.keep a o h n)
 eB:=C.eB.trans eb
 bH:=bh
 ap:=fun a h1 h2=>a0G fun q=>by
  have h3:=fr a (C.ap a h1 h2) q
  by_cases hm:a∈A.ι
  ·obtain⟨n,hn⟩:=a0J hm
   have hn':=C.pre.get hn
   have hlt:n<st.h.length:=by rw[← C.hl];exact(a0f.mp hn').1
   obtain⟨b,u,g1,g2,_⟩:=C.obj n _ (a0h hlt)
   rw[hn'] at g1;cases g1
   rw[h3] at g2;cases g2
  ·cases hA:A.H a with
   | none=>exact h2 hA
   | some o=>have:=C.keep a o hA (.inl hm);rw[h3] at this;cases this
 pre:=C.pre
 hl:=C.hl
 len:=C.len
 val:=fun i r h=>let ⟨v,a,b⟩:=C.val i r h;⟨v,a,b.mono (bM.refl _) eb.rl⟩
 obj:=fun n b h=>by
  obtain⟨a,u,h1,h2,h3,h4⟩:=C.obj n b h
  exact⟨a,u,h1,e _ _ h2,h3.mono (bM.refl _) eb.rl,(by refine a0G fun q=>?_;rw[fr a h4 q] at h2;cases h2)⟩
 own:=fun i b h=>by
  obtain⟨a,u,h1,h2,h3,h4,h5⟩:=C.own i b h
  exact⟨a,u,h1,e _ _ h2,h3.mono (bM.refl _) eb.rl,(by refine a0G fun q=>?_;rw[fr a h4 q] at h2;cases h2),h5⟩
 inj:=C.inj
 new:=C.new
 dsl:=C.dsl
 tmp:=ht
theorem ao.vY (C:ao K A st σ H ts Hb ι) (e:Ex H H') (eb:Ex Hb bF) (bh:Ex bF H') (fr:∀a,Hb a=none→bF a≠none→H a=none):ao K A st σ H' ts bF ι:=
 C.grow e eb bh fr fun p hp=>p.m _ _ _ _ (bM.refl _) eb.rl (C.tmp p hp)
theorem ao.fresh (C:ao K A st σ H ts Hb ι) {p:Addr} (hp:H p=none):Hb p=none∧p∉ι∧A.H p=none∧∀(i:Nat) c,st.s[i]?=some (.own c)→σ[i]?≠some (some (.ref p)):=by
 have n1:p∉ι:=fun hm=>by
  obtain⟨n,hn⟩:=a0J hm
  have hlt:n<st.h.length:=by rw[← C.hl];exact(a0f.mp hn).1
  obtain⟨a,u,h1,h2,_⟩:=C.obj n _ (a0h hlt)
  rw[hn] at h1;cases h1
  rw[hp] at h2;cases h2
 refine⟨C.bH.none hp,n1,?_,fun i c hc e=>?_⟩
 ·cases hA:A.H p with
  | none=>rfl
  | some o=>have:=C.keep p o hA (.inl fun z=>n1 (C.pre.mem z));rw[hp] at this;cases this
 ·obtain⟨a,u,h1,h2,_⟩:=C.own i c hc
  rw[e] at h1;cases h1
  rw[hp] at h2;cases h2
theorem ao.laid (C:ao K A st σ H ts Hb ι) {p:Addr} {o:HO} (hp:H p=none) (ht:∀q∈ts',q.p ι (upd Hb p o)):ao K A st σ (upd H p o) ts' (upd Hb p o) ι:=by
 have hb:Hb p=none:=C.bH.none hp
 refine C.grow (Ex.new hp) (Ex.new hb) (fun a u e=>?_) (fun a h1 h2=>?_) ht
 ·by_cases q:a=p
  ·subst q;rw[a0w] at e ⊢;exact e
  ·rw[a0t q] at e ⊢;exact C.bH a u e
 ·by_cases q:a=p
  ·subst q;exact hp
  ·rw[a0t q] at h2;exact absurd h1 h2
theorem ao.made (C:ao K A st σ H ts Hb ι) {p:Addr} {o:HO} {b:Ob} (hp:H p=none) (hb:dY K ι Hb b o) (hz:lB o=false:=by rfl):g8 K A st σ (upd H p o) ts b (.ref p):=by
 obtain⟨f1,f2,f3,f4⟩:=C.fresh hp
 exact⟨Hb,ι,p,o,C.vY (Ex.new hp) (Ex.refl _) (C.bH.trans (Ex.new hp)) (fun a h1 h2=>absurd h1 h2),rfl,a0w,hb,f1,f2,f3,hz,f4⟩
theorem U3:∀{l:List Addr} (hN:l.Nodup) {i j:Nat} {x:Addr} (a:l[i]?=some x) (b:l[j]?=some x),i=j:=fun {l} hN {i j x} a b=>by
 obtain⟨h1,e1⟩:=a0f.mp a
 obtain⟨h2,e2⟩:=a0f.mp b
 exact(List.getElem_inj hN).mp (e1.trans e2.symm)
theorem get_set {α:Type} {l:List α} {i j:Nat} {x y:α} (h:(l.set i x)[j]?=some y):(j=i∧y=x∧i<l.length)∨(j≠i∧l[j]?=some y):=by
 rw[a0g] at h
 by_cases q:i=j
 ·subst q
  rw[a0d rfl] at h
  by_cases z:i<l.length
  ·rw[a0d z] at h;cases h;exact .inl ⟨rfl,rfl,z⟩
  ·rw[a0j z] at h;cases h
 ·rw[a0j q] at h;exact .inr ⟨fun z=>q z.symm,h⟩
theorem ao.qX (C:ao K A st σ H ts Hb ι) {v:V} {r:R} (hr:RV K ι Hb r v) (i:Nat):ao K A ⟨st.s.set i (.v r),st.h⟩ (σ.set i (some v)) H ts Hb ι:=
 {C with
  len:=by simp[C.len]
  val:=fun j r' h=>by
   rcases get_set h with ⟨rfl,e,z⟩|⟨n,h⟩
   ·cases e
    exact⟨v,by rw[a0g,a0d rfl,a0d (by rw[C.len];exact z)],hr⟩
   ·obtain⟨u,a,b⟩:=C.val j r' h
    exact⟨u,by rw[a0g,a0j (fun z=>n z.symm)];exact a,b⟩
  own:=fun j b h=>by
   rcases get_set h with ⟨rfl,e,z⟩|⟨n,h⟩
   ·cases e
   ·obtain⟨a,u,h1,h2⟩:=C.own j b h
    exact⟨a,u,by rw[a0g,a0j (fun z=>n z.symm)];exact h1,h2⟩
  dsl:=fun j k b c a h1 h2 e1 e2=>by
   rcases get_set h1 with ⟨rfl,e,z⟩|⟨n1,h1⟩
   ·cases e
   ·rcases get_set h2 with ⟨rfl,e,z⟩|⟨n2,h2⟩
    ·cases e
    ·rw[a0g,a0j (fun z=>n1 z.symm)] at e1
     rw[a0g,a0j (fun z=>n2 z.symm)] at e2
     exact C.dsl j k b c a h1 h2 e1 e2}
theorem ao.wQ (C:ao K A st σ H ts Hb ι) (i:Nat) (o:Option V):ao K A ⟨st.s.set i .no,st.h⟩ (σ.set i o) H ts Hb ι:=
 {C with
  len:=by simp[C.len]
  val:=fun j r' h=>by
   rcases get_set h with ⟨rfl,e,z⟩|⟨n,h⟩
   ·cases e
   ·obtain⟨u,a,b⟩:=C.val j r' h
    exact⟨u,by rw[a0g,a0j (fun z=>n z.symm)];exact a,b⟩
  own:=fun j b h=>by
   rcases get_set h with ⟨rfl,e,z⟩|⟨n,h⟩
   ·cases e
   ·obtain⟨a,u,h1,h2⟩:=C.own j b h
    exact⟨a,u,by rw[a0g,a0j (fun z=>n z.symm)];exact h1,h2⟩
  dsl:=fun j k b c a h1 h2 e1 e2=>by
   rcases get_set h1 with ⟨rfl,e,z⟩|⟨n1,h1⟩
   ·cases e
   ·rcases get_set h2 with ⟨rfl,e,z⟩|⟨n2,h2⟩
    ·cases e
    ·rw[a0g,a0j (fun z=>n1 z.symm)] at e1
     rw[a0g,a0j (fun z=>n2 z.symm)] at e2
     exact C.dsl j k b c a h1 h2 e1 e2}
theorem g8.qY {b:Ob} {v:V} (C:g8 K A st σ H ts b v) (i:Nat):Cf K A ⟨st.s.set i (.own b),st.h⟩ (σ.set i (some v)) H ts:=by
 obtain⟨Hb,ι,a,u,C,rfl,hu,hb,h1,h2,h3,hz,h4⟩:=C
 refine⟨Hb,ι,{C with len:=by simp[C.len],val:=fun j r' h=>?_,own:=fun j b' h=>?_,dsl:=fun j k b c x g1 g2 e1 e2=>?_}⟩
 ·rcases get_set h with ⟨rfl,e,z⟩|⟨n,h⟩
  ·cases e
  ·obtain⟨u,a,b⟩:=C.val j r' h
   exact⟨u,by rw[a0g,a0j (fun z=>n z.symm)];exact a,b⟩
 ·rcases get_set h with ⟨rfl,e,z⟩|⟨n,h⟩
  ·cases e
   exact⟨a,u,by rw[a0g,a0d rfl,a0d (by rw[C.len];exact z)],hu,hb,h1,h2,h3,hz⟩
  ·obtain⟨a,u,h1,h2⟩:=C.own j b' h
   exact⟨a,u,by rw[a0g,a0j (fun z=>n z.symm)];exact h1,h2⟩
 ·rcases get_set g1 with ⟨rfl,e,z⟩|⟨n1,g1⟩
  ·rcases get_set g2 with ⟨rfl,e',z'⟩|⟨n2,g2⟩
   ·rfl
   ·rw[a0g,a0d rfl,a0d (by rw[C.len];exact z)] at e1
    rw[a0g,a0j (fun z=>n2 z.symm)] at e2
    cases e1
    exact absurd e2 (h4 k c g2)
  ·rcases get_set g2 with ⟨rfl,e',z'⟩|⟨n2,g2⟩
   ·rw[a0g,a0d rfl,a0d (by rw[C.len];exact z')] at e2
    rw[a0g,a0j (fun z=>n1 z.symm)] at e1
    cases e2
    exact absurd e1 (h4 j b (by assumption))
   ·rw[a0g,a0j (fun z=>n1 z.symm)] at e1
    rw[a0g,a0j (fun z=>n2 z.symm)] at e2
    exact C.dsl j k b c x g1 g2 e1 e2
theorem g8.frz {b:Ob} {v:V} {d:D} (C:g8 K A st σ H ts b v) (hf:∀ι Hb a u,dY K ι Hb b u→Hb a=none→Rp K (upd Hb a u) d (.ref a)):Cf K A st σ H (rt K σ (.d d) v::ts):=by
 obtain⟨Hb,ι,a,u,C,rfl,hu,hb,h1,h2,h3,hz,h4⟩:=C
 have eb:Ex Hb (upd Hb a u):=Ex.new h1
 refine⟨upd Hb a u,ι,{C with eB:=C.eB.trans eb,bH:=fun x o e=>?_,ap:=fun x e1 e2=>?_,val:=fun i r h=>?_,obj:=fun n c h=>?_,own:=fun i c h=>?_,tmp:=fun p hp=>?_}⟩
 ·by_cases z:x=a
  ·subst z;rw[a0w] at e;cases e;exact hu
  ·rw[a0t z] at e;exact C.bH x o e
 ·have z:x≠a:=fun z=>e2 (by rw[z];exact h3)
  rw[a0t z];exact C.ap x e1 e2
 ·obtain⟨v,e,q⟩:=C.val i r h
  exact⟨v,e,q.mono (bM.refl _) eb.rl⟩
 ·obtain⟨x,w,e1,e2,e3,e4⟩:=C.obj n c h
  have z:x≠a:=fun z=>h2 (by rw[← z];exact a0u e1)
  exact⟨x,w,e1,e2,e3.mono (bM.refl _) eb.rl,by rw[a0t z];exact e4⟩
 ·obtain⟨x,w,e1,e2,e3,e4,e5⟩:=C.own i c h
  have z:x≠a:=fun z=>h4 i c h (by rw[e1,z])
  exact⟨x,w,e1,e2,e3.mono (bM.refl _) eb.rl,by rw[a0t z];exact e4,e5⟩
 ·rcases a0c.mp hp with rfl|hp
  ·exact hf ι Hb a u hb h1
  ·exact p.m _ _ _ _ (bM.refl _) eb.rl (C.tmp p hp)
theorem ao.take (C:ao K A st σ H ts Hb ι) {i:Nat} {b:Ob} (h:st.s[i]?=some (.own b)):∃v,σ[i]?=some (some v)∧g8 K A ⟨st.s.set i .no,st.h⟩ σ H ts b v:=by
 obtain⟨a,u,e1,e2,e3,e4,e5,e6,e7⟩:=C.own i b h
 refine⟨.ref a,e1,Hb,ι,a,u,{C with len:=by simp[C.len],val:=fun j r h'=>?_,own:=fun j c h'=>?_,dsl:=fun j k c1 c2 x h1 h2=>?_},rfl,e2,e3,e4,e5,e6,e7,fun j c h'=>?_⟩
 ·rcases get_set h' with ⟨rfl,e,z⟩|⟨n,h'⟩
  ·cases e
  ·exact C.val j r h'
 ·rcases get_set h' with ⟨rfl,e,z⟩|⟨n,h'⟩
  ·cases e
  ·exact C.own j c h'
 ·rcases get_set h1 with ⟨rfl,e,z⟩|⟨n1,h1⟩
  ·cases e
  ·rcases get_set h2 with ⟨rfl,e,z⟩|⟨n2,h2⟩
   ·cases e
   ·exact C.dsl j k c1 c2 x h1 h2
 ·rcases get_set h' with ⟨rfl,e,z⟩|⟨n,h'⟩
  ·cases e
  ·exact fun z=>n (C.dsl j i c b a h' h z e1)
theorem ao.aaF (C:ao K A st σ H ts Hb ι) {i:Nat} {b b':Ob} {a:Addr} {u':HO} (h:st.s[i]?=some (.own b)) (ea:σ[i]?=some (some (.ref a))) (hb:dY K ι Hb b' u') (hz:lB u'=false):ao K A ⟨st.s.set i (.own b'),st.h⟩ σ (upd H a u') ts Hb ι:=by
 obtain⟨a',u,e1,e2,e3,e4,e5,e6,e7⟩:=C.own i b h
 rw[ea] at e1;cases e1
 have ne:∀{x:Addr},A.H x≠none→x≠a:=fun n z=>n (by rw[z];exact e6)
 refine {C with keep:=fun x o e n=>?_,bH:=fun x o e=>?_,len:=by simp[C.len],val:=fun j r h'=>?_,obj:=fun n c h'=>?_,own:=fun j c h'=>?_,dsl:=fun j k c1 c2 x h1 h2=>?_}
 ·rw[a0t (ne (by rw[e];exact fun z=>nomatch z))];exact C.keep x o e n
 ·have z:x≠a:=fun z=>by rw[z,e4] at e;cases e
  rw[a0t z];exact C.bH x o e
 ·rcases get_set h' with ⟨rfl,e,z⟩|⟨n,h'⟩
  ·cases e
  ·exact C.val j r h'
 ·obtain⟨x,w,g1,g2,g3,g4⟩:=C.obj n c h'
  have z:x≠a:=fun z=>e5 (by rw[← z];exact a0u g1)
  exact⟨x,w,g1,by rw[a0t z];exact g2,g3,g4⟩
 ·rcases get_set h' with ⟨rfl,e,z⟩|⟨n,h'⟩
  ·cases e
   exact⟨a,u',ea,a0w,hb,e4,e5,e6,hz⟩
  ·obtain⟨x,w,g1,g2,g3⟩:=C.own j c h'
   have z:x≠a:=fun z=>n (C.dsl j i c b a h' h (by rw[g1,z]) ea)
   exact⟨x,w,g1,by rw[a0t z];exact g2,g3⟩
 ·rcases get_set h1 with ⟨rfl,e,z⟩|⟨n1,h1⟩
  ·rcases get_set h2 with ⟨rfl,e',z'⟩|⟨n2,h2⟩
   ·exact fun _ _=>rfl
   ·exact fun q1 q2=>C.dsl _ k b c2 x h h2 q1 q2
  ·rcases get_set h2 with ⟨rfl,e',z'⟩|⟨n2,h2⟩
   ·exact fun q1 q2=>C.dsl j _ c1 b x (by assumption) h q1 q2
   ·exact C.dsl j k c1 c2 x h1 h2
theorem ao.aaG (C:ao K A st σ H ts Hb ι) {n:Nat} {b b':Ob} {a:Addr} {u':HO} (h:st.h[n]?=some b) (ea:ι[n]?=some a) (hb:dY K ι Hb b' u') (hz:∀u,H a=some u→lB u=false):ao K A ⟨st.s,st.h.set n b'⟩ σ (upd H a u') ts Hb ι:=by
 obtain⟨a',u,e1,e2,e3,e4⟩:=C.obj n b h
 rw[ea] at e1;cases e1
 have hm:a∈ι:=a0u ea
 refine {C with keep:=fun x o e nx=>?_,bH:=fun x o e=>?_,hl:=by simp[C.hl],obj:=fun m c h'=>?_,own:=fun j c h'=>?_}
 ·have z:x≠a:=fun z=>by
   subst z
   have q:lB o=true:=nx.elim (fun nx=>(C.new x hm).elim (fun y=>absurd y nx) fun y=>y o e) id
   rw[hz o (C.keep x o e (.inr q))] at q;cases q
  rw[a0t z];exact C.keep x o e nx
 ·have z:x≠a:=fun z=>by rw[z,e4] at e;cases e
  rw[a0t z];exact C.bH x o e
 ·rcases get_set h' with ⟨rfl,e,z⟩|⟨nm,h'⟩
  ·cases e
   exact⟨a,u',ea,a0w,hb,e4⟩
  ·obtain⟨x,w,g1,g2,g3,g4⟩:=C.obj m c h'
   have z:x≠a:=fun z=>nm (U3 C.inj g1 (by rw[z];exact ea))
   exact⟨x,w,g1,by rw[a0t z];exact g2,g3,g4⟩
 ·obtain⟨x,w,g1,g2,g3,g4,g5,g6⟩:=C.own j c h'
  have z:x≠a:=fun z=>g5 (by rw[z];exact hm)
  exact⟨x,w,g1,by rw[a0t z];exact g2,g3,g4,g5,g6⟩
end
inductive Rx (α:Type) where
 | ok (a:α) (st:ST)|ex (x:XD) (st:ST)
abbrev M (α:Type):=ST→Option (Rx α)
def M.bind {α β:Type} (f:M α) (g:α→M β):M β:=fun st=>match f st with
 | some (.ok a st')=>g a st'
 | some (.ex x st')=>some (.ex x st')
 | none=>none
def M.ret {α:Type} (a:α):M α:=fun st=>some (.ok a st)
def M.of {α β:Type} (f:M α) (g:ST→α→Option β):M β:=fun st=>match f st with
 | some (.ok a st')=>(g st' a).map fun b=>.ok b st'
 | some (.ex x st')=>some (.ex x st')
 | none=>none
section
variable {α β:Type} {f:M α} {g:α→M β} {k:ST→α→Option β} {st st':ST} {a:α} {x:XD}
theorem iw (h:f st=some (.ok a st')):M.bind f g st=g a st':=by unfold M.bind;rw[h]
theorem iQ {y:Rx β} (h:M.bind f g st=some y):(∃a st',f st=some (.ok a st')∧g a st'=some y)∨∃x st',f st=some (.ex x st')∧y=.ex x st':=by
 unfold M.bind at h
 cases q:f st with
 | none=>rw[q] at h;cases h
 | some z=>
  rw[q] at h
  cases z with
  | ok a s=>exact .inl ⟨a,s,rfl,h⟩
  | ex x s=>cases h;exact .inr ⟨x,s,rfl,rfl⟩
theorem k_ {y:Rx β} (h:M.of f k st=some y):(∃a st' b,f st=some (.ok a st')∧k st' a=some b∧y=.ok b st')∨∃x st',f st=some (.ex x st')∧y=.ex x st':=by
 unfold M.of at h
 cases q:f st with
 | none=>rw[q] at h;cases h
 | some z=>
  rw[q] at h
  cases z with
  | ok a s=>
   cases e:k s a with
   | none=>simp only[e] at h;cases h
   | some b=>simp only[e] at h;cases h;exact .inl ⟨a,s,b,rfl,e,rfl⟩
  | ex x s=>cases h;exact .inr ⟨x,s,rfl,rfl⟩
end
theorem Pa {α β:Type} {F G Z:α→β→Prop} (k:∀a b,F a b→G a b→Z a b):∀{l:List α} {m:List β},Paired F l m→Paired G l m→Paired Z l m
 | [],_,.nil,_=>.nil
 | _::_,_,.cons a b,.cons a' b'=>.cons (k _ _ a a') (Pa k b b')
section
variable (K:PySem.W.Frag) (W:WX)
def QZ (A:Ac) (σ:L2.St) (ts:List Tp) (Q:VK):Rx R→Prop
 | .ok r st=>∀v H2,Cf K A st σ H2 (rt K σ r v::ts)→Q v H2
 | .ex x st=>∀cls d H2,XO K A ts x st cls d σ H2→W cls d σ H2
def Q5 (A:Ac) (σ:L2.St) (ts:List Tp) (Q:VK):Rx Ob→Prop
 | .ok b st=>∀v H2,g8 K A st σ H2 ts b v→Q v H2
 | .ex x st=>∀cls d H2,XO K A ts x st cls d σ H2→W cls d σ H2
def PoT (A:Ac) (σ:L2.St) (ts:List Tp) (Q:Bool→Hp→Prop):Rx Bool→Prop
 | .ok b st=>∀H2,Cf K A st σ H2 ts→Q b H2
 | .ex x st=>∀cls d H2,XO K A ts x st cls d σ H2→W cls d σ H2
def iH (σ:L2.St) (rs:List R) (vs:List V):Tp:=⟨fun ι Hb=>Paired (fun r v=>Rt K σ ι Hb r v) rs vs,fun ι fH Hb bF p rl h=>L2.Paired.mapP h fun r v q=>(rt K σ r v).m _ _ _ _ p rl q,fun ι fH Hb bF p h h'=>Pa (fun r v q q'=>(rt K σ r v).l _ _ _ _ p q q') h h'⟩
def PoA (A:Ac) (σ:L2.St) (ts:List Tp) (Q:List V→Hp→Prop):Rx (List R)→Prop
 | .ok rs st=>∀vs H2,Cf K A st σ H2 (iH K σ rs vs::ts)→Q vs H2
 | .ex x st=>∀cls d H2,XO K A ts x st cls d σ H2→W cls d σ H2
def XE (te:TE) (f:M R):Prop:=∀A st σ H ts,Cf K A st σ H ts→∀Q y,f st=some y→QZ K W A σ ts Q y→te σ H Q
def XN (te:TE) (f:M Ob):Prop:=∀A st σ H ts,Cf K A st σ H ts→∀Q y,f st=some y→Q5 K W A σ ts Q y→te σ H Q
def XT (tt:TT) (f:M Bool):Prop:=∀A st σ H ts,Cf K A st σ H ts→∀Q y,f st=some y→PoT K W A σ ts Q y→tt σ H Q
def XA (ta:TA) (f:M (List R)):Prop:=∀A st σ H ts,Cf K A st σ H ts→∀Q y,f st=some y→PoA K W A σ ts Q y→ta σ H Q
end
section
variable {K:PySem.W.Frag} {W:WX} {A:Ac} {st st':ST} {σ:L2.St} {H H' Hb:Hp} {ts ts':List Tp} {ι:List Addr} {x:XD} {cls:Value} {d:Option Addr}
theorem XO.temps (X:XO K A ts x st cls d σ H) (h:∀p∈ts',p∈ts):XO K A ts' x st cls d σ H:=by
 obtain⟨Hb,ι,dd,vs,C,r⟩:=X
 exact⟨Hb,ι,dd,vs,C.temps fun p hp=>C.tmp p (h p hp),r⟩
theorem XO.drop {p:Tp} (X:XO K A (p::ts) x st cls d σ H):XO K A ts x st cls d σ H:=X.temps fun q hq=>by simp[hq]
def d7:List R→Option (List D)
 | []=>some []
 | .d x::rs=>(d7 rs).map (x::·)
 | _::_=>none
def iI:Ob→Option D
 | .lst ds=>some (.lst ds)
 | .cR xs=>(d7 xs).map .lst
 | .bO ks ds=>some (.bO ks ds)
 | .dX ks xs=>(d7 xs).map (.bO ks)
 | .dct ks ds=>some (.dct ks ds)
 | .dn w ks xs=>(d7 xs).map (.lN w ks)
 | .rM w ks xs=>(d7 xs).map (.lN w ks)
 | .ins C fs xs=>(d7 xs).map (.ins C fs)
 | .lO ks ds=>some (.bO ks ds)
 | .qj ks xs=>(d7 xs).map (.bO ks)
 | .rK ks ds=>some (.dct ks ds)
theorem pG:∀{rs:List R} {ds:List D} {vs:List V},d7 rs=some ds→bB K ι Hb rs vs→aj K Hb ds vs
 | [],ds,vs,h,r=>by cases h;cases r;exact aj.nil
 | .d x::rs,ds,vs,h,r=>by
  unfold d7 at h
  cases q:d7 rs with
  | none=>rw[q] at h;cases h
  | some es=>
   rw[q] at h;cases h
   cases r with
   | cons a b=>exact aj.cons a (pG q b)
 | .o _::_,ds,vs,h,r=>by cases h
 | .w _::_,ds,vs,h,r=>by cases h
theorem H_:∀{b:Ob} {d:D} {u:HO} {a:Addr} {G:Hp},iI b=some d→dY K ι Hb b u→Rl Hb G→G a=some u→Rp K G d (.ref a)
 | .lst ds,d,u,a,G,h,⟨vs,e,q⟩,rl,hG=>by cases h;subst e;unfold Rp;exact⟨a,vs,rfl,.inl hG,aj.mono rl _ _ q⟩
 | .cR xs,d,u,a,G,h,⟨vs,e,q⟩,rl,hG=>by
  subst e
  simp only[iI] at h
  cases z:d7 xs with
  | none=>rw[z] at h;cases h
  | some ds=>rw[z] at h;cases h;unfold Rp;exact⟨a,vs,rfl,.inl hG,aj.mono rl _ _ (pG z q)⟩
 | .bO ks ds,d,u,a,G,h,⟨vs,e,l,q⟩,rl,hG=>by cases h;subst e;unfold Rp;exact⟨a,vs,rfl,.inl hG,l,aj.mono rl _ _ q⟩
 | .dX ks xs,d,u,a,G,h,⟨vs,e,l,q⟩,rl,hG=>by
  subst e
  simp only[iI] at h
  cases z:d7 xs with
  | none=>rw[z] at h;cases h
  | some ds=>rw[z] at h;cases h;unfold Rp;exact⟨a,vs,rfl,.inl hG,l,aj.mono rl _ _ (pG z q)⟩
 | .dct ks ds,d,u,a,G,h,⟨vs,e,l,q⟩,rl,hG=>by cases h;subst e;unfold Rp;exact⟨a,vs,rfl,.inl hG,l,aj.mono rl _ _ q⟩
 | .dn w ks xs,d,u,a,G,h,⟨b,vs,dD,e,l,n,l2,q⟩,rl,hG=>by
  subst e
  simp only[iI] at h
  cases z:d7 xs with
  | none=>rw[z] at h;cases h
  | some ds=>rw[z] at h;cases h;unfold Rp;exact⟨a,b,vs,dD,rfl,.inl hG,l,gA.mono rl _ _ n,l2,aj.mono rl _ _ (pG z q)⟩
 | .rM w ks xs,d,u,a,G,h,⟨od,b,vs,dD,e,l,n,l2,q⟩,rl,hG=>by
  subst e
  simp only[iI] at h
  cases z:d7 xs with
  | none=>rw[z] at h;cases h
  | some ds=>rw[z] at h;cases h;unfold Rp;exact⟨a,b,vs,dD,rfl,.inr ⟨od,hG⟩,l,gA.mono rl _ _ n,l2,aj.mono rl _ _ (pG z q)⟩
 | .ins C fs xs,d,u,a,G,h,⟨dx,vs,e,l,q⟩,rl,hG=>by
  subst e
  simp only[iI] at h
  cases z:d7 xs with
  | none=>rw[z] at h;cases h
  | some ds=>rw[z] at h;cases h;unfold Rp;exact⟨a,dx,vs,rfl,hG,l,aj.mono rl _ _ (pG z q)⟩
 | .lO ks ds,d,u,a,G,h,⟨od,vs,e,l,q⟩,rl,hG=>by cases h;subst e;unfold Rp;exact⟨a,vs,rfl,.inr ⟨od,hG⟩,l,aj.mono rl _ _ q⟩
 | .qj ks xs,d,u,a,G,h,⟨od,vs,e,l,q⟩,rl,hG=>by
  subst e
  simp only[iI] at h
  cases z:d7 xs with
  | none=>rw[z] at h;cases h
  | some ds=>rw[z] at h;cases h;unfold Rp;exact⟨a,vs,rfl,.inr ⟨od,hG⟩,l,aj.mono rl _ _ (pG z q)⟩
 | .rK ks ds,d,u,a,G,h,⟨od,vs,e,l,q⟩,rl,hG=>by cases h;subst e;unfold Rp;exact⟨a,vs,rfl,.inr ⟨od,hG⟩,l,aj.mono rl _ _ q⟩
def bK (st:ST):R→Option Ob
 | .d _=>none
 | .o n=>st.h[n]?
 | .w i=>match st.s[i]? with
  | some (.own b)=>some b
  | _=>none
def snap (st:ST):R→Option D
 | .d x=>some x
 | r=>(bK st r).bind iI
theorem ao.at (C:ao K A st σ H ts Hb ι) {r:R} {v:V} {b:Ob} (hr:Rt K σ ι Hb r v) (h:bK st r=some b):∃a u,v=.ref a∧H a=some u∧dY K ι Hb b u∧Hb a=none:=by
 cases r with
 | d x=>cases h
 | o n=>
  obtain⟨a,e,rfl⟩:=hr
  obtain⟨a',u,h1,h2,h3,h4⟩:=C.obj n b h
  rw[e] at h1;cases h1
  exact⟨a,u,rfl,h2,h3,h4⟩
 | w i=>
  simp only[bK] at h
  cases q:st.s[i]? with
  | none=>rw[q] at h;cases h
  | some sv=>
   rw[q] at h
   cases sv with
   | no=>cases h
   | v r=>cases h
   | own c=>
    cases h
    obtain⟨a,u,h1,h2,h3,h4,_⟩:=C.own i _ q
    have hr:σ[i]?=some (some v):=hr
    rw[h1] at hr;cases hr
    exact⟨a,u,rfl,h2,h3,h4⟩
theorem ao.snap (C:ao K A st σ H ts Hb ι) {r:R} {v:V} {d:D} (hr:Rt K σ ι Hb r v) (h:snap st r=some d):Rp K H d v:=by
 have key:(∃b,bK st r=some b∧iI b=some d)→Rp K H d v:=fun⟨b,h1,h2⟩=>by
  obtain⟨a,u,rfl,g1,g2,_⟩:=C.at hr h1
  exact H_ h2 g2 C.bH.rl g1
 cases r with
 | d x=>cases h;exact Rp.mono C.bH.rl _ _ hr
 | o n=>exact key (a0a.mp h)
 | w i=>exact key (a0a.mp h)
end
def eV (i:Nat):M R:=fun st=>match st.s[i]? with
 | some (.v r)=>some (.ok r st)
 | some (.own _)=>some (.ok (.w i) st)
 | _=>none
def eC (x:D):M R:=fun st=>some (.ok (.d x) st)
def aN:M (List R):=fun st=>some (.ok [] st)
def aC (f:M R) (g:M (List R)):M (List R):=f.bind fun r=>g.bind fun rs st=>some (.ok (r::rs) st)
section
variable {K:PySem.W.Frag} {W:WX} {te ta tb:TE} {tr:TA} {f g:M R} {fr:M (List R)}
theorem Iw {ι:List Addr} {Hb:Hp} {σ:L2.St} {r:R} {v:V} (h:RV K ι Hb r v):Rt K σ ι Hb r v:=by
 cases r with
 | d x=>exact h
 | o n=>exact h
 | w i=>exact h.elim
theorem au {i:Nat}:XE K W (tVar i) (eV i):=fun A st σ H ts ⟨Hb,ι,C⟩ Q y hf p=>by
 unfold eV at hf
 split at hf
 ·rename_i r hr
  cases hf
  obtain⟨v,e,q⟩:=C.val i _ hr
  exact⟨v,e,p v H ⟨Hb,ι,C.temps fun z hz=>(a0c.mp hz).elim (fun e=>by rw[e];exact Iw q) (C.tmp z)⟩⟩
 ·rename_i b hb
  cases hf
  obtain⟨a,u,h1,_⟩:=C.own i _ hb
  exact⟨_,h1,p _ H ⟨Hb,ι,C.temps fun z hz=>(a0c.mp hz).elim (fun e=>by rw[e];exact h1) (C.tmp z)⟩⟩
 ·cases hf
theorem uJ {x:D} {v:V} (h:∀Hb,Rp K Hb x v):XE K W (tC v) (eC x):=fun A st σ H ts C Q y hf p=>by
 cases hf
 exact p v H (C.temps fun z hz=>(a0c.mp hz).elim (fun e=>.inr fun ι Hb=>by rw[e];exact h Hb) .inl)
theorem aQ {i:Int}:XE K W (tC (.int i)) (eC (.int i)):=uJ fun _=>by unfold Rp;rfl
theorem Pb {i:Str}:XE K W (tC (.str i)) (eC (.str i)):=uJ fun _=>by unfold Rp;rfl
theorem wz {i:Bool}:XE K W (tC (.bl i)) (eC (.bl i)):=uJ fun _=>by unfold Rp;rfl
theorem lC {i:Addr}:XE K W (tC (.ref i)) (eC (.ref i)):=uJ fun _=>by unfold Rp;rfl
theorem aaH {i:String}:XE K W (tC (.ty i)) (eC (.ty i)):=uJ fun _=>by unfold Rp;rfl
theorem aW:XA K W tNil aN:=fun A st σ H ts C Q y hf p=>by
 cases hf
 exact p [] H (C.temps fun z hz=>(a0c.mp hz).elim (fun e=>.inr fun ι Hb=>by rw[e];exact .nil) .inl)
theorem aG (hf:XE K W te f) (hg:XA K W tr fr):XA K W (tCons te tr) (aC f fr):=fun A st σ H ts C Q y hy p=>by
 rcases iQ hy with ⟨r,s1,h1,h2⟩|⟨x,s1,h1,rfl⟩
 ·refine hf A st σ H ts C _ _ h1 fun v H1 C1=>?_
  rcases iQ h2 with ⟨rs,s2,h3,h4⟩|⟨x,s2,h3,rfl⟩
  ·cases h4
   refine hg A s1 σ H1 _ C1 _ _ h3 fun vs H2 C2=>p (v::vs) H2 ?_
   obtain⟨Hb,ι,C2⟩:=C2
   exact⟨Hb,ι,C2.temps fun z hz=>(a0c.mp hz).elim (fun e=>by rw[e];exact .cons (C2.tmp (rt K σ r v) (by simp)) (C2.tmp (iH K σ rs vs) (by simp))) fun hz=>C2.tmp z (by simp[hz])⟩
  ·exact hg A s1 σ H1 _ C1 _ _ h3 fun cls d H2 X=>p cls d H2 X.drop
 ·exact hf A st σ H ts C _ _ h1 fun cls d H2 X=>p cls d H2 X
def aV (K:PySem.W.Frag) (r:R2) (g:ST→R→R→Option R):Prop:=∀A st σ H ts Hb ι x y z v u (Q:VK),ao K A st σ H ts Hb ι→Rt K σ ι Hb x v→Rt K σ ι Hb y u→g st x y=some z→(∀w H2,Cf K A st σ H2 (rt K σ z w::ts)→Q w H2)→r v u H Q
def eB (k:ST→R→R→Option R) (f g:M R):M R:=f.bind fun x=>g.bind fun y=>fun st=>(k st x y).map fun z=>.ok z st
theorem aO {r:R2} {k:ST→R→R→Option R} (hk:aV K r k) (hf:XE K W ta f) (hg:XE K W tb g):XE K W (tOp r ta tb) (eB k f g):=fun A st σ H ts C Q y hy p=>by
 rcases iQ hy with ⟨x,s1,h1,h2⟩|⟨x,s1,h1,rfl⟩
 ·refine hf A st σ H ts C _ _ h1 fun v H1 C1=>?_
  rcases iQ h2 with ⟨z,s2,h3,h4⟩|⟨x,s2,h3,rfl⟩
  ·refine hg A s1 σ H1 _ C1 _ _ h3 fun u H2 C2=>?_
   obtain⟨Hb,ι,C2⟩:=C2
   cases e:k s2 x z with
   | none=>rw[e] at h4;cases h4
   | some w=>
    rw[e] at h4;cases h4
    exact hk A s2 σ H2 ts Hb ι x z w v u Q (C2.temps fun q hq=>C2.tmp q (by simp[hq])) (C2.tmp (rt K σ x v) (by simp)) (C2.tmp (rt K σ z u) (by simp)) e p
  ·exact hg A s1 σ H1 _ C1 _ _ h3 fun cls d H2 X=>p cls d H2 X.drop
 ·exact hf A st σ H ts C _ _ h1 fun cls d H2 X=>p cls d H2 X
def aJ (k:D→D→Option D):ST→R→R→Option R:=fun st x y=>(snap st x).bind fun a=>(snap st y).bind fun b=>(k a b).map .d
theorem jD {r:R2} {k:D→D→Option D} (hk:∀x y z,k x y=some z→fD K r x y z):aV K r (aJ k):=fun A st σ H ts Hb ι x y z v u Q C hx hy e p=>by
 obtain⟨a,ha,e⟩:=a0a.mp e
 obtain⟨b,hb,e⟩:=a0a.mp e
 obtain⟨c,hc,rfl⟩:=a0b.mp e
 exact hk a b c hc H H v u Q (Ex.refl _) (C.snap hx ha) (C.snap hy hb) fun w hw=>p w H ⟨Hb,ι,C.temps fun q hq=>(a0c.mp hq).elim (fun e=>by rw[e];exact hw Hb) (C.tmp q)⟩
end
def dM (st:ST):R→Option (List D)
 | .d (.lst ds)=>some ds
 | .d _=>none
 | r=>match bK st r with
  | some (.lst ds)=>some ds
  | _=>none
def lQ (st:ST):R→Option (List Key×List D)
 | .d (.bO ks ds)=>some (ks,ds)
 | .d _=>none
 | r=>match bK st r with
  | some (.bO ks ds)=>some (ks,ds)
  | some (.lO ks ds)=>some (ks,ds)
  | _=>none
def inV (st:ST):R→Option (Addr×List Str×List R)
 | .d (.ins C fs xs)=>some (C,fs,xs.map .d)
 | .d _=>none
 | r=>match bK st r with
  | some (.ins C fs xs)=>some (C,fs,xs)
  | _=>none
section
variable {K:PySem.W.Frag} {A:Ac} {st:ST} {σ:L2.St} {H Hb:Hp} {ts:List Tp} {ι:List Addr} {r:R} {v:V}
theorem Hf:∀{ds:List D} {vs:List V},aj K Hb ds vs→bB K ι Hb (ds.map .d) vs
 | [],vs,h=>by rw[aj.oW h];exact .nil
 | d::ds,vs,h=>by
  obtain⟨v,t,rfl,p,q⟩:=aj.oO h
  exact .cons p (Hf q)
theorem ao.dM (C:ao K A st σ H ts Hb ι) {ds:List D} (hr:Rt K σ ι Hb r v) (h:dM st r=some ds):∃a vs,v=.ref a∧Rd H a (.lst vs)∧aj K Hb ds vs:=by
 have key:(∃b,bK st r=some b∧b=.lst ds)→∃a vs,v=.ref a∧Rd H a (.lst vs)∧aj K Hb ds vs:=by
  rintro⟨b,hb,rfl⟩;obtain⟨a,u,rfl,h1,⟨vs,rfl,q⟩,_⟩:=C.at hr hb;exact⟨a,vs,rfl,.inl h1,q⟩
 have key2:(match bK st r with|some (.lst ds)=>some ds|_=>none)=some ds→∃b,bK st r=some b∧b=.lst ds:=fun h=>by
  cases q:bK st r with
  | none=>rw[q] at h;cases h
  | some b=>rw[q] at h;cases b<;>first|cases h;done|(cases h;exact⟨_,rfl,rfl⟩)
 cases r with
 | d x=>
  cases x<;>first|cases h;done|skip
  cases h
  have hr:Rp K Hb (.lst ds) v:=hr
  unfold Rp at hr
  obtain⟨a,vs,rfl,s,q⟩:=hr
  exact⟨a,vs,rfl,C.bH.rl.ls s,q⟩
 | o n=>exact key (key2 h)
 | w i=>exact key (key2 h)
theorem ao.lQ (C:ao K A st σ H ts Hb ι) {p:List Key×List D} (hr:Rt K σ ι Hb r v) (h:lQ st r=some p):∃a vs,v=.ref a∧Rd H a (.dK (p.1.zip vs))∧p.1.length=vs.length∧aj K Hb p.2 vs:=by
 have key:(∃b,bK st r=some b∧(b=.bO p.1 p.2∨b=.lO p.1 p.2))→∃a vs,v=.ref a∧Rd H a (.dK (p.1.zip vs))∧p.1.length=vs.length∧aj K Hb p.2 vs:=by
  rintro⟨b,hb,rfl|rfl⟩
  ·obtain⟨a,u,rfl,h1,⟨vs,rfl,l,q⟩,_⟩:=C.at hr hb;exact⟨a,vs,rfl,.inl h1,l,q⟩
  ·obtain⟨a,u,rfl,h1,⟨od,vs,rfl,l,q⟩,_⟩:=C.at hr hb;exact⟨a,vs,rfl,.inr ⟨od,h1⟩,l,q⟩
 have key2:(match bK st r with|some (.bO ks ds)=>some (ks,ds)|some (.lO ks ds)=>some (ks,ds)|_=>none)=some p→∃b,bK st r=some b∧(b=.bO p.1 p.2∨b=.lO p.1 p.2):=fun h=>by
  cases q:bK st r with
  | none=>rw[q] at h;cases h
  | some b=>rw[q] at h;cases b<;>first|cases h;done|(cases h;exact⟨_,rfl,.inl rfl⟩)|(cases h;exact⟨_,rfl,.inr rfl⟩)
 cases r with
 | d x=>
  cases x<;>first|cases h;done|skip
  cases h
  have hr:Rp K Hb (.bO _ _) v:=hr
  unfold Rp at hr
  obtain⟨a,vs,rfl,s,l,q⟩:=hr
  exact⟨a,vs,rfl,C.bH.rl.k s,l,q⟩
 | o n=>exact key (key2 h)
 | w i=>exact key (key2 h)
theorem ao.inV (C:ao K A st σ H ts Hb ι) {p:Addr×List Str×List R} (hr:Rt K σ ι Hb r v) (h:inV st r=some p):∃a dx vs,v=.ref a∧H a=some (.ins p.1 dx (p.2.1.zip vs))∧p.2.1.length=vs.length∧bB K ι Hb p.2.2 vs:=by
 have key:(∃b,bK st r=some b∧b=.ins p.1 p.2.1 p.2.2)→∃a dx vs,v=.ref a∧H a=some (.ins p.1 dx (p.2.1.zip vs))∧p.2.1.length=vs.length∧bB K ι Hb p.2.2 vs:=by
  rintro⟨b,hb,rfl⟩
  obtain⟨a,u,rfl,h1,⟨dx,vs,rfl,l,q⟩,_⟩:=C.at hr hb;exact⟨a,dx,vs,rfl,h1,l,q⟩
 have key2:(match bK st r with|some (.ins C fs xs)=>some (C,fs,xs)|_=>none)=some p→∃b,bK st r=some b∧b=.ins p.1 p.2.1 p.2.2:=fun h=>by
  cases q:bK st r with
  | none=>rw[q] at h;cases h
  | some b=>rw[q] at h;cases b<;>first|cases h;done|(cases h;exact⟨_,rfl,rfl⟩)
 cases r with
 | d x=>
  cases x<;>first|cases h;done|skip
  cases h
  have hr:Rp K Hb (.ins _ _ _) v:=hr
  unfold Rp at hr
  obtain⟨a,dx,vs,rfl,s,l,q⟩:=hr
  exact⟨a,dx,vs,rfl,C.bH _ _ s,l,Hf q⟩
 | o n=>exact key (key2 h)
 | w i=>exact key (key2 h)
end
def kI (f:Int→Int→D):D→D→Option D
 | .int i,.int j=>some (f i j)
 | _,_=>none
instance abB (i j:Int):Decidable (CMul i j):=by unfold CMul;infer_instance
instance abC (i j:Int):Decidable (CDiv i j):=by unfold CDiv;infer_instance
instance abD (i j:Int):Decidable (CPow i j):=by unfold CPow;infer_instance
def rO (C:Int→Int→Prop) [∀i j,Decidable (C i j)] (f:Int→Int→D):D→D→Option D
 | .int i,.int j=>if C i j then some (f i j) else none
 | _,_=>none
def wA:=kI fun i j=>.int (i-j)
def mQ:=rO CMul fun i j=>.int (i*j)
def fX:=rO (fun _ j=>0<j) fun i j=>.int (i%j)
def oY:=rO CDiv fun i j=>.int (i/j)
def pO:=rO CPow fun i j=>.int (i ^ j.toNat)
def kLt:=kI fun i j=>.bl (decide (i<j))
def J8:=kI fun i j=>.bl (decide (j<i))
def J9:=kI fun i j=>.bl (decide (j≤i))
mutual
def cY:D→D→Bool
 | .non,.non=>true
 | .bl a,.bl b=>a == b
 | .bl a,.int j=>(if a then 1 else 0) == j
 | .int i,.bl b=>i == (if b then 1 else 0)
 | .int i,.int j=>i == j
 | .str x,.str y=>x == y
 | .lst xs,.lst ys=>lJ xs ys
 | .tup xs,.tup ys=>lJ xs ys
 | _,_=>false
def lJ:List D→List D→Bool
 | [],[]=>true
 | x::xs,y::ys=>cY x y&&lJ xs ys
 | _,_=>false
end
mutual
theorem vU:∀x y:D,bf x=true→bf y=true→PyData.eqv (toPy x) (toPy y)=cY x y
 | x,y,hx,hy=>by
  cases x<;>cases y<;>first
   | (simp[bf] at hx;done)|(simp[bf] at hy;done)
   | (simp only[toPy,cY,PyData.eqv];done)
   | (simp only[toPy,cY,PyData.eqv];simp only[bf] at hx hy;exact Nm _ _ hx hy)
theorem Nm:∀xs ys:List D,fL xs=true→fL ys=true→PyData.eqvAll (dO xs) (dO ys)=lJ xs ys
 | [],[],_,_=>by simp only[dO,lJ,PyData.eqvAll]
 | [],y::ys,_,_=>by simp only[dO,lJ,PyData.eqvAll]
 | x::xs,[],_,_=>by simp only[dO,lJ,PyData.eqvAll]
 | x::xs,y::ys,hx,hy=>by
  simp only[fL,a0r] at hx hy
  simp only[dO,lJ,PyData.eqvAll]
  rw[vU x y hx.1 hy.1,Nm xs ys hx.2 hy.2]
end
def cX:D→Bool
 | .non=>true|.bl _=>true|.int _=>true|.str _=>true|_=>false
def fu (x:D):Bool:=bf x&&decide (dep x≤64)
def kEq (neg:Bool):D→D→Option D:=fun x y=>if (cX x&&cX y) || (fu x&&fu y) then some (.bl (if neg then !cY x y else cY x y)) else none
section
variable {K:PySem.W.Frag}
theorem uK {g:Int→Int→V} {f:Int→Int→D} (h:∀i j Hb,Rp K Hb (f i j) (g i j)):∀x y z,kI f x y=some z→fD K (rI0 g) x y z:=fun x y z e=>by
 cases x<;>first|cases e;done|skip
 cases y<;>first|cases e;done|skip
 cases e
 exact Zq (h _ _)
theorem wB {C:Int→Int→Prop} [∀i j,Decidable (C i j)] {g:Int→Int→V} {f:Int→Int→D} (h:∀i j Hb,Rp K Hb (f i j) (g i j)):∀x y z,rO C f x y=some z→fD K (rI C g) x y z:=fun x y z e=>by
 cases x<;>first|cases e;done|skip
 cases y<;>first|cases e;done|skip
 rename_i i j
 simp only[rO] at e
 by_cases q:C i j
 ·rw[a0d q] at e;cases e;exact aax q (h _ _)
 ·rw[a0j q] at e;cases e
theorem Iz:aV K Jj (aJ wA):=jD (uK fun i j Hb=>by unfold Rp;rfl)
theorem tH:aV K Jk (aJ mQ):=jD (wB fun i j Hb=>by unfold Rp;rfl)
theorem jy:aV K Jl (aJ fX):=jD (wB fun i j Hb=>by unfold Rp;rfl)
theorem tK:aV K Jm (aJ oY):=jD (wB fun i j Hb=>by unfold Rp;rfl)
theorem vZ:aV K Jo (aJ pO):=jD (wB fun i j Hb=>by unfold Rp;rfl)
theorem x_lt:aV K JT (aJ kLt):=jD (uK fun i j Hb=>by unfold Rp;rfl)
theorem aaI:aV K JV (aJ J8):=jD (uK fun i j Hb=>by unfold Rp;rfl)
theorem x_ge:aV K JW (aJ J9):=jD (uK fun i j Hb=>by unfold Rp;rfl)
theorem iT {x:D} (h:fu x=true):bf x=true∧dep x≤64:=by
 unfold fu at h;rw[a0r] at h;exact⟨h.1,of_decide_eq_true h.2⟩
theorem k_eq:∀x y z,kEq false x y=some z→fD K (pA K) x y z:=fun x y z e=>by
 unfold kEq at e
 by_cases h2:(fu x&&fu y)=true
 ·rw[a0r] at h2
  have h3:((cX x&&cX y) || (fu x&&fu y))=true:=by rw[h2.1,h2.2];simp
  rw[a0d h3] at e
  cases e
  have:=ZG (K:=K) (iT h2.1).1 (iT h2.2).1 (iT h2.1).2 (iT h2.2).2
  rw[vU x y (iT h2.1).1 (iT h2.2).1] at this
  exact this
 ·by_cases h1:(cX x&&cX y)=true
  ·rw[a0d (by rw[h1];rfl)] at e
   cases e
   refine fD.inl fun Hb H v u Q ex hv hu q=>?_
   cases x<;>cases y<;>first|(simp[cX] at h1;done)|(exfalso;simp[fu,bf,dep] at h2;done)|skip
   ·cases (show v=.non from hv);cases (Rp.dU hu);exact⟨rfl,q _ fun bF=>by unfold Rp;rfl⟩
   ·cases (Rp.mY hv);cases (Rp.dU hu);exact⟨rfl,q _ fun bF=>by unfold Rp;rfl⟩
   ·cases (Rp.jC hv);cases (Rp.dU hu);exact⟨rfl,q _ fun bF=>by unfold Rp;rfl⟩
   ·cases (Rp.dU hv);cases (show u=.non from hu);exact⟨rfl,q _ fun bF=>by unfold Rp;rfl⟩
   ·cases (Rp.dU hv);cases (Rp.mY hu);exact⟨rfl,q _ fun bF=>by unfold Rp;rfl⟩
   ·cases (Rp.dU hv);cases (Rp.jC hu);exact⟨rfl,q _ fun bF=>by unfold Rp;rfl⟩
   ·cases (Rp.dU hv);cases (Rp.dU hu);exact⟨rfl,q _ fun bF=>by unfold Rp;rw[L2.dec_str];simp[cY]⟩
  ·rw[a0j (by simp only[Bool.or_eq_true];exact fun z=>z.elim h1 h2)] at e;cases e
theorem k_ne:∀x y z,kEq true x y=some z→fD K (qd K) x y z:=fun x y z e=>by
 unfold kEq at e
 by_cases h2:(fu x&&fu y)=true
 ·rw[a0r] at h2
  have h3:((cX x&&cX y) || (fu x&&fu y))=true:=by rw[h2.1,h2.2];simp
  rw[a0d h3] at e
  cases e
  have:=ZJ (K:=K) (iT h2.1).1 (iT h2.2).1 (iT h2.1).2 (iT h2.2).2
  rw[vU x y (iT h2.1).1 (iT h2.2).1] at this
  exact this
 ·by_cases h1:(cX x&&cX y)=true
  ·rw[a0d (by rw[h1];rfl)] at e
   cases e
   refine fD.inl fun Hb H v u Q ex hv hu q=>?_
   cases x<;>cases y<;>first|(simp[cX] at h1;done)|(exfalso;simp[fu,bf,dep] at h2;done)|skip
   ·cases (show v=.non from hv);cases (Rp.dU hu);exact⟨rfl,q _ fun bF=>by unfold Rp;rfl⟩
   ·cases (Rp.mY hv);cases (Rp.dU hu);exact⟨rfl,q _ fun bF=>by unfold Rp;rfl⟩
   ·cases (Rp.jC hv);cases (Rp.dU hu);exact⟨rfl,q _ fun bF=>by unfold Rp;rfl⟩
   ·cases (Rp.dU hv);cases (show u=.non from hu);exact⟨rfl,q _ fun bF=>by unfold Rp;rfl⟩
   ·cases (Rp.dU hv);cases (Rp.mY hu);exact⟨rfl,q _ fun bF=>by unfold Rp;rfl⟩
   ·cases (Rp.dU hv);cases (Rp.jC hu);exact⟨rfl,q _ fun bF=>by unfold Rp;rfl⟩
   ·cases (Rp.dU hv);cases (Rp.dU hu);exact⟨rfl,q _ fun bF=>by unfold Rp;rw[L2.dec_str];simp[cY]⟩
  ·rw[a0j (by simp only[Bool.or_eq_true];exact fun z=>z.elim h1 h2)] at e;cases e
theorem x_eq:aV K (pA K) (aJ (kEq false)):=jD k_eq
theorem Jt:aV K (qd K) (aJ (kEq true)):=jD k_ne
end
end AL
namespace AL
open PySem L2 DL PyProof.Rows
abbrev K2:=ST→R→R→Option R
def K2.or (k l:K2):K2:=fun st x y=>(k st x y).or (l st x y)
section
variable {K:PySem.W.Frag} {r r':R2} {k l:K2}
theorem aV.or (h:aV K r k) (h':aV K r l):aV K r (k.or l):=fun A st σ H ts Hb ι x y z v u Q C hx hy e p=>by
 unfold K2.or at e
 cases q:k st x y with
 | some w=>rw[q] at e;cases e;exact h A st σ H ts Hb ι x y _ v u Q C hx hy q p
 | none=>rw[q] at e;exact h' A st σ H ts Hb ι x y z v u Q C hx hy e p
theorem aV.inl (h:aV K r k):aV K (gD r r') k:=fun A st σ H ts Hb ι x y z v u Q C hx hy e p=>.inl (h A st σ H ts Hb ι x y z v u Q C hx hy e p)
theorem aV.inr (h:aV K r' k):aV K (gD r r') k:=fun A st σ H ts Hb ι x y z v u Q C hx hy e p=>.inr (h A st σ H ts Hb ι x y z v u Q C hx hy e p)
end
def Pg:K2:=aJ (kI fun i j=>.int (i+j))
def Ph:K2:=aJ fun x y=>match x,y with
 | .str s,.str t=>if s.length+t.length≤16000000 then some (.str (s++t)) else none
 | _,_=>none
def Pj:K2:=fun st x y=>(dM st x).bind fun xs=>(dM st y).bind fun ys=>if xs.length+ys.length≤16000000 then some (.d (.lst (xs++ys))) else none
def IK:K2:=fun _ x y=>match x,y with
 | .d (.tup xs),.d (.tup ys)=>if xs.length+ys.length≤16000000 then some (.d (.tup (xs++ys))) else none
 | _,_=>none
def fY:K2:=Pg.or (Ph.or (IK.or Pj))
section
variable {K:PySem.W.Frag} {A:Ac} {st:ST} {σ:L2.St} {H Hb:Hp} {ts:List Tp} {ι:List Addr} {r:R} {v:V}
theorem ao.one (C:ao K A st σ H ts Hb ι) {r:R} {v:V} (h:Rt K σ ι Hb r v):Cf K A st σ H (rt K σ r v::ts):=⟨Hb,ι,C.temps fun q hq=>(a0c.mp hq).elim (fun e=>by rw[e];exact h) (C.tmp q)⟩
theorem ao.fO (C:ao K A st σ H ts Hb ι) {x:D} {v:V} (h:Rp K Hb x v):Cf K A st σ H (rt K σ (.d x) v::ts):=C.one (r:=.d x) h
theorem ao.newL (C:ao K A st σ H ts Hb ι) {p:Addr} {ds:List D} {vs:List V} (hp:H p=none) (r:aj K Hb ds vs):Cf K A st σ (upd H p (.lst vs)) (rt K σ (.d (.lst ds)) (.ref p)::ts):=by
 have hb:Hb p=none:=C.bH.none hp
 refine⟨_,ι,C.laid hp fun q hq=>?_⟩
 rcases a0c.mp hq with rfl|hq
 ·show Rp K _ _ _
  unfold Rp;exact⟨p,vs,rfl,.inl a0w,aj.mono (Ex.new hb).rl _ _ r⟩
 ·exact q.m _ _ _ _ (bM.refl _) (Ex.new hb).rl (C.tmp q hq)
theorem ao.newT (C:ao K A st σ H ts Hb ι) {p:Addr} {ds:List D} {vs:List V} (hp:H p=none) (r:aj K Hb ds vs):Cf K A st σ (upd H p (.tup vs)) (rt K σ (.d (.tup ds)) (.ref p)::ts):=by
 have hb:Hb p=none:=C.bH.none hp
 refine⟨_,ι,C.laid hp fun q hq=>?_⟩
 rcases a0c.mp hq with rfl|hq
 ·show Rp K _ _ _
  unfold Rp;exact⟨p,vs,rfl,.inl (.inl a0w),aj.mono (Ex.new hb).rl _ _ r⟩
 ·exact q.m _ _ _ _ (bM.refl _) (Ex.new hb).rl (C.tmp q hq)
theorem ite_some {α:Type} {c:Prop} [Decidable c] {a b:α} (h:(if c then some a else none)=some b):c∧a=b:=by
 by_cases q:c
 ·rw[a0d q] at h;exact⟨q,b0o h⟩
 ·rw[a0j q] at h;cases h
theorem jR:aV K (wj K) fY:=by
 refine aV.or (aV.inl (jD (uK fun i j Hb=>by unfold Rp;rfl))) (aV.or (aV.inr (aV.inl (jD fun x y z e Hb H v u Q ex hv hu q=>?_))) (aV.or (aV.inr (aV.inr (aV.inr ?_))) (aV.inr (aV.inr (aV.inl ?_)))))
 ·cases x<;>first|cases e;done|skip
  cases y<;>first|cases e;done|skip
  obtain⟨hl,rfl⟩:=ite_some e
  exact⟨_,_,hv,hu,by rw[a0m];omega,q _ fun _=>by unfold Rp;rfl⟩
 ·intro A st σ H ts Hb ι x y z v u Q C hx hy e p
  unfold IK at e
  cases x with
  | d x=>
   cases x<;>first|cases e;done|skip
   cases y with
   | d y=>
    cases y<;>first|cases e;done|skip
    rename_i xs ys
    obtain⟨hl,rfl⟩:=ite_some e
    have hx:Rp K Hb (.tup xs) v:=hx
    have hy:Rp K Hb (.tup ys) u:=hy
    have hx':=hx
    have hy':=hy
    unfold Rp at hx hy
    obtain⟨a,vs,rfl,s1,r1⟩:=hx
    obtain⟨b,us,rfl,s2,r2⟩:=hy
    refine⟨a,b,vs,us,rfl,rfl,C.bH.rl.t s1,C.bH.rl.t s2,by rw[← r1.len,← r2.len,a0m];omega,fun e=>p _ _ (C.fO ?_),fun _ e=>p _ _ (C.fO ?_),fun _ _ q hq=>p _ _ (C.newT hq (r1.app r2))⟩
    ·have:xs=[]:=List.eq_nil_of_length_eq_zero (by rw[r1.len,e];rfl)
     rw[this];exact hy'
    ·have:ys=[]:=List.eq_nil_of_length_eq_zero (by rw[r2.len,e];rfl)
     rw[this,a0U];exact hx'
   | o n=>cases e
   | w i=>cases e
  | o n=>cases e
  | w i=>cases e
 ·intro A st σ H ts Hb ι x y z v u Q C hx hy e p
  obtain⟨xs,h1,e⟩:=a0a.mp e
  obtain⟨ys,h2,e⟩:=a0a.mp e
  obtain⟨hl,rfl⟩:=ite_some e
  obtain⟨a,vs,rfl,s1,r1⟩:=C.dM hx h1
  obtain⟨b,us,rfl,s2,r2⟩:=C.dM hy h2
  exact⟨a,b,vs,us,rfl,rfl,s1,s2,by rw[← r1.len,← r2.len,a0m];omega,fun q hq=>p _ _ (C.newL hq (r1.app r2))⟩
end
def keyD:D→Option Key
 | .int i=>some (.inl i)
 | .str s=>some (.inr s)
 | _=>none
def uf:K2:=fun _ x y=>match x,y with
 | .d (.tup ds),.d (.int i)=>(atI ds i).map .d
 | .d (.str s),.d (.int i)=>if s.length≤16000000 then(atI s.cps.toList i).map fun c=>.d (.str ⟨#[c]⟩) else none
 | .d (.dB ns),.d (.int i)=>(atI ns i).map fun n=>.d (.int n)
 | _,_=>none
def ug:K2:=fun st x y=>match y with
 | .d (.int i)=>(dM st x).bind fun ds=>(atI ds i).map .d
 | _=>none
def uh:K2:=fun st x y=>match y with
 | .d y=>(lQ st x).bind fun p=>(keyD y).bind fun k=>(dget p.1 p.2 k).map .d
 | _=>none
def cR (st:ST) (x:R):Option (List R):=match bK st x with
 | some (.cR xs)=>some xs
 | _=>none
def dX (st:ST) (x:R):Option (List Key×List R):=match bK st x with
 | some (.dX ks xs)=>some (ks,xs)
 | some (.qj ks xs)=>some (ks,xs)
 | _=>none
def uo:K2:=fun st x y=>match y with
 | .d (.int i)=>(cR st x).bind fun xs=>atI xs i
 | _=>none
def uw (ks:List Key) (xs:List R) (k:Key):Option R:=((ks.zip xs).find? fun kv=>decide (kv.1=k)).map (·.2)
def ux:K2:=fun st x y=>match y with
 | .d y=>(dX st x).bind fun p=>(keyD y).bind fun k=>uw p.1 p.2 k
 | _=>none
def dI:K2:=uf.or (ug.or (uh.or (uo.or ux)))
section
variable {K:PySem.W.Frag} {A:Ac} {st:ST} {σ:L2.St} {H Hb:Hp} {ts:List Tp} {ι:List Addr} {r:R} {v:V}
theorem nu {y:D} {k:Key} (h:keyD y=some k):y=kD k:=by cases y<;>first|cases h;done|(cases h;rfl)
theorem bB.get {xs:List R} {vs:List V}:∀{n:Nat} {x:R},bB K ι Hb xs vs→xs[n]?=some x→∃v,vs[n]?=some v∧RV K ι Hb x v:=fun {n x} r e=>by
 induction r generalizing n with
 | nil=>simp at e
 | cons a b ih=>
  cases n with
  | zero=>simp at e;subst e;exact⟨_,rfl,a⟩
  | succ n=>obtain⟨v,h1,h2⟩:=ih (n:=n) (by simpa using e);exact⟨v,by simpa using h1,h2⟩
theorem bB.atI {xs:List R} {vs:List V} {i:Int} {x:R} (r:bB K ι Hb xs vs) (h:L2.atI xs i=some x):∃v,L2.atI vs i=some v∧RV K ι Hb x v:=by
 unfold L2.atI at h ⊢
 have hl:xs.length=vs.length:=Paired.length r
 rw[← hl]
 cases q:ixN xs.length i with
 | none=>rw[q] at h;cases h
 | some j=>
  rw[q,a0k] at h
  rw[a0k]
  exact r.get h
theorem Np {k:Key}:∀{ks:List Key} {xs:List R} {vs:List V} {x:R},ks.length=vs.length→bB K ι Hb xs vs→uw ks xs k=some x→∃v,valV (ks.zip vs) k=some v∧RV K ι Hb x v
 | [],xs,vs,x,_,_,h=>by simp[uw] at h
 | q::ks,[],vs,x,hl,r,h=>by simp[uw] at h
 | q::ks,e::ds,vs,x,hl,r,h=>by
  cases r with
  | cons rv rt=>
   have ih:=Np (k:=k) (ks:=ks) (x:=x) (by simpa using hl) rt
   unfold uw at h ih
   unfold valV at ih ⊢
   simp only[a0I,b0a] at h ⊢
   by_cases z:q=k
   ·simp only[z,decide_true,b0b] at h ⊢
    cases h
    exact⟨_,rfl,rv⟩
   ·simp only[z,decide_false] at h ⊢
    exact ih h
theorem ao.cR (C:ao K A st σ H ts Hb ι) {xs:List R} (hr:Rt K σ ι Hb r v) (h:cR st r=some xs):∃a vs,v=.ref a∧H a=some (.lst vs)∧bB K ι Hb xs vs:=by
 unfold AL.cR at h
 cases q:bK st r with
 | none=>rw[q] at h;cases h
 | some b=>
  rw[q] at h
  cases b<;>first|cases h;done|skip
  cases h
  obtain⟨a,u,rfl,h1,⟨vs,rfl,q⟩,_⟩:=C.at hr q
  exact⟨a,vs,rfl,h1,q⟩
theorem ao.dX (C:ao K A st σ H ts Hb ι) {p:List Key×List R} (hr:Rt K σ ι Hb r v) (h:dX st r=some p):∃a vs,v=.ref a∧Rd H a (.dK (p.1.zip vs))∧p.1.length=vs.length∧bB K ι Hb p.2 vs:=by
 unfold AL.dX at h
 cases q:bK st r with
 | none=>rw[q] at h;cases h
 | some b=>
  rw[q] at h
  cases b<;>first|cases h;done|skip
  all_goals cases h
  ·obtain⟨a,u,rfl,h1,⟨vs,rfl,l,q⟩,_⟩:=C.at hr q
   exact⟨a,vs,rfl,.inl h1,l,q⟩
  ·obtain⟨a,u,rfl,h1,⟨od,vs,rfl,l,q⟩,_⟩:=C.at hr q
   exact⟨a,vs,rfl,.inr ⟨od,h1⟩,l,q⟩
theorem Nq {α β:Type} (f:α→β) (l:List α) (i:Int):atI (l.map f) i=(atI l i).map f:=by
 unfold atI
 rw[a0P]
 cases ixN l.length i with
 | none=>rfl
 | some j=>simp
theorem lK:aV K (rJ K) dI:=by
 refine aV.or ?_ (aV.or (aV.inl ?_) (aV.or (aV.inr (aV.inr (aV.inr ?_))) (aV.or (aV.inl ?_) (aV.inr (aV.inr (aV.inr ?_))))))
 ·intro A st σ H ts Hb ι x y z v u Q C hx hy e p
  unfold uf at e
  cases x with
  | d x=>
   cases y with
   | d y=>
    cases x<;>cases y<;>first|cases e;done|skip
    ·rename_i s i
     have e:(if s.length≤16000000 then(atI s.cps.toList i).map fun c=>R.d (.str ⟨#[c]⟩) else none)=some z:=e
     by_cases hl:s.length≤16000000
     ·rw[a0d hl] at e
      obtain⟨c,hc,rfl⟩:=a0b.mp e
      exact .inr (.inr (.inl ⟨s,i,c,hx,hy,by rw[a0m];omega,hc,p _ _ (C.fO (by unfold Rp;rfl))⟩))
     ·rw[a0j hl] at e;cases e
    ·rename_i ds i
     obtain⟨c,hc,rfl⟩:=a0b.mp e
     have hx:Rp K Hb (.tup ds) v:=hx
     unfold Rp at hx
     obtain⟨a,vs,rfl,s,r⟩:=hx
     obtain⟨w,hw,rw'⟩:=M_ r hc
     exact .inr (.inl ⟨a,vs,i,w,rfl,hy,C.bH.rl.t s,hw,p _ _ (C.fO rw')⟩)
    ·rename_i ns i
     obtain⟨c,hc,rfl⟩:=a0b.mp e
     have hx:Rp K Hb (.dB ns) v:=hx
     unfold Rp at hx
     obtain⟨a,rfl,s⟩:=hx
     exact .inl ⟨a,_,i,.int c,rfl,hy,C.bH.rl.l s,by rw[Nq,hc];rfl,p _ _ (C.fO (by unfold Rp;rfl))⟩
   | o n=>cases x<;>cases e
   | w i=>cases x<;>cases e
  | o n=>cases e
  | w i=>cases e
 ·intro A st σ H ts Hb ι x y z v u Q C hx hy e p
  unfold ug at e
  cases y with
  | d y=>
   cases y<;>first|cases e;done|skip
   rename_i i
   obtain⟨ds,h1,e⟩:=a0a.mp e
   obtain⟨c,hc,rfl⟩:=a0b.mp e
   obtain⟨a,vs,rfl,s,r⟩:=C.dM hx h1
   obtain⟨w,hw,rw'⟩:=M_ r hc
   exact⟨a,vs,i,w,rfl,hy,.inl s,hw,p _ _ (C.fO rw')⟩
  | o n=>cases e
  | w i=>cases e
 ·intro A st σ H ts Hb ι x y z v u Q C hx hy e p
  unfold uh at e
  cases y with
  | d y=>
   obtain⟨q,h1,e⟩:=a0a.mp e
   obtain⟨k,h2,e⟩:=a0a.mp e
   obtain⟨c,hc,rfl⟩:=a0b.mp e
   obtain⟨a,vs,rfl,s,l,r⟩:=C.lQ hx h1
   obtain⟨w,hw,rw'⟩:=(Nb (k:=k) l r).1 c hc
   have hy:Rp K Hb y u:=hy
   rw[nu h2] at hy
   exact⟨a,w,rfl,.inl ⟨_,k,s,oX hy,hw.symm⟩,p _ _ (C.fO rw')⟩
  | o n=>cases e
  | w i=>cases e
 ·intro A st σ H ts Hb ι x y z v u Q C hx hy e p
  unfold uo at e
  cases y with
  | d y=>
   cases y<;>first|cases e;done|skip
   rename_i i
   obtain⟨ds,h1,hc⟩:=a0a.mp e
   obtain⟨a,vs,rfl,s,r⟩:=C.cR hx h1
   obtain⟨w,hw,rw'⟩:=r.atI hc
   exact⟨a,vs,i,w,rfl,hy,.inl (.inl s),hw,p _ _ (C.one (Iw rw'))⟩
  | o n=>cases e
  | w i=>cases e
 ·intro A st σ H ts Hb ι x y z v u Q C hx hy e p
  unfold ux at e
  cases y with
  | d y=>
   obtain⟨q,h1,e⟩:=a0a.mp e
   obtain⟨k,h2,hc⟩:=a0a.mp e
   obtain⟨a,vs,rfl,s,l,r⟩:=C.dX hx h1
   obtain⟨w,hw,rw'⟩:=Np (k:=k) l r hc
   have hy:Rp K Hb y u:=hy
   rw[nu h2] at hy
   exact⟨a,w,rfl,.inl ⟨_,k,s,oX hy,hw.symm⟩,p _ _ (C.one (Iw rw'))⟩
  | o n=>cases e
  | w i=>cases e
end
def lM (st:ST):R→Option (List D)
 | .d (.tup ds)=>some ds
 | r=>dM st r
def wC (neg:Bool):K2:=fun st x y=>(snap st x).bind fun a=>(lM st y).bind fun ds=>if cX a&&ds.all cX then some (.d (.bl (if neg then !ds.any (fun z=>cY z a) else ds.any (fun z=>cY z a)))) else none
def Qt (neg:Bool):K2:=fun st x y=>(snap st x).bind fun a=>(snap st y).bind fun b=>match b with
 | .lst ds=>if fu a&&fu (.lst ds) then some (.d (.bl (if neg then !ds.any (fun z=>cY z a) else ds.any (fun z=>cY z a)))) else none
 | _=>none
def Ju (neg:Bool):K2:=fun st x y=>match x with
 | .d a=>(keyD a).bind fun k=>(lQ st y).bind fun p=>some (.d (.bl (if neg then !decide (k∈p.1) else decide (k∈p.1))))
 | _=>none
def Jv (neg:Bool):K2:=fun st x y=>match x with
 | .d a=>(keyD a).bind fun k=>(dX st y).bind fun p=>some (.d (.bl (if neg then !decide (k∈p.1) else decide (k∈p.1))))
 | _=>none
def Qu (s:Str):Option Nat:=match s.cps.toList with
 | [c]=>some c
 | _=>none
def wD (neg:Bool):K2:=aJ fun x y=>match x,y with
 | .str s,.str t=>(Qu s).map fun c=>.bl (if neg then !decide (c∈t.cps.toList) else decide (c∈t.cps.toList))
 | _,_=>none
def kIn (neg:Bool):K2:=(wD neg).or ((wC neg).or ((Ju neg).or ((Qt neg).or (Jv neg))))
section
variable {K:PySem.W.Frag} {A:Ac} {st:ST} {σ:L2.St} {H Hb:Hp} {ts:List Tp} {ι:List Addr} {r:R} {v:V}
theorem Nr {x:D} {v:V} (h:cX x=true) (hr:Rp K Hb x v):flatV v=true:=by
 cases x<;>first|(simp[cX] at h;done)|skip
 ·cases (show v=.non from hr);rfl
 ·cases (Rp.mY hr);rfl
 ·cases (Rp.jC hr);rfl
 ·cases (Rp.dU hr);rfl
theorem Yq {x y:D} {v u:V} (hx:cX x=true) (hy:cX y=true) (rx:Rp K Hb x v) (ry:Rp K H y u):L2.eqV v u=cY x y:=by
 cases x<;>first|(simp[cX] at hx;done)|skip
 all_goals
  cases y<;>first|(simp[cX] at hy;done)|skip
 all_goals
  first
  | (cases (show v=.non from rx))
  | (cases (Rp.mY rx))
  | (cases (Rp.jC rx))
  | (cases (Rp.dU rx))
 all_goals
  first
  | (cases (show u=.non from ry))
  | (cases (Rp.mY ry))
  | (cases (Rp.jC ry))
  | (cases (Rp.dU ry))
 all_goals rfl
theorem Mv:∀{ds:List D} {vs:List V},ds.all cX=true→aj K Hb ds vs→vs.all flatV=true
 | [],vs,_,r=>by rw[aj.oW r];rfl
 | d::ds,vs,h,r=>by
  obtain⟨v,t,rfl,p,q⟩:=aj.oO r
  rw[b0m,a0r] at h
  rw[b0m,Nr h.1 p,Mv h.2 q];rfl
theorem Mw {x:D} {u:V} (hx:cX x=true) (rx:Rp K H x u):∀{ds:List D} {vs:List V},ds.all cX=true→aj K Hb ds vs→L2.inV u vs=ds.any (fun z=>cY z x)
 | [],vs,_,r=>by rw[aj.oW r];rfl
 | d::ds,vs,h,r=>by
  obtain⟨v,t,rfl,p,q⟩:=aj.oO r
  rw[b0m,a0r] at h
  have ih:=Mw hx rx h.2 q
  unfold L2.inV at ih ⊢
  rw[b0l,b0l,ih,Yq h.1 hx p rx]
theorem GZ {x:D} (hx:bf x=true):∀{ds:List D},fL ds=true→((dO ds).any fun z=>PyData.eqv z (toPy x))=ds.any (fun z=>cY z x)
 | [],_=>by unfold dO;rfl
 | d::ds,h=>by
  simp only[fL,a0r] at h
  simp only[dO,b0l]
  rw[vU d x h.1 hx,GZ hx h.2]
theorem ao.lM (C:ao K A st σ H ts Hb ι) {ds:List D} (hr:Rt K σ ι Hb r v) (h:lM st r=some ds):∃a vs,v=.ref a∧(SqL K H a vs∨SqT K H a vs)∧aj K Hb ds vs:=by
 have key:AL.dM st r=some ds→∃a vs,v=.ref a∧(SqL K H a vs∨SqT K H a vs)∧aj K Hb ds vs:=fun h=>by
  obtain⟨a,vs,e,s,q⟩:=C.dM hr h
  exact⟨a,vs,e,.inl (.inl s),q⟩
 cases r with
 | d x=>
  cases x<;>first|exact key h|skip
  cases h
  have hr:Rp K Hb (.tup ds) v:=hr
  unfold Rp at hr
  obtain⟨a,vs,rfl,s,q⟩:=hr
  exact⟨a,vs,rfl,.inr (C.bH.rl.t s),q⟩
 | o n=>exact key h
 | w i=>exact key h
theorem Nt {ks:List Key} {vs:List V} {k:Key} (hl:ks.length=vs.length):(valV (ks.zip vs) k).isSome=decide (k∈ks):=by
 induction ks generalizing vs with
 | nil=>simp[valV]
 | cons q ks ih=>
  cases vs with
  | nil=>simp at hl
  | cons w vs=>
   have ih:=ih (vs:=vs) (by simpa using hl)
   unfold valV at ih ⊢
   simp only[a0I,b0a,a0c]
   by_cases z:q=k
   ·simp[z]
   ·have z':¬k=q:=fun e=>z e.symm
    simp only[z,decide_false,z',false_or]
    exact ih
theorem ZL {neg:Bool}:aV K (rSIn neg) (wD neg):=jD fun x y z e Hb H v u Q ex hv hu q=>by
 cases x<;>first|cases e;done|skip
 cases y<;>first|cases e;done|skip
 rename_i s t
 obtain⟨c,hc,rfl⟩:=a0b.mp e
 have es:s=⟨#[c]⟩:=by
  unfold Qu at hc
  obtain⟨⟨l⟩⟩:=s
  match l,hc with
  | [c'],hc=>cases hc;rfl
 subst es
 exact⟨c,t,hv,hu,q _ fun _=>by unfold Rp;rfl⟩
theorem ZM {neg:Bool}:aV K (rIn K neg) (wC neg):=fun A st σ H ts Hb ι x y z v u Q C hx hy e p=>by
 obtain⟨a,h1,e⟩:=a0a.mp e
 obtain⟨ds,h2,e⟩:=a0a.mp e
 obtain⟨hc,rfl⟩:=ite_some e
 rw[a0r] at hc
 have hv:=C.snap hx h1
 obtain⟨q,vs,rfl,s,r⟩:=C.lM hy h2
 refine⟨q,vs,rfl,s,Nr hc.1 hv,Mv hc.2 r,p _ _ (C.fO ?_)⟩
 unfold Rp;rw[Mw hc.1 hv hc.2 r]
theorem ZP {neg:Bool}:aV K (Jp neg) (Ju neg):=fun A st σ H ts Hb ι x y z v u Q C hx hy e p=>by
 unfold Ju at e
 cases x with
 | d a=>
  obtain⟨k,h1,e⟩:=a0a.mp e
  obtain⟨q,h2,e⟩:=a0a.mp e
  cases e
  obtain⟨a',vs,rfl,s,l,r⟩:=C.lQ hy h2
  have hx:Rp K Hb a v:=hx
  rw[nu h1] at hx
  refine⟨a',valV (q.1.zip vs) k,rfl,.inl ⟨_,k,s,oX hx,rfl⟩,p _ _ (C.fO ?_)⟩
  rw[Nt l]
  unfold Rp;rfl
 | o n=>cases e
 | w i=>cases e
theorem ZQ {neg:Bool}:aV K (Jp neg) (Jv neg):=fun A st σ H ts Hb ι x y z v u Q C hx hy e p=>by
 unfold Jv at e
 cases x with
 | d a=>
  obtain⟨k,h1,e⟩:=a0a.mp e
  obtain⟨q,h2,e⟩:=a0a.mp e
  cases e
  obtain⟨a',vs,rfl,s,l,r⟩:=C.dX hy h2
  have hx:Rp K Hb a v:=hx
  rw[nu h1] at hx
  refine⟨a',valV (q.1.zip vs) k,rfl,.inl ⟨_,k,s,oX hx,rfl⟩,p _ _ (C.fO ?_)⟩
  rw[Nt l]
  unfold Rp;rfl
 | o n=>cases e
 | w i=>cases e
theorem ZR {neg:Bool}:aV K (O9 K neg) (Qt neg):=fun A st σ H ts Hb ι x y z v u Q C hx hy e p=>by
 obtain⟨a,h1,e⟩:=a0a.mp e
 obtain⟨b,h2,e⟩:=a0a.mp e
 cases b<;>first|cases e;done|skip
 rename_i ds
 obtain⟨hc,rfl⟩:=ite_some e
 rw[a0r] at hc
 have ha:=iT hc.1
 have hb:=iT hc.2
 have d1:=pJ a v ha.1 (C.snap hx h1)
 have d2:=pJ (.lst ds) u hb.1 (C.snap hy h2)
 have e2:toPy (.lst ds)=.list (dO ds):=by simp only[toPy]
 have s2:=pF hb.1 hb.2
 rw[e2] at d2 s2
 have hb':fL ds=true:=by have:=hb.1;simp only[bf] at this;exact this
 cases neg with
 | false=>
  refine⟨toPy a,dO ds,d1,d2,pF ha.1 ha.2,s2,p _ _ (C.fO ?_)⟩
  unfold Rp;rw[GZ ha.1 hb'];rfl
 | true=>
  refine⟨toPy a,dO ds,d1,d2,pF ha.1 ha.2,s2,p _ _ (C.fO ?_)⟩
  unfold Rp;rw[GZ ha.1 hb'];rfl
theorem aaJ {neg:Bool}:aV K (JX K neg) (kIn neg):=
 aV.or (aV.inr (aV.inr (aV.inl ZL))) (aV.or (aV.inl ZM) (aV.or (aV.inr (aV.inl ZP)) (aV.or (aV.inr (aV.inr (aV.inr ZR))) (aV.inr (aV.inl ZQ)))))
end
def Qv:R→Option Bool
 | .d (.bl b)=>some b
 | _=>none
def tF (f:M R):M Bool:=f.of fun _ r=>Qv r
def ql (st:ST):R→Option Bool
 | .d .non=>some false
 | .d (.bl b)=>some b
 | .d (.int i)=>some (i != 0)
 | .d (.str s)=>if s.length≤16000000 then some ((s.length:Int) != 0) else none
 | r=>(lM st r).map fun ds=>!ds.isEmpty
def tR (f:M R):M Bool:=f.of ql
def qm (f g:M Bool):M Bool:=f.bind fun b=>if b then M.ret true else g
def qp (f:M Bool):M Bool:=f.bind fun b=>M.ret (!b)
section
variable {K:PySem.W.Frag} {W:WX} {te ta tb tc:TE} {tt tu:TT} {f g h:M R} {t u:M Bool}
theorem Yr {σ:L2.St} {ι:List Addr} {Hb:Hp} {r:R} {b:Bool} {v:V} (h:Qv r=some b) (hr:Rt K σ ι Hb r v):v=.bl b:=by
 cases r with
 | d x=>cases x<;>first|cases h;done|(cases h;exact hr)
 | o n=>cases h
 | w i=>cases h
theorem dZ (hf:XE K W te f):XT K W (tTest te) (tF f):=fun A st σ H ts C Q y hy p=>by
 rcases k_ hy with ⟨r,s1,b,h1,h2,rfl⟩|⟨x,s1,h1,rfl⟩
 ·refine hf A st σ H ts C _ _ h1 fun v H1 ⟨Hb,ι,C1⟩=>⟨b,Yr h2 (C1.tmp (rt K σ r v) (by simp)),p H1 ⟨Hb,ι,C1.temps fun q hq=>C1.tmp q (by simp[hq])⟩⟩
 ·exact hf A st σ H ts C _ _ h1 p
theorem ao.ql {A:Ac} {st:ST} {σ:L2.St} {H Hb:Hp} {ts:List Tp} {ι:List Addr} {r:R} {v:V} {b:Bool} (C:ao K A st σ H ts Hb ι) (hr:Rt K σ ι Hb r v) (h:ql st r=some b):TruV K v H b:=by
 have key:(AL.lM st r).map (fun ds=>!ds.isEmpty)=some b→TruV K v H b:=fun h=>by
  obtain⟨ds,hd,rfl⟩:=a0b.mp h
  obtain⟨a,vs,rfl,s,q⟩:=C.lM hr hd
  have e:(!ds.isEmpty)=!vs.isEmpty:=by
   have:=q.len
   cases ds<;>cases vs<;>first|rfl|(simp at this)
  rw[e]
  rcases s with s|s
  ·exact .inl ⟨vs,s,rfl⟩
  ·exact .inr (.inl ⟨vs,s,rfl⟩)
 cases r with
 | d x=>
  cases x<;>first|exact key h|skip
  ·cases h;cases (show v=.non from hr);rfl
  ·cases h;cases (Rp.mY (K:=K) (H:=Hb) hr);rfl
  ·cases h;cases (Rp.jC (K:=K) (H:=Hb) hr);rfl
  ·obtain⟨hl,rfl⟩:=ite_some h
   cases (Rp.dU (K:=K) (H:=Hb) hr)
   exact⟨by rw[a0m];omega,rfl⟩
 | o n=>exact key h
 | w i=>exact key h
theorem Ib (hf:XE K W te f):XT K W (tTru K te) (tR f):=fun A st σ H ts C Q y hy p=>by
 rcases k_ hy with ⟨r,s1,b,h1,h2,rfl⟩|⟨x,s1,h1,rfl⟩
 ·refine hf A st σ H ts C _ _ h1 fun v H1 ⟨Hb,ι,C1⟩=>⟨b,C1.ql (C1.tmp (rt K σ r v) (by simp)) h2,p H1 ⟨Hb,ι,C1.temps fun q hq=>C1.tmp q (by simp[hq])⟩⟩
 ·exact hf A st σ H ts C _ _ h1 p
theorem Pk (ht:XT K W tt t) (hu:XT K W tu u):XT K W (tOr tt tu) (qm t u):=fun A st σ H ts C Q y hy p=>by
 rcases iQ hy with ⟨b,s1,h1,h2⟩|⟨x,s1,h1,rfl⟩
 ·refine ht A st σ H ts C _ _ h1 fun H1 C1=>?_
  cases b with
  | true=>rw[a0d rfl] at h2 ⊢;cases h2;exact p H1 C1
  | false=>rw[a0j b0c] at h2 ⊢;exact hu A s1 σ H1 ts C1 Q _ h2 p
 ·exact ht A st σ H ts C _ _ h1 p
theorem Om (ht:XT K W tt t):XT K W (tNot tt) (qp t):=fun A st σ H ts C Q y hy p=>by
 rcases iQ hy with ⟨b,s1,h1,h2⟩|⟨x,s1,h1,rfl⟩
 ·cases h2
  exact ht A st σ H ts C _ _ h1 fun H1 C1=>p H1 C1
 ·exact ht A st σ H ts C _ _ h1 p
theorem Ie:XT K W tYes (M.ret true):=fun A st σ H ts C Q y hy p=>by cases hy;exact p H C
theorem Cf.bl {A:Ac} {st:ST} {σ:L2.St} {H:Hp} {ts:List Tp} {b:Bool} (C:Cf K A st σ H ts):Cf K A st σ H (rt K σ (.d (.bl b)) (.bl b)::ts):=C.temps fun q hq=>(a0c.mp hq).elim (fun e=>.inr fun ι Hb=>by rw[e];show Rp K Hb _ _;unfold Rp;rfl) .inl
end
def iD:R→Bool
 | .w _=>false
 | _=>true
def wF (rs:List R):Option Ob:=match d7 rs with
 | some ds=>some (.lst ds)
 | none=>if rs.all iD then some (.cR rs) else none
def dh (f:M (List R)):M Ob:=f.of fun _ rs=>if rs.length≤16000000 then wF rs else none
def dG (f:M Ob):M R:=f.of fun _ b=>(iI b).map .d
section
variable {K:PySem.W.Frag} {W:WX} {A:Ac} {st:ST} {σ:L2.St} {H Hb:Hp} {ts:List Tp} {ι:List Addr} {te ta tb:TE} {tar:TA} {f g:M R} {fa:M (List R)} {n:M Ob}
theorem Nu:∀{rs:List R} {ds:List D} {vs:List V},d7 rs=some ds→Paired (fun r v=>Rt K σ ι Hb r v) rs vs→aj K Hb ds vs
 | [],ds,vs,h,r=>by cases h;cases r;exact aj.nil
 | .d x::rs,ds,vs,h,r=>by
  unfold d7 at h
  cases q:d7 rs with
  | none=>rw[q] at h;cases h
  | some es=>
   rw[q] at h;cases h
   cases r with
   | cons a b=>exact aj.cons a (Nu q b)
 | .o _::_,ds,vs,h,r=>by cases h
 | .w _::_,ds,vs,h,r=>by cases h
theorem vM:∀{rs:List R} {vs:List V},rs.all iD=true→Paired (fun r v=>Rt K σ ι Hb r v) rs vs→bB K ι Hb rs vs
 | [],vs,h,r=>by cases r;exact .nil
 | x::rs,vs,h,r=>by
  cases r with
  | cons a b=>
   rw[b0m,a0r] at h
   refine .cons ?_ (vM h.2 b)
   cases x with
   | d x=>exact a
   | o n=>exact a
   | w i=>exact absurd h.1 b0c
theorem dJ (hf:XA K W tar fa):XN K W (tLst tar) (dh fa):=fun A st σ H ts C Q y hy p=>by
 rcases k_ hy with ⟨rs,s1,b,h1,h2,rfl⟩|⟨x,s1,h1,rfl⟩
 ·refine hf A st σ H ts C _ _ h1 fun vs H1 ⟨Hb,ι,C1⟩=>?_
  have r:Paired (fun r v=>Rt K σ ι Hb r v) rs vs:=C1.tmp (iH K σ rs vs) (by simp)
  have C2:ao K A s1 σ H1 ts Hb ι:=C1.temps fun q hq=>C1.tmp q (by simp[hq])
  have h2:(if rs.length≤16000000 then wF rs else none)=some b:=h2
  by_cases hl:rs.length≤16000000
  ·rw[a0d hl] at h2
   have hlen:=Paired.length r
   refine⟨by rw[← hlen,a0m];omega,fun q hq=>p _ _ ?_⟩
   unfold wF at h2
   cases e:d7 rs with
   | some ds=>rw[e] at h2;cases h2;exact C2.made hq ⟨vs,rfl,Nu e r⟩
   | none=>
    rw[e] at h2
    obtain⟨hw,rfl⟩:=ite_some h2
    exact C2.made hq ⟨vs,rfl,vM hw r⟩
  ·rw[a0j hl] at h2;cases h2
 ·exact hf A st σ H ts C _ _ h1 p
theorem fB (hn:XN K W te n):XE K W te (dG n):=fun A st σ H ts C Q y hy p=>by
 rcases k_ hy with ⟨b,s1,r,h1,h2,rfl⟩|⟨x,s1,h1,rfl⟩
 ·obtain⟨d,hd,rfl⟩:=a0b.mp h2
  exact hn A st σ H ts C _ _ h1 fun v H1 C1=>p v H1 (C1.frz fun ι Hb a u hu hb=>H_ hd hu (Ex.new hb).rl a0w)
 ·exact hn A st σ H ts C _ _ h1 p
def uL (K:PySem.W.Frag) (r:List V→Hp→VK→Prop) (g:ST→List R→Option R):Prop:=∀A st σ H ts Hb ι xs z vs (Q:VK),ao K A st σ H ts Hb ι→Paired (fun r v=>Rt K σ ι Hb r v) xs vs→g st xs=some z→(∀w H2,Cf K A st σ H2 (rt K σ z w::ts)→Q w H2)→r vs H Q
def Q6 (K:PySem.W.Frag) (r:List V→Hp→VK→Prop) (g:ST→List R→Option Ob):Prop:=∀A st σ H ts Hb ι xs z vs (Q:VK),ao K A st σ H ts Hb ι→Paired (fun r v=>Rt K σ ι Hb r v) xs vs→g st xs=some z→(∀w H2,g8 K A st σ H2 ts z w→Q w H2)→r vs H Q
theorem gW {r:List V→Hp→VK→Prop} {k:ST→List R→Option R} (hk:uL K r k) (hf:XA K W tar fa):XE K W (tCB r tar) (fa.of k):=fun A st σ H ts C Q y hy p=>by
 rcases k_ hy with ⟨rs,s1,b,h1,h2,rfl⟩|⟨x,s1,h1,rfl⟩
 ·exact hf A st σ H ts C _ _ h1 fun vs H1 ⟨Hb,ι,C1⟩=>hk A s1 σ H1 ts Hb ι rs b vs Q (C1.temps fun q hq=>C1.tmp q (by simp[hq])) (C1.tmp (iH K σ rs vs) (by simp)) h2 p
 ·exact hf A st σ H ts C _ _ h1 p
theorem ZS {r:List V→Hp→VK→Prop} {k:ST→List R→Option Ob} (hk:Q6 K r k) (hf:XA K W tar fa):XN K W (tCB r tar) (fa.of k):=fun A st σ H ts C Q y hy p=>by
 rcases k_ hy with ⟨rs,s1,b,h1,h2,rfl⟩|⟨x,s1,h1,rfl⟩
 ·exact hf A st σ H ts C _ _ h1 fun vs H1 ⟨Hb,ι,C1⟩=>hk A s1 σ H1 ts Hb ι rs b vs Q (C1.temps fun q hq=>C1.tmp q (by simp[hq])) (C1.tmp (iH K σ rs vs) (by simp)) h2 p
 ·exact hf A st σ H ts C _ _ h1 p
def aaK:D→Option Nat
 | .lst ds=>some ds.length
 | .tup ds=>some ds.length
 | .dB ns=>some ns.length
 | .str s=>if s.length≤16000000 then some s.length else none
 | .bO ks _=>some ks.length
 | _=>none
def kLen:ST→List R→Option R:=fun st xs=>match xs with
 | [x]=>((snap st x).bind aaK).map fun(n:Nat)=>R.d (.int (n:Int))
 | _=>none
def IV:ST→List R→Option R:=fun st xs=>match xs with
 | [x]=>(cR st x).map fun ys=>R.d (.int (ys.length:Int))
 | _=>none
def qZ:ST→List R→Option R:=fun st xs=>(kLen st xs).or (IV st xs)
def fP:ST→List R→Option R:=fun _ xs=>match xs with
 | [.d (.int i)]=>some (.d (.int i))
 | [.d (.bl b)]=>some (.d (.int (if b then 1 else 0)))
 | _=>none
theorem mO {F:R→V→Prop} {x:R} {vs:List V} (h:Paired F [x] vs):∃v,vs=[v]∧F x v:=by
 cases h with
 | cons a b=>cases b;exact⟨_,rfl,a⟩
theorem Pn {F:R→V→Prop} {x y:R} {vs:List V} (h:Paired F [x,y] vs):∃v u,vs=[v,u]∧F x v∧F y u:=by
 cases h with
 | cons a b=>obtain⟨u,rfl,c⟩:=mO b;exact⟨_,u,rfl,a,c⟩
theorem Ys:uL K (qT K) kLen:=fun A st σ H ts Hb ι xs z vs Q C r e p=>by
 unfold kLen at e
 split at e
 ·rename_i x
  obtain⟨v,rfl,hr⟩:=mO r
  obtain⟨n,e1,rfl⟩:=a0b.mp e
  clear e
  obtain⟨a,ha,e⟩:=a0a.mp e1
  have hv:=C.snap hr ha
  have fin:∀m:Nat,m=n→Q (.int m) H:=fun m hm=>by subst hm;exact p _ _ (C.fO (by unfold Rp;rfl))
  cases a<;>first|cases e;done|skip
  ·obtain⟨hl,rfl⟩:=ite_some e
   cases (Rp.dU hv)
   exact .inl ⟨_,_,rfl,⟨by rw[a0m];omega,rfl⟩,fin _ rfl⟩
  ·cases e
   unfold Rp at hv
   obtain⟨a,us,rfl,s,rr⟩:=hv
   exact .inl ⟨_,_,rfl,.inl ⟨us,.inl s,rr.len⟩,fin _ rfl⟩
  ·cases e
   unfold Rp at hv
   obtain⟨a,us,rfl,s,rr⟩:=hv
   exact .inl ⟨_,_,rfl,.inr ⟨us,s,rr.len⟩,fin _ rfl⟩
  ·cases e
   unfold Rp at hv
   obtain⟨a,rfl,s⟩:=hv
   exact .inl ⟨_,_,rfl,.inl ⟨_,s,(a0P _).symm⟩,fin _ rfl⟩
  ·cases e
   unfold Rp at hv
   obtain⟨a,us,rfl,s,hl,rr⟩:=hv
   exact .inr ⟨a,_,rfl,s,fin _ (by rw[List.length_zip,← hl,Nat.min_self])⟩
 ·cases e
theorem Yt:uL K (qT K) IV:=fun A st σ H ts Hb ι xs z vs Q C r e p=>by
 unfold IV at e
 split at e
 ·rename_i x
  obtain⟨v,rfl,hr⟩:=mO r
  obtain⟨ys,e1,rfl⟩:=a0b.mp e
  obtain⟨a,us,rfl,s,rr⟩:=C.cR hr e1
  exact .inl ⟨_,ys.length,rfl,.inl ⟨us,.inl (.inl s),Paired.length rr⟩,p _ _ (C.fO (by unfold Rp;rfl))⟩
 ·cases e
theorem x_len:uL K (qT K) qZ:=fun A st σ H ts Hb ι xs z vs Q C r e p=>by
 unfold qZ at e
 cases q:kLen st xs with
 | some w=>rw[q] at e;cases e;exact Ys A st σ H ts Hb ι xs _ vs Q C r q p
 | none=>rw[q] at e;exact Yt A st σ H ts Hb ι xs z vs Q C r e p
theorem iU:uL K Jq fP:=fun A st σ H ts Hb ι xs z vs Q C r e p=>by
 unfold fP at e
 split at e
 ·cases e
  obtain⟨v,rfl,hr⟩:=mO r
  cases (Rp.jC (K:=K) (H:=Hb) hr)
  exact .inl ⟨_,rfl,p _ _ (C.fO (by unfold Rp;rfl))⟩
 ·cases e
  obtain⟨v,rfl,hr⟩:=mO r
  cases (Rp.mY (K:=K) (H:=Hb) hr)
  exact .inr ⟨_,rfl,p _ _ (C.fO (by unfold Rp;rfl))⟩
 ·cases e
def kList:ST→List R→Option Ob:=fun st xs=>match xs with
 | [x]=>match lM st x with
  | some ds=>some (.lst ds)
  | none=>(lQ st x).map fun p=>.lst (p.1.map kD)
 | _=>none
theorem W9:Q6 K (Iu K) kList:=fun A st σ H ts Hb ι xs z vs Q C r e p=>by
 unfold kList at e
 split at e
 ·rename_i x
  obtain⟨v,rfl,hv⟩:=mO r
  split at e
  ·rename_i ds hds
   cases e
   obtain⟨a,us,rfl,s,q⟩:=C.lM hv hds
   exact .inl ⟨a,us,rfl,s,fun l hl=>p _ _ (C.made hl ⟨us,rfl,q⟩)⟩
  ·obtain⟨q,hq,rfl⟩:=a0b.mp e
   obtain⟨a,us,rfl,s,hl,rr⟩:=C.lQ hv hq
   exact .inr ⟨a,_,rfl,s,fun l hh=>p _ _ (C.made hh ⟨_,rfl,Nf hl⟩)⟩
 ·cases e
def PoO (K:PySem.W.Frag) (W:WX) (A:Ac) (σ:L2.St) (ts:List Tp) (Q:Option Int→Hp→Prop):Rx (Option Int)→Prop
 | .ok b st=>∀H2,Cf K A st σ H2 ts→Q b H2
 | .ex x st=>∀cls d H2,XO K A ts x st cls d σ H2→W cls d σ H2
def XP (K:PySem.W.Frag) (W:WX) (to:TO) (f:M (Option Int)):Prop:=∀A st σ H ts,Cf K A st σ H ts→∀Q y,f st=some y→PoO K W A σ ts Q y→to σ H Q
end
inductive Rs where
 | nx (st:ST)|rt (r:R) (st:ST)|rn (b:Ob) (st:ST)|bk (st:ST)|ct (st:ST)|ex (x:XD) (st:ST)
abbrev S:=ST→Option Rs
section
variable (K:PySem.W.Frag) (W:WX)
def uM (A:Ac) (fs:List Tp) (T:Ends):Rs→Prop
 | .nx st=>∀σ H,Cf K A st σ H fs→T.nx σ H
 | .bk st=>∀σ H,Cf K A st σ H fs→T.bk σ H
 | .ct st=>∀σ H,Cf K A st σ H fs→T.ct σ H
 | .rt r st=>∀σ v H,Cf K A st σ H (rt K σ r v::fs)→T.rt v H
 | .rn b st=>∀σ v H,g8 K A st σ H fs b v→T.rt v H
 | .ex x st=>∀cls d σ H,XO K A fs x st cls d σ H→W cls d σ H
def XS (ts:TS) (g:S):Prop:=∀A st σ H fs,Cf K A st σ H fs→∀T y,g st=some y→uM K W A fs T y→ts T σ H
def PoG (A:Ac) (σ:L2.St) (ts:List Tp) (Q:L2.St→Hp→Prop):Rx Unit→Prop
 | .ok _ st=>∀σ2 H2,Cf K A st σ2 H2 ts→Q σ2 H2
 | .ex x st=>∀cls d H2,XO K A ts x st cls d σ H2→W cls d σ H2
abbrev G:=R→M Unit
def XG (g:TG) (k:G):Prop:=∀A st σ H ts r v,Cf K A st σ H (rt K σ r v::ts)→∀Q y,k r st=some y→PoG K W A σ ts Q y→g v σ H Q
end
def aM:S:=fun st=>some (.nx st)
def aq (a b:S):S:=fun st=>match a st with
 | some (.nx st')=>b st'
 | o=>o
def bL (t:M Bool) (a b:S):S:=fun st=>match t st with
 | some (.ok true st')=>a st'
 | some (.ok false st')=>b st'
 | some (.ex x st')=>some (.ex x st')
 | none=>none
def lD (f:M R):S:=fun st=>match f st with
 | some (.ok _ st')=>some (.nx st')
 | some (.ex x st')=>some (.ex x st')
 | none=>none
def iG (f:M R):S:=fun st=>match f st with
 | some (.ok r st')=>some (.rt r st')
 | some (.ex x st')=>some (.ex x st')
 | none=>none
def jU (f:M Ob):S:=fun st=>match f st with
 | some (.ok b st')=>some (.rn b st')
 | some (.ex x st')=>some (.ex x st')
 | none=>none
def cV (f:M R) (k:G):S:=fun st=>match f st with
 | some (.ok r st1)=>(match k r st1 with
  | some (.ok _ st2)=>some (.nx st2)
  | some (.ex x s)=>some (.ex x s)
  | none=>none)
 | some (.ex x s)=>some (.ex x s)
 | none=>none
def oZ (i:Nat) (f:M Ob):S:=fun st=>match f st with
 | some (.ok b st')=>some (.nx ⟨st'.s.set i (.own b),st'.h⟩)
 | some (.ex x st')=>some (.ex x st')
 | none=>none
section
variable {K:PySem.W.Frag} {W:WX} {t1 t2:TS} {g1 g2:S} {tt:TT} {t:M Bool} {te to ti:TE} {f fo fi:M R} {n:M Ob} {g:TG} {k:G} {i:Nat}
theorem aX:XS K W tNext aM:=fun A st σ H fs C T y h p=>by cases h;exact p σ H C
theorem aK (h1:XS K W t1 g1) (h2:XS K W t2 g2):XS K W (tSeq t1 t2) (aq g1 g2):=fun A st σ H fs C T y h p=>by
 unfold aq at h
 cases e:g1 st with
 | none=>rw[e] at h;cases h
 | some z=>
  rw[e] at h
  refine h1 A st σ H fs C {T with nx:=t2 T} z e ?_
  cases z with
  | nx st'=>exact fun σ' H' C'=>h2 A st' σ' H' fs C' T y h p
  | rt r st'=>cases h;exact p
  | rn r st'=>cases h;exact p
  | bk st'=>cases h;exact p
  | ct st'=>cases h;exact p
  | ex x st'=>cases h;exact p
theorem dR (ht:XT K W tt t) (h1:XS K W t1 g1) (h2:XS K W t2 g2):XS K W (tIfS tt t1 t2) (bL t g1 g2):=fun A st σ H fs C T y h p=>by
 unfold bL at h
 cases e:t st with
 | none=>rw[e] at h;cases h
 | some z=>
  rw[e] at h
  cases z with
  | ex x st'=>cases h;exact ht A st σ H fs C _ _ e fun cls d H2 X=>p cls d σ H2 X
  | ok b st'=>
   refine ht A st σ H fs C _ _ e fun H1 C1=>?_
   cases b with
   | true=>rw[a0d rfl];exact h1 A st' σ H1 fs C1 T y h p
   | false=>rw[a0j b0c];exact h2 A st' σ H1 fs C1 T y h p
theorem Hg (hf:XE K W te f):XS K W (tDrop te) (lD f):=fun A st σ H fs C T y h p=>by
 unfold lD at h
 cases e:f st with
 | none=>rw[e] at h;cases h
 | some z=>
  rw[e] at h
  cases z with
  | ex x st'=>cases h;exact hf A st σ H fs C _ _ e fun cls d H2 X=>p cls d σ H2 X
  | ok r st'=>cases h;exact hf A st σ H fs C _ _ e fun v H1 C1=>p σ H1 C1.drop
theorem qL (hf:XE K W te f):XS K W (tRet te) (iG f):=fun A st σ H fs C T y h p=>by
 unfold iG at h
 cases e:f st with
 | none=>rw[e] at h;cases h
 | some z=>
  rw[e] at h
  cases z with
  | ex x st'=>cases h;exact hf A st σ H fs C _ _ e fun cls d H2 X=>p cls d σ H2 X
  | ok r st'=>cases h;exact hf A st σ H fs C _ _ e fun v H1 C1=>p σ v H1 C1
theorem oH (hf:XN K W te n):XS K W (tRet te) (jU n):=fun A st σ H fs C T y h p=>by
 unfold jU at h
 cases e:n st with
 | none=>rw[e] at h;cases h
 | some z=>
  rw[e] at h
  cases z with
  | ex x st'=>cases h;exact hf A st σ H fs C _ _ e fun cls d H2 X=>p cls d σ H2 X
  | ok r st'=>cases h;exact hf A st σ H fs C _ _ e fun v H1 C1=>p σ v H1 C1
theorem d_ (hf:XE K W te f) (hg:XG K W g k):XS K W (tAsg te g) (cV f k):=fun A st σ H fs C T y h p=>by
 unfold cV at h
 cases e:f st with
 | none=>rw[e] at h;cases h
 | some z=>
  rw[e] at h
  cases z with
  | ex x st'=>cases h;exact hf A st σ H fs C _ _ e fun cls d H2 X=>p cls d σ H2 X
  | ok r st'=>
   refine hf A st σ H fs C _ _ e fun v H1 C1=>?_
   cases e2:k r st' with
   | none=>simp only[e2] at h;cases h
   | some z=>
    simp only[e2] at h
    cases z with
    | ex x s=>cases h;exact hg A st' σ H1 fs r v C1 _ _ e2 fun cls d H2 X=>p cls d σ H2 X
    | ok _ s=>cases h;exact hg A st' σ H1 fs r v C1 _ _ e2 fun σ2 H2 C2=>p σ2 H2 C2
theorem Ig (hn:XN K W te n):XS K W (tAsg te (gName i)) (oZ i n):=fun A st σ H fs C T y h p=>by
 unfold oZ at h
 cases e:n st with
 | none=>rw[e] at h;cases h
 | some z=>
  rw[e] at h
  cases z with
  | ex x st'=>cases h;exact hn A st σ H fs C _ _ e fun cls d H2 X=>p cls d σ H2 X
  | ok b st'=>cases h;exact hn A st σ H fs C _ _ e fun v H1 C1=>p _ H1 (C1.qY i)
def gN (i:Nat):G:=fun r st=>match r with
 | .w _=>none
 | r=>some (.ok () ⟨st.s.set i (.v r),st.h⟩)
theorem d9:XG K W (gName i) (gN i):=fun A st σ H ts r v ⟨Hb,ι,C⟩ Q y h p=>by
 have hr:Rt K σ ι Hb r v:=C.tmp (rt K σ r v) (by simp)
 have C2:ao K A st σ H ts Hb ι:=C.temps fun q hq=>C.tmp q (by simp[hq])
 cases r with
 | w j=>cases h
 | d x=>cases h;exact p _ H ⟨Hb,ι,C2.qX (r:=.d x) hr i⟩
 | o n=>cases h;exact p _ H ⟨Hb,ι,C2.qX (r:=.o n) hr i⟩
def J_ (K:PySem.W.Frag) (ds:List D) (vs:List V):Tp:=⟨fun ι Hb=>aj K Hb ds vs,fun _ _ _ _ _ rl h=>aj.mono rl _ _ h,fun _ _ _ _ _ _ h=>h⟩
def Ka (K:PySem.W.Frag) (g:TG) (k:G):Prop:=∀A st σ H ts r v,Cf K A st σ H (rt K σ r v::ts)→∀(Q:L2.St→Hp→Prop) st',k r st=some (.ok () st')→(∀σ2 H2,Cf K A st' σ2 H2 ts→Q σ2 H2)→g v σ H Q
theorem G3:Ka K (gName i) (gN i):=fun A st σ H ts r v C Q st' h p=>d9 (W:=fun _ _ _ _=>True) A st σ H ts r v C Q _ h p
end
def qP (st:ST) (r:R) (b:Ob):ST:=match r with
 | .o n=>⟨st.s,st.h.set n b⟩
 | .w i=>⟨st.s.set i (.own b),st.h⟩
 | .d _=>st
section
variable {K:PySem.W.Frag} {W:WX} {A:Ac} {st:ST} {σ:L2.St} {H Hb:Hp} {ts:List Tp} {ι:List Addr} {r:R} {v:V} {b b':Ob} {u':HO} {te to ti tv:TE} {ta:TA} {f g fo fi fv:M R} {fa:M (List R)}
theorem ao.put (C:ao K A st σ H ts Hb ι) {a:Addr} (hr:Rt K σ ι Hb r (.ref a)) (h:bK st r=some b) (hu:dY K ι Hb b' u') (hz:∀u,H a=some u→lB u=false) (hz':lB u'=false:=by rfl):ao K A (qP st r b') σ (upd H a u') ts Hb ι:=by
 cases r with
 | d x=>cases h
 | o n=>
  obtain⟨a',e,z⟩:=hr
  cases z
  exact C.aaG h e hu hz
 | w i=>
  simp only[bK] at h
  cases q:st.s[i]? with
  | none=>rw[q] at h;cases h
  | some sv=>
   rw[q] at h
   cases sv with
   | no=>cases h
   | v r=>cases h
   | own c=>exact C.aaF q hr hu hz'
def Qw:Ob→R→Option Ob
 | .lst ds,.d x=>if ds.length<16000000 then some (.lst (ds++[x])) else none
 | .lst [],.o n=>some (.cR [.o n])
 | .cR xs,.d x=>if xs.length<16000000 then some (.cR (xs++[.d x])) else none
 | .cR xs,.o n=>if xs.length<16000000 then some (.cR (xs++[.o n])) else none
 | _,_=>none
def rA (st:ST) (r:R):Bool:=match bK st r with
 | some (.lst _)=>true
 | some (.cR _)=>true
 | _=>false
def rP (f:M R) (fa:M (List R)) (k:ST→R→List R→Option (R×ST)):M R:=f.bind fun t st1=>if rA st1 t then(fa.bind fun rs st=>(k st t rs).map fun p=>.ok p.1 p.2) st1 else none
def pP:ST→R→List R→Option (R×ST):=fun st t rs=>match rs with
 | [r]=>(bK st t).bind fun b=>(Qw b r).map fun b'=>(.d .non,qP st t b')
 | _=>none
theorem Paired.IW {xs:List R} {vs:List V} {x:R} {v:V} (h:bB K ι Hb xs vs) (hx:RV K ι Hb x v):bB K ι Hb (xs++[x]) (vs++[v]):=Paired.snoc h hx
theorem W_ {A:Ac} {st:ST} {σ:L2.St} {H Hb:Hp} {ts:List Tp} {ι:List Addr} {t:R} {v:V} (C:ao K A st σ H ts Hb ι) (hr:Rt K σ ι Hb t v) (h:rA st t=true):tyV K "list" v H:=by
 unfold rA at h
 cases q:bK st t with
 | none=>rw[q] at h;cases h
 | some b=>
  rw[q] at h
  obtain⟨a,u,rfl,h1,h2,_⟩:=C.at hr q
  cases b<;>first|cases h;done|(obtain⟨vs,rfl,_⟩:=h2;exact .inl ⟨rfl,vs,.inl (.inl h1)⟩)
def Q7 (K:PySem.W.Frag) (r:V→List V→Hp→VK→Prop) (k:ST→R→List R→Option (R×ST)):Prop:=∀A st σ H ts Hb ι t rs z v vs (Q:VK),ao K A st σ H ts Hb ι→Rt K σ ι Hb t v→Paired (fun r v=>Rt K σ ι Hb r v) rs vs→k st t rs=some z→(∀w H2,Cf K A z.2 σ H2 (rt K σ z.1 w::ts)→Q w H2)→r v vs H Q
theorem Qx {rr:V→List V→Hp→VK→Prop} {k:ST→R→List R→Option (R×ST)} (hk:Q7 K rr k) (hf:XE K W to f) (ha:XA K W ta fa):XE K W (tBM K "list" rr to ta) (rP f fa k):=fun A st σ H ts C Q y hy p=>by
 rcases iQ hy with ⟨t,s1,h1,h2⟩|⟨x,s1,h1,rfl⟩
 ·refine hf A st σ H ts C _ _ h1 fun v H1 C1=>?_
  obtain⟨jH,jJ,wR⟩:=id C1
  cases q:rA s1 t with
  | false=>simp only[q] at h2;cases h2
  | true=>
   simp only[q,a0W] at h2
   refine⟨W_ wR (wR.tmp (rt K σ t v) (by simp)) q,?_⟩
   rcases iQ h2 with ⟨rs,s2,h3,h4⟩|⟨x,s2,h3,rfl⟩
   ·refine ha A s1 σ H1 _ C1 _ _ h3 fun vs H2 ⟨Hb,ι,C2⟩=>?_
    cases e:k s2 t rs with
    | none=>simp only[e] at h4;cases h4
    | some z=>
     simp only[e] at h4
     cases h4
     exact hk A s2 σ H2 ts Hb ι t rs z v vs Q (C2.temps fun q hq=>C2.tmp q (by simp[hq])) (C2.tmp (rt K σ t v) (by simp)) (C2.tmp (iH K σ rs vs) (by simp)) e p
   ·exact ha A s1 σ H1 _ C1 _ _ h3 fun cls d H2 X=>p cls d H2 X.drop
 ·exact hf A st σ H ts C _ _ h1 p
theorem Cf.non {A:Ac} {st:ST} {σ:L2.St} {H:Hp} {ts:List Tp} (C:Cf K A st σ H ts):Cf K A st σ H (rt K σ (.d .non) .non::ts):=C.temps fun q hq=>(a0c.mp hq).elim (fun e=>.inr fun ι Hb=>by rw[e];show Rp K Hb _ _;unfold Rp;rfl) .inl
theorem Pq:Q7 K rAppend pP:=fun A st σ H ts Hb ι t rs z v vs Q C ht hr e p=>by
 unfold pP at e
 split at e
 ·rename_i r
  obtain⟨u,rfl,hu⟩:=mO hr
  obtain⟨b,hb,e⟩:=a0a.mp e
  obtain⟨b',hb',rfl⟩:=a0b.mp e
  obtain⟨a,u0,rfl,h1,h2,_⟩:=C.at ht hb
  have go:∀{xs:List V},u0=.lst xs→xs.length<sizeLine→dY K ι Hb b' (.lst (xs++[u]))→rAppend (.ref a) [u] H Q:=fun {xs} e0 hl ho=>
   ⟨a,xs,u,rfl,rfl,by rw[← e0];exact h1,hl,p _ _ (Cf.non ⟨Hb,ι,C.put ht hb ho fun z hz=>by rw[h1,e0] at hz;cases hz;rfl⟩)⟩
  cases b with
  | lst ds=>
   obtain⟨xs,e0,q⟩:=h2
   cases r with
   | d x=>
    obtain⟨hl,rfl⟩:=ite_some hb'
    exact go e0 (by rw[← q.len,a0m];omega) ⟨_,rfl,q.app (aj.one hu)⟩
   | o n=>
    cases ds with
    | nil=>cases hb';rw[aj.oW q] at e0;exact go e0 (by rw[a0m];decide) ⟨_,rfl,.cons hu .nil⟩
    | cons d ds=>cases hb'
   | w i=>cases ds<;>cases hb'
  | cR ys=>
   obtain⟨xs,e0,q⟩:=h2
   cases r with
   | d x=>
    obtain⟨hl,rfl⟩:=ite_some hb'
    exact go e0 (by rw[← Paired.length q,a0m];omega) ⟨_,rfl,Paired.IW q hu⟩
   | o n=>
    obtain⟨hl,rfl⟩:=ite_some hb'
    exact go e0 (by rw[← Paired.length q,a0m];omega) ⟨_,rfl,Paired.IW q hu⟩
   | w i=>cases hb'
  | _=>cases r<;>cases hb'
 ·cases e
def uz:TSet:=fun o i v H Q=>rSetL o i v H Q∨rSetD o i v H Q
theorem PSet.or {X:Cx} {t t':TSet} (h:PSet X t) (h':PSet X t'):PSet X (fun o i v H Q=>t o i v H Q∨t' o i v H Q):=fun pins s σ H o i v ov iv u Q I r1 r2 r3 q=>q.elim (h pins s σ H o i v ov iv u Q I r1 r2 r3) (h' pins s σ H o i v ov iv u Q I r1 r2 r3)
theorem Xa {X:Cx} {k:Nat} (hr:Room k X.A):PSet X uz:=PSet.or set_list (set_dict (hu_of hr))
def uD (ks:List Key) (xs:List R) (k:Key) (r:R):List R:=if k∈ks then List.zipWith (fun k' x'=>if k'=k then r else x') ks xs else xs++[r]
def qY (b:Ob) (i r:R):Option Ob:=match b,i,r with
 | .lst ds,.d (.int k),.d x=>(ixN ds.length k).map fun j=>.lst (ds.set j x)
 | .cR xs,.d (.int k),.o n=>(ixN xs.length k).map fun j=>.cR (xs.set j (.o n))
 | .cR xs,.d (.int k),.d x=>(ixN xs.length k).map fun j=>.cR (xs.set j (.d x))
 | .bO ks ds,.d y,.d x=>(keyD y).bind fun k=>if ks.length<16000000 then some (.bO (nO ks k) (Iv ks ds k x)) else none
 | .bO ks ds,.d y,.o n=>(keyD y).bind fun k=>if ks.length<16000000 then some (.dX (nO ks k) (uD ks (ds.map .d) k (.o n))) else none
 | .dX ks xs,.d y,.d x=>(keyD y).bind fun k=>if ks.length<16000000 then some (.dX (nO ks k) (uD ks xs k (.d x))) else none
 | .dX ks xs,.d y,.o n=>(keyD y).bind fun k=>if ks.length<16000000 then some (.dX (nO ks k) (uD ks xs k (.o n))) else none
 | _,_,_=>none
def gS (fo fi:M R):G:=fun r=>fo.bind fun o=>fi.bind fun i st=>(bK st o).bind fun b=>(qY b i r).map fun b'=>.ok () (qP st o b')
theorem bB.set {xs:List R} {vs:List V} {x:R} {v:V} (h:bB K ι Hb xs vs) (hx:RV K ι Hb x v):∀j,bB K ι Hb (xs.set j x) (vs.set j v):=by
 induction h with
 | nil=>intro j;exact .nil
 | cons a b ih=>
  intro j
  cases j with
  | zero=>exact .cons hx b
  | succ j=>exact .cons a (ih j)
theorem Xb {ks:List Key} {k:Key} {d:D} {v:V} (hd:Rp K Hb d v):∀{ds:List D} {vs:List V},aj K Hb ds vs→aj K Hb (List.zipWith (fun k' d'=>if k'=k then d else d') ks ds) (List.zipWith (fun k' v'=>if k'=k then v else v') ks vs):=by
 induction ks with
 | nil=>intro ds vs _;simp;exact aj.nil
 | cons q ks ih=>
  intro ds vs r
  cases ds with
  | nil=>rw[aj.oW r];simp;exact aj.nil
  | cons e ds=>
   obtain⟨w,t,rfl,p,q'⟩:=aj.oO r
   simp only[b0e]
   refine aj.cons ?_ (ih q')
   by_cases z:q=k
   ·rw[a0d z,a0d z];exact hd
   ·rw[a0j z,a0j z];exact p
theorem Xc {ks:List Key} {k:Key} {x:R} {v:V} (hd:RV K ι Hb x v):∀{xs:List R} {vs:List V},bB K ι Hb xs vs→bB K ι Hb (List.zipWith (fun k' d'=>if k'=k then x else d') ks xs) (List.zipWith (fun k' v'=>if k'=k then v else v') ks vs):=by
 induction ks with
 | nil=>intro xs vs _;simp;exact .nil
 | cons q ks ih=>
  intro xs vs r
  cases r with
  | nil=>simp;exact .nil
  | cons a b=>
   simp only[b0e]
   refine .cons ?_ (ih b)
   by_cases z:q=k
   ·rw[a0d z,a0d z];exact hd
   ·rw[a0j z,a0j z];exact a
theorem Hh {ks:List Key} {k:Key} {xs:List R} {vs:List V} {x:R} {v:V} (r:bB K ι Hb xs vs) (hx:RV K ι Hb x v):bB K ι Hb (uD ks xs k x) (if k∈ks then List.zipWith (fun k' v'=>if k'=k then v else v') ks vs else vs++[v]):=by
 unfold uD
 by_cases z:k∈ks
 ·rw[a0d z,a0d z];exact Xc hx r
 ·rw[a0j z,a0j z];exact Paired.IW r hx
theorem Xd {ks:List Key} {k:Key} {ds:List D} {vs:List V} {x:D} {v:V} (r:aj K Hb ds vs) (hx:Rp K Hb x v):aj K Hb (Iv ks ds k x) (if k∈ks then List.zipWith (fun k' v'=>if k'=k then v else v') ks vs else vs++[v]):=by
 unfold Iv
 by_cases z:k∈ks
 ·rw[a0d z,a0d z];exact Xb hx r
 ·rw[a0j z,a0j z];exact r.app (aj.one hx)
theorem vJ {ks:List Key} {k:Key} {vs:List V} {v:V} (hl:ks.length=vs.length):(nO ks k).length=(if k∈ks then List.zipWith (fun k' v'=>if k'=k then v else v') ks vs else vs++[v]).length:=by
 unfold nO
 by_cases z:k∈ks
 ·rw[a0d z,a0d z,List.length_zipWith,← hl,Nat.min_self]
 ·rw[a0j z,a0j z];simp[hl]
theorem Yu {A:Ac} {st:ST} {σ:L2.St} {H Hb:Hp} {ts:List Tp} {ι:List Addr} {o i r:R} {vo vi vr:V} {b b':Ob} {Q:Hp→Prop} (C:ao K A st σ H ts Hb ι) (ho:Rt K σ ι Hb o vo) (hi:Rt K σ ι Hb i vi) (hr:Rt K σ ι Hb r vr)
  (hb:bK st o=some b) (hs:qY b i r=some b') (p:∀H2,Cf K A (qP st o b') σ H2 ts→Q H2):uz vo vi vr H Q:=by
 obtain⟨a,u0,rfl,h1,h2,_⟩:=C.at ho hb
 have lst:∀{xs:List V} {k:Int} {j:Nat},u0=.lst xs→vi=.int k→ixN xs.length k=some j→dY K ι Hb b' (.lst (xs.set j vr))→uz (.ref a) vi vr H Q:=fun {xs k j} e0 e1 hj hu=>
  .inl ⟨a,xs,k,j,rfl,e1,by rw[← e0];exact h1,hj,p _ ⟨Hb,ι,C.put ho hb hu fun z hz=>by rw[h1,e0] at hz;cases hz;rfl⟩⟩
 have bO:∀{ks:List Key} {vs:List V} {k:Key},u0=.dK (ks.zip vs)→ks.length=vs.length→vi=kV k→ks.length<16000000→dY K ι Hb b' (.dK ((nO ks k).zip (if k∈ks then List.zipWith (fun k' v'=>if k'=k then vr else v') ks vs else vs++[vr])))→uz (.ref a) vi vr H Q:=fun {ks vs k} e0 hl e1 hz hu=>
  .inr ⟨a,_,rfl,.inl ⟨_,k,by rw[← e0];exact h1,e1,by rw[List.length_zip,← hl,Nat.min_self,a0m];omega,rfl⟩,p _ ⟨Hb,ι,by rw[V2 hl];exact C.put ho hb hu fun z hz=>by rw[h1,e0] at hz;cases hz;rfl⟩⟩
 unfold qY at hs
 split at hs
 ·obtain⟨j,hj,rfl⟩:=a0b.mp hs
  obtain⟨xs,e0,q⟩:=h2
  exact lst e0 hi (by rw[← q.len];exact hj) ⟨_,rfl,q.set j hr⟩
 ·obtain⟨j,hj,rfl⟩:=a0b.mp hs
  obtain⟨xs,e0,q⟩:=h2
  exact lst e0 hi (by rw[← Paired.length q];exact hj) ⟨_,rfl,bB.set (x:=.o _) q hr j⟩
 ·obtain⟨j,hj,rfl⟩:=a0b.mp hs
  obtain⟨xs,e0,q⟩:=h2
  exact lst e0 hi (by rw[← Paired.length q];exact hj) ⟨_,rfl,bB.set (x:=.d _) q hr j⟩
 ·obtain⟨k,hk,hs⟩:=a0a.mp hs
  obtain⟨hz,rfl⟩:=ite_some hs
  obtain⟨vs,e0,hl,q⟩:=h2
  have hi:Rp K Hb _ vi:=hi
  rw[nu hk] at hi
  exact bO e0 hl (oX hi) hz ⟨_,rfl,vJ hl,Xd q hr⟩
 ·obtain⟨k,hk,hs⟩:=a0a.mp hs
  obtain⟨hz,rfl⟩:=ite_some hs
  obtain⟨vs,e0,hl,q⟩:=h2
  have hi:Rp K Hb _ vi:=hi
  rw[nu hk] at hi
  exact bO e0 hl (oX hi) hz ⟨_,rfl,vJ hl,Hh (Hf q) hr⟩
 ·obtain⟨k,hk,hs⟩:=a0a.mp hs
  obtain⟨hz,rfl⟩:=ite_some hs
  obtain⟨vs,e0,hl,q⟩:=h2
  have hi:Rp K Hb _ vi:=hi
  rw[nu hk] at hi
  exact bO e0 hl (oX hi) hz ⟨_,rfl,vJ hl,Hh q hr⟩
 ·obtain⟨k,hk,hs⟩:=a0a.mp hs
  obtain⟨hz,rfl⟩:=ite_some hs
  obtain⟨vs,e0,hl,q⟩:=h2
  have hi:Rp K Hb _ vi:=hi
  rw[nu hk] at hi
  exact bO e0 hl (oX hi) hz ⟨_,rfl,vJ hl,Hh q hr⟩
 ·cases hs
theorem Yv (ho:XE K W to fo) (hi:XE K W ti fi):XG K W (gSub to ti uz) (gS fo fi):=fun A st σ H ts r v C Q y hy p=>by
 rcases iQ hy with ⟨o,s1,h1,h2⟩|⟨x,s1,h1,rfl⟩
 ·refine ho A st σ H _ C _ _ h1 fun vo H1 C1=>?_
  rcases iQ h2 with ⟨i,s2,h3,h4⟩|⟨x,s2,h3,rfl⟩
  ·refine hi A s1 σ H1 _ C1 _ _ h3 fun vi H2 ⟨Hb,ι,C2⟩=>?_
   obtain⟨b,hb,h5⟩:=a0a.mp h4
   obtain⟨b',hb',rfl⟩:=a0b.mp h5
   exact Yu (C2.temps (ts':=ts) fun q hq=>C2.tmp q (by simp[hq])) (C2.tmp (rt K σ o vo) (by simp)) (C2.tmp (rt K σ i vi) (by simp)) (C2.tmp (rt K σ r v) (by simp)) hb hb' fun H3 C3=>p σ H3 C3
  ·exact hi A s1 σ H1 _ C1 _ _ h3 fun cls d H2 X=>p cls d H2 X.drop.drop
 ·exact ho A st σ H _ C _ _ h1 fun cls d H2 X=>p cls d H2 X.drop
def pQ (i:Nat):M R:=fun st=>match st.s[i]? with
 | some (.own b)=>(iI b).map fun x=>.ok (.d x) ⟨st.s.set i (.v (.d x)),st.h⟩
 | some (.v r)=>some (.ok r st)
 | _=>none
theorem Cf.reset {A:Ac} {s:List Sv} {h:List Ob} {σ:L2.St} {H:Hp} {ts:List Tp} {i:Nat} {r:R} {v:V} (hn:∀j,r≠.w j) (e:σ[i]?=some (some v)) (C:Cf K A ⟨s.set i .no,h⟩ σ H (rt K σ r v::ts)):Cf K A ⟨s.set i (.v r),h⟩ σ H (rt K σ r v::ts):=by
 obtain⟨Hb,ι,C⟩:=C
 have hr:RV K ι Hb r v:=by
  have q:Rt K σ ι Hb r v:=C.tmp (rt K σ r v) (by simp)
  cases r with
  | d x=>exact q
  | o n=>exact q
  | w j=>exact absurd rfl (hn j)
 have C2:=C.qX hr i
 have e1:σ.set i (some v)=σ:=by
  refine a0K fun j=>?_
  rw[a0g]
  by_cases z:i=j
  ·subst z
   rw[a0d rfl,a0d (a0f.mp e).1,e]
  ·rw[a0j z]
 rw[e1] at C2
 simp only[List.set_set] at C2
 exact⟨Hb,ι,C2⟩
theorem Pr {i:Nat}:XE K W (tVar i) (pQ i):=fun A st σ H ts C Q y hf p=>by
 unfold pQ at hf
 cases q:st.s[i]? with
 | none=>rw[q] at hf;cases hf
 | some sv=>
  rw[q] at hf
  cases sv with
  | no=>cases hf
  | v r=>
   refine au A st σ H ts C Q y ?_ p
   unfold eV;rw[q];exact hf
  | own b=>
   obtain⟨x,hx,rfl⟩:=a0b.mp hf
   obtain⟨Hb,ι,C⟩:=C
   obtain⟨v,e,CO⟩:=C.take q
   exact⟨v,e,p v H (Cf.reset (fun j z=>nomatch z) e (CO.frz fun ι Hb a u hu hb=>H_ hx hu (Ex.new hb).rl a0w))⟩
end
inductive Rr where
 | d (x:D)|o (n:Nat)|n (b:Ob)
inductive Ot where
 | ret (r:Rr)|exc (x:XD)
abbrev Fn:=List R→List Ob→Option (Ot×List Ob)
def endF:Rs→Option (Ot×List Ob)
 | .nx st=>some (.ret (.d .non),st.h)
 | .rt (.d x) st=>some (.ret (.d x),st.h)
 | .rt (.o n) st=>some (.ret (.o n),st.h)
 | .rt (.w i) st=>match st.s[i]? with
  | some (.own b)=>some (.ret (.n b),st.h)
  | _=>none
 | .rn b st=>some (.ret (.n b),st.h)
 | .ex x st=>some (.exc x,st.h)
 | .bk _=>none
 | .ct _=>none
def o_ (n:Nat) (args:List R):List Sv:=args.map .v++List.replicate (n-args.length) .no
def rB (n:Nat) (body:S):Fn:=fun args h=>(body ⟨o_ n args,h⟩).bind endF
section
variable (K:PySem.W.Frag)
def Kc (H Hb:Hp) (ι:List Addr) (Q:VK) (E:XK):Ot×List Ob→Prop
 | (.ret (.d x),h)=>∀v H2,Cf K ⟨H,Hb,ι⟩ ⟨[],h⟩ [] H2 [rt K [] (.d x) v]→Q v H2
 | (.ret (.o n),h)=>∀v H2,Cf K ⟨H,Hb,ι⟩ ⟨[],h⟩ [] H2 [rt K [] (.o n) v]→Q v H2
 | (.ret (.n b),h)=>∀v H2,g8 K ⟨H,Hb,ι⟩ ⟨[],h⟩ [] H2 [] b v→Q v H2
 | (.exc x,h)=>∀cls d H2,XO K ⟨H,Hb,ι⟩ [] x ⟨[],h⟩ cls d [] H2→E cls d H2
def dH (F:Fn):Sp:=fun vs H Q E=>∃Hb ι args h y,ao K ⟨H,Hb,ι⟩ ⟨[],h⟩ [] H [] Hb ι∧bB K ι Hb args vs∧F args h=some y∧Kc K H Hb ι Q E y
end
section
variable {K:PySem.W.Frag} {W:WX} {A:Ac} {st:ST} {σ:L2.St} {H H2 Hb bG:Hp} {ts ts':List Tp} {ι bJ:List Addr} {te to:TE} {ta:TA} {f fo:M R} {fa:M (List R)} {F:Fn}
theorem ao.bare (C:ao K A st σ H ts Hb ι):ao K A ⟨[],st.h⟩ [] H ts Hb ι:=
 {C with len:=rfl,val:=fun i r h=>by simp at h,own:=fun i b h=>by simp at h,dsl:=fun i j b c a h=>by simp at h}
theorem ao.enter (C:ao K A st σ H ts Hb ι):ao K ⟨H,Hb,ι⟩ ⟨[],st.h⟩ [] H [] Hb ι:=
 {keep:=fun a o h _=>h,eB:=Ex.refl _,bH:=C.bH,ap:=fun a h _=>h,pre:=bM.refl _,hl:=C.hl,len:=rfl,val:=fun i r h=>by simp at h,obj:=C.obj,own:=fun i b h=>by simp at h,inj:=C.inj,new:=fun a h=>.inl h,dsl:=fun i j b c a h=>by simp at h,tmp:=fun p hp=>nomatch hp}
theorem ao.there (C:ao K A st σ H ts Hb ι) {a:Addr} (h:A.H a≠none):H a≠none:=by
 by_cases hm:a∈A.ι
 ·obtain⟨n,hn⟩:=a0J (C.pre.mem hm)
  have hlt:n<st.h.length:=by rw[← C.hl];exact(a0f.mp hn).1
  obtain⟨b,u,g1,g2,_⟩:=C.obj n _ (a0h hlt)
  rw[hn] at g1;cases g1
  rw[g2];exact fun z=>nomatch z
 ·cases q:A.H a with
  | none=>exact absurd q h
  | some o=>rw[C.keep a o q (.inl hm)];exact fun z=>nomatch z
theorem ao.back {h':List Ob} (C:ao K A st σ H ts Hb ι) (C2:ao K ⟨H,Hb,ι⟩ ⟨[],h'⟩ [] H2 ts' bG bJ) {us:List Tp} (hu:∀p∈us,p.p bJ bG):ao K A ⟨st.s,h'⟩ σ H2 us bG bJ where
 keep:=fun a o e n=>C2.keep a o (C.keep a o e n) (by
  by_cases hm:a∈ι
  ·exact .inr (n.elim (fun n=>(C.new a hm).elim (fun y=>absurd y n) fun y=>y o e) id)
  ·exact .inl hm)
 eB:=C.eB.trans C2.eB
 bH:=C2.bH
 ap:=fun a h1 h2=>C2.ap a (C.ap a h1 h2) (C.there h2)
 pre:=C.pre.trans C2.pre
 hl:=C2.hl
 len:=C.len
 val:=fun i r h=>let ⟨v,e,q⟩:=C.val i r h;⟨v,e,q.mono C2.pre C2.eB.rl⟩
 obj:=C2.obj
 own:=fun i b h=>by
  obtain⟨a,u,e1,e2,e3,e4,e5,e6,e7⟩:=C.own i b h
  have hn:H a≠none:=by rw[e2];exact fun z=>nomatch z
  exact⟨a,u,e1,C2.keep a u e2 (.inl e5),e3.mono C2.pre C2.eB.rl,C2.ap a e4 hn,fun hm=>(C2.new a hm).elim e5 (fun z=>by have:=z u e2;rw[e7] at this;cases this),e6,e7⟩
 inj:=C2.inj
 new:=fun a hm=>by
  rcases C2.new a hm with q|q
  ·exact C.new a q
  ·by_cases hA:a∈A.ι
   ·exact .inl hA
   ·exact .inr fun o e=>q o (C.keep a o e (.inl hA))
 dsl:=C.dsl
 tmp:=hu
theorem ao.ZV {h':List Ob} {b:Ob} {v:V} (C:ao K A st σ H ts Hb ι) (C2:g8 K ⟨H,Hb,ι⟩ ⟨[],h'⟩ [] H2 [] b v):g8 K A ⟨st.s,h'⟩ σ H2 ts b v:=by
 obtain⟨bG,bJ,a,u,C2,rfl,h1,h2,h3,h4,h5,hz,_⟩:=C2
 refine⟨bG,bJ,a,u,C.back C2 fun p hp=>p.m _ _ _ _ C2.pre C2.eB.rl (C.tmp p hp),rfl,h1,h2,h3,h4,a0G fun z=>C.there z h5,hz,fun i c hc e=>?_⟩
 obtain⟨a',u',e1,e2,_⟩:=C.own i c hc
 rw[e] at e1;cases e1
 have h5:H a=none:=h5
 rw[e2] at h5;cases h5
theorem ao.Pu {h':List Ob} {x:XD} {cls:Value} {d:Option Addr} (C:ao K A st σ H ts Hb ι) (X:XO K ⟨H,Hb,ι⟩ [] x ⟨[],h'⟩ cls d [] H2):XO K A ts x ⟨st.s,h'⟩ cls d σ H2:=by
 obtain⟨bG,bJ,dd,vs,C2,h1,h2,h3,h4,h5,h6,h7⟩:=X
 exact⟨bG,bJ,dd,vs,C.back C2 fun p hp=>p.m _ _ _ _ C2.pre C2.eB.rl (C.tmp p hp),h1,h2,h3,h4,h5,a0G fun z=>C.there z h6,h7⟩
theorem Hi {N:List Str} {args:List R} {vs:List V} {h:List Ob} (C:ao K ⟨H,Hb,ι⟩ ⟨[],h⟩ [] H [] Hb ι) (r:bB K ι Hb args vs):ao K ⟨H,Hb,ι⟩ ⟨o_ N.length args,h⟩ (L2.start N vs) H [] Hb ι:=by
 have at_:∀{i:Nat} {s:Sv},(o_ N.length args)[i]?=some s→s=.no∨∃x,args[i]?=some x∧s=.v x:=fun {i s} h=>by
  unfold o_ at h
  by_cases q:i<args.length
  ·rw[a0s (by simpa using q),a0y] at h
   cases z:args[i]? with
   | none=>rw[z] at h;cases h
   | some e=>rw[z] at h;cases h;exact .inr ⟨e,rfl,rfl⟩
  ·rw[List.getElem?_append_right (by simpa using q),List.getElem?_replicate] at h
   split at h
   ·cases h;exact .inl rfl
   ·cases h
 refine {C with len:=?_,val:=fun i x h=>?_,own:=fun i b h=>?_,dsl:=fun i j b c a h=>?_}
 ·unfold o_ L2.start;simp[Paired.length r]
 ·rcases at_ h with z|⟨y,e,z⟩
  ·cases z
  ·cases z
   obtain⟨v,hv,rv⟩:=bB.get r e
   exact⟨v,VN hv,rv⟩
 ·rcases at_ h with z|⟨y,e,z⟩<;>cases z
 ·rcases at_ h with z|⟨y,e,z⟩<;>cases z
theorem fnF {P:Program} {w:World} {mg:Str→Option Value} {base:Heap} {nm qual:Str} {st:Stmt} {f:Addr} {fd:FuncData} {N ps:List Str} {k:Nat} {g:S} (F:gU K nm qual st f fd) (sc:FnScope N ps (defScope st)) (F':Fn) (hF:∀args h y,F' args h=some y→args.length=ps.length∧rB N.length g args h=some y)
  (hbody:∀(cdv:Value) (A:Around) (outer:List Env) (s:Shared) (H:Hp) (bQ:XK),Room k (A.deeper (envOfC qual (defScope st) s.heap.objs.size f cdv))→
   ∃t,PSs (cxOf (L2.CX P w) P w K mg base N qual (defScope st) f cdv A outer s H bQ) (defBody st) t∧XS K (fun cls d _ H=>bQ cls d H) t g) :
  FnOk P w K mg base (L2.CX P w) (k+1) f fd ps (dH K F'):=by
 refine F.okX sc (fun vs H Q bQ h=>?_) fun cdv A outer s H vs Q bQ hr h=>?_
 ·obtain⟨Hb,ι,args,h,y,C,r,e,_⟩:=h
  rw[← Paired.length r];exact(hF args h y e).1
 ·obtain⟨Hb,ι,args,h,y,C,r,e,p⟩:=h
  obtain⟨t,ht,hx⟩:=hbody cdv A outer s H bQ hr
  refine⟨t,ht,?_⟩
  obtain⟨z,hz,ez⟩:=a0a.mp (hF args h y e).2
  refine hx ⟨H,Hb,ι⟩ _ _ H [] ⟨Hb,ι,Hi C r⟩ _ z hz ?_
  cases z with
  | nx st=>cases ez;exact fun σ H2 ⟨bG,bJ,C2⟩=>p .non H2 ⟨bG,bJ,C2.bare.temps fun q hq=>by rw[a0n.mp hq];show Rp K _ _ _;unfold Rp;rfl⟩
  | rn b st=>
   cases ez
   intro σ v H2 C2
   obtain⟨bG,bJ,a,u,C2,h1,h2,h3,h4,h5,h6,hz,_⟩:=C2
   exact p v H2 ⟨bG,bJ,a,u,C2.bare,h1,h2,h3,h4,h5,h6,hz,fun i c h=>by simp at h⟩
  | bk st=>cases ez
  | ct st=>cases ez
  | ex x st=>
   cases ez
   intro cls d σ H2 X
   obtain⟨bG,bJ,dd,vs',C2,rr⟩:=X
   exact p cls d H2 ⟨bG,bJ,dd,vs',C2.bare,rr⟩
  | rt r st=>
   intro σ v H2 ⟨bG,bJ,C2⟩
   have hv:Rt K σ bJ bG r v:=C2.tmp (rt K σ r v) (by simp)
   cases r with
   | d x=>cases ez;exact p v H2 ⟨bG,bJ,C2.bare.temps fun q hq=>by rw[a0n.mp hq];exact hv⟩
   | o n=>cases ez;exact p v H2 ⟨bG,bJ,C2.bare.temps fun q hq=>by rw[a0n.mp hq];exact hv⟩
   | w i=>
    simp only[endF] at ez
    cases q:st.s[i]? with
    | none=>rw[q] at ez;cases ez
    | some sv=>
     rw[q] at ez
     cases sv with
     | no=>cases ez
     | v r=>cases ez
     | own b=>
      cases ez
      obtain⟨v',e',CO⟩:=C2.take q
      have hv:σ[i]?=some (some v):=hv
      rw[hv] at e';cases e'
      obtain⟨jK,jL,a,u,C3,h1,h2,h3,h4,h5,h6,hz,_⟩:=CO
      refine p v H2 ⟨jK,jL,a,u,C3.bare.temps (ts':=[]) (fun q hq=>?_),h1,h2,h3,h4,h5,h6,hz,fun i c h=>?_⟩
      ·cases hq
      ·simp at h
def qQ (F:Fn) (rs:List R):M R:=fun st=>if rs.all iD then(match F rs st.h with
 | some (.ret (.d x),h)=>some (.ok (.d x) ⟨st.s,h⟩)
 | some (.ret (.o n),h)=>some (.ok (.o n) ⟨st.s,h⟩)
 | some (.exc x,h)=>some (.ex x ⟨st.s,h⟩)
 | _=>none) else none
def tL (F:Fn) (rs:List R):M Ob:=fun st=>if rs.all iD then(match F rs st.h with
 | some (.ret (.n b),h)=>some (.ok b ⟨st.s,h⟩)
 | some (.exc x,h)=>some (.ex x ⟨st.s,h⟩)
 | _=>none) else none
theorem Xe {rs:List R} {vs:List V} {Q:VK} {y:Rx R} (C:ao K A st σ H ts Hb ι) (r:Paired (fun r v=>Rt K σ ι Hb r v) rs vs) (e:qQ F rs st=some y) (p:QZ K W A σ ts Q y):dH K F vs H Q (WE W σ):=by
 unfold qQ at e
 by_cases hw:rs.all iD=true
 ·rw[a0d hw] at e
  cases q:F rs st.h with
  | none=>rw[q] at e;cases e
  | some z=>
   refine⟨Hb,ι,rs,st.h,z,C.enter,vM hw r,q,?_⟩
   rw[q] at e
   obtain⟨o,h'⟩:=z
   cases o with
   | exc x=>cases e;exact fun cls d H2 X=>p cls d H2 (C.Pu X)
   | ret rr=>
    cases rr with
    | d x=>cases e;exact fun v H2 ⟨bG,bJ,C2⟩=>p v H2 ⟨bG,bJ,C.back C2 fun q hq=>(a0c.mp hq).elim (fun e=>by rw[e];exact C2.tmp (rt K [] (.d x) v) (by simp)) fun hq=>q.m _ _ _ _ C2.pre C2.eB.rl (C.tmp q hq)⟩
    | o n=>cases e;exact fun v H2 ⟨bG,bJ,C2⟩=>p v H2 ⟨bG,bJ,C.back C2 fun q hq=>(a0c.mp hq).elim (fun e=>by rw[e];exact C2.tmp (rt K [] (.o n) v) (by simp)) fun hq=>q.m _ _ _ _ C2.pre C2.eB.rl (C.tmp q hq)⟩
    | n b=>cases e
 ·rw[a0j hw] at e;cases e
theorem V4 {rs:List R} {vs:List V} {Q:VK} {y:Rx Ob} (C:ao K A st σ H ts Hb ι) (r:Paired (fun r v=>Rt K σ ι Hb r v) rs vs) (e:tL F rs st=some y) (p:Q5 K W A σ ts Q y):dH K F vs H Q (WE W σ):=by
 unfold tL at e
 by_cases hw:rs.all iD=true
 ·rw[a0d hw] at e
  cases q:F rs st.h with
  | none=>rw[q] at e;cases e
  | some z=>
   refine⟨Hb,ι,rs,st.h,z,C.enter,vM hw r,q,?_⟩
   rw[q] at e
   obtain⟨o,h'⟩:=z
   cases o with
   | exc x=>cases e;exact fun cls d H2 X=>p cls d H2 (C.Pu X)
   | ret rr=>
    cases rr with
    | d x=>cases e
    | o n=>cases e
    | n b=>cases e;exact fun v H2 C2=>p v H2 (C.ZV C2)
 ·rw[a0j hw] at e;cases e
def lE (F:Fn) (fa:M (List R)):M R:=fa.bind (qQ F)
theorem x_call (ha:XA K W ta fa):XE K W (tCallS (dH K F) (WE W) ta) (lE F fa):=fun A st σ H ts C Q y hy p=>by
 rcases iQ hy with ⟨rs,s1,h1,h2⟩|⟨x,s1,h1,rfl⟩
 ·exact ha A st σ H ts C _ _ h1 fun vs H1 ⟨Hb,ι,C1⟩=>Xe (C1.temps (ts':=ts) fun q hq=>C1.tmp q (by simp[hq])) (C1.tmp (iH K σ rs vs) (by simp)) h2 p
 ·exact ha A st σ H ts C _ _ h1 p
def rN {α:Type} (f:M α):M α:=fun st=>match f st with
 | some (.ok a st')=>some (.ok a st')
 | _=>none
end
section
variable {K:PySem.W.Frag} {W:WX} {A:Ac} {st:ST} {σ:L2.St} {H H0 H1 Hb wU jH:Hp} {ts ts1:List Tp} {ι j7 jJ:List Addr} {te to:TE} {ta:TA} {f fo:M R} {fa:M (List R)} {F:Fn}
theorem RV.lower {x:R} {v0 v:V} (h0:RV K j7 wU x v0) (h1:RV K jJ jH x v) (p:bM j7 jJ):RV K j7 jH x v:=by
 cases x with
 | d x=>exact h1
 | w i=>exact h1
 | o n=>
  obtain⟨a,e,_⟩:=h0
  obtain⟨a',e',rfl⟩:=h1
  rw[p.get e] at e';cases e'
  exact⟨a,e,rfl⟩
theorem bB.lower:∀{xs:List R} {vs0 vs:List V},bB K j7 wU xs vs0→bB K jJ jH xs vs→bM j7 jJ→bB K j7 jH xs vs
 | [],_,_,_,.nil,_=>.nil
 | x::xs,_,_,.cons a0 b0,.cons a b,p=>.cons (a0.lower a p) (bB.lower b0 b p)
theorem dY.lower {b:Ob} {u0 u:HO} (h0:dY K j7 wU b u0) (h1:dY K jJ jH b u) (p:bM j7 jJ):dY K j7 jH b u:=by
 cases b with
 | lst ds=>exact h1
 | bO ks ds=>exact h1
 | dct ks ds=>exact h1
 | lO ks ds=>exact h1
 | rK ks ds=>exact h1
 | cR xs=>obtain⟨_,_,q0⟩:=h0;obtain⟨vs,e,q⟩:=h1;exact⟨vs,e,bB.lower q0 q p⟩
 | qj ks xs=>obtain⟨_,_,_,_,q0⟩:=h0;obtain⟨od,vs,e,l,q⟩:=h1;exact⟨od,vs,e,l,bB.lower q0 q p⟩
 | dX ks xs=>obtain⟨_,_,_,q0⟩:=h0;obtain⟨vs,e,l,q⟩:=h1;exact⟨vs,e,l,bB.lower q0 q p⟩
 | dn w ks xs=>obtain⟨_,_,_,_,_,_,_,q0⟩:=h0;obtain⟨b,vs,dD,e,l,n,l2,q⟩:=h1;exact⟨b,vs,dD,e,l,n,l2,bB.lower q0 q p⟩
 | rM w ks xs=>obtain⟨_,_,_,_,_,_,_,_,q0⟩:=h0;obtain⟨od,b,vs,dD,e,l,n,l2,q⟩:=h1;exact⟨od,b,vs,dD,e,l,n,l2,bB.lower q0 q p⟩
 | ins C fs xs=>obtain⟨_,_,_,_,q0⟩:=h0;obtain⟨dx,vs,e,l,q⟩:=h1;exact⟨dx,vs,e,l,bB.lower q0 q p⟩
theorem ao.pop {s:List Sv} {h t:List Ob} (C0:ao K A ⟨s,h⟩ σ H0 ts wU j7) (C1:ao K A ⟨s,h++t⟩ σ H1 ts1 jH jJ) (p:bM j7 jJ) (ht:∀q∈ts,q.p jJ jH):ao K A ⟨s,h⟩ σ H1 ts jH j7 where
 keep:=C1.keep
 eB:=C1.eB
 bH:=C1.bH
 ap:=C1.ap
 pre:=C0.pre
 hl:=C0.hl
 len:=C0.len
 val:=fun i r e=>by
  obtain⟨v,a,b⟩:=C0.val i r e
  obtain⟨v',a',b'⟩:=C1.val i r e
  rw[a] at a';cases a'
  exact⟨v,a,b.lower b' p⟩
 obj:=fun n b e=>by
  obtain⟨a0,u0,e1,e2,e3,e4⟩:=C0.obj n b e
  have hn:n<h.length:=(a0f.mp e).1
  obtain⟨a,u,g1,g2,g3,g4⟩:=C1.obj n b (by show (h++t)[n]?=_;rw[a0s hn];exact e)
  rw[p.get e1] at g1;cases g1
  exact⟨_,u,e1,g2,e3.lower g3 p,g4⟩
 own:=fun i b e=>by
  obtain⟨a0,u0,e1,e2,e3,e4,e5,e6⟩:=C0.own i b e
  obtain⟨a,u,g1,g2,g3,g4,g5,g6⟩:=C1.own i b e
  exact⟨a,u,g1,g2,e3.lower g3 p,g4,fun z=>g5 (p.mem z),g6⟩
 inj:=C0.inj
 new:=C0.new
 dsl:=C0.dsl
 tmp:=fun q hq=>q.l _ _ _ _ p (C0.tmp q hq) (ht q hq)
end
section
variable {K:PySem.W.Frag} {W:WX} {te to:TE} {ta:TA} {f fo:M R} {fa:M (List R)} {F:Fn}
theorem Mx {h h2:List Ob} (e:h2.take h.length=h):∃t,h2=h++t:=⟨h2.drop h.length,by conv=>lhs;rw[← List.take_append_drop h.length h2,e]⟩
end
section
variable {K:PySem.W.Frag} {W:WX} {tt:TT} {tb:TS} {t:M Bool} {b:S} {te:TE} {ta:TA} {f:M R} {fa:M (List R)} {g:TG} {k:G}
structure Wk where
 xs:List R
 lk:ST→Prop
open Classical in
noncomputable def forL (lk:ST→Prop) (k:G) (b:S):List R→S
 | [],st=>if lk st then some (.nx st) else none
 | r::rs,st=>if lk st then(match k r st with
  | some (.ok _ s1)=>(match b s1 with
   | some (.nx s)=>forL lk k b rs s
   | some (.ct s)=>forL lk k b rs s
   | some (.bk s)=>some (.nx s)
   | o=>o)
  | _=>none) else none
noncomputable def mU (it:M Wk) (k:G) (b:S):S:=fun st=>match it st with
 | some (.ok w s1)=>forL w.lk k b w.xs s1
 | some (.ex x s)=>some (.ex x s)
 | none=>none
def Kd (A A':Ac):Prop:=Ex A.H A'.H
structure Walk (K:PySem.W.Frag) (A0:Ac) (J:It) (t:Tp) (w:Wk):Prop where
 goes:∀(i:Nat) A st σ H ts,Kd A0 A→Cf K A st σ H (t::ts)→w.lk st→i<w.xs.length→J.go i H
 stops:∀A st σ H ts,Kd A0 A→Cf K A st σ H (t::ts)→w.lk st→J.stop w.xs.length H
 yields:∀(i:Nat) r A st σ H x H' ts,w.xs[i]?=some r→Kd A0 A→Cf K A st σ H (t::ts)→w.lk st→J.yld i H x H'→Cf K A st σ H' (rt K σ r x::t::ts)
def PoI (K:PySem.W.Frag) (W:WX) (A:Ac) (σ:L2.St) (ts:List Tp) (Rr:It→Hp→Prop):Rx Wk→Prop
 | .ok w st=>∀J t H2,Cf K A st σ H2 (t::ts)→Walk K A J t w→Rr J H2
 | .ex x st=>∀cls d H2,XO K A ts x st cls d σ H2→W cls d σ H2
def XI (K:PySem.W.Frag) (W:WX) (wi:TI) (f:M Wk):Prop:=∀A st σ H ts,Cf K A st σ H ts→∀Rr y,f st=some y→PoI K W A σ ts Rr y→wi σ H Rr
theorem Yw {A:Ac} {J:It} {tp:Tp} {w:Wk} {fs:List Tp} {T:Ends} {y:Rs} {σ:L2.St} {H:Hp} {st:ST} (C:Cf K A st σ H (tp::fs)) (wk:Walk K A J tp w) (hg:Ka K g k) (hb:XS K W tb b) (e:forL w.lk k b w.xs st=some y) (p:uM K W A fs T y) :
  ∃W:Nat→Nat→L2.St→Hp→Prop,(∃m,W 0 m σ H)∧∀i m σ H,W i m σ H→
   (J.stop i H∧T.nx σ H)∨(J.go i H∧∃N:L2.St→Hp→Prop,(∀σ' H',N σ' H'→∃m',m'<m∧W (i+1) m' σ' H')∧∀x H',J.yld i H x H'→g x σ H' fun σ2 H2=>tb {T with nx:=N,ct:=N,bk:=T.nx} σ2 H2):=by
 let Pv:Nat→L2.St→Hp→Prop:=fun i σ H=>i≤w.xs.length∧∃st',forL w.lk k b (w.xs.drop i) st'=some y∧Cf K A st' σ H (tp::fs)
 refine⟨fun i m σ H=>m=w.xs.length-i∧Pv i σ H,⟨w.xs.length,by simp,Nat.zero_le _,st,by simpa using e,C⟩,?_⟩
 rintro i m σ H ⟨rfl,hle,st',e',C'⟩
 by_cases hlt:i<w.xs.length
 ·have hd:w.xs.drop i=w.xs[i]::w.xs.drop (i+1):=List.drop_eq_getElem_cons hlt
  rw[hd] at e'
  unfold forL at e'
  by_cases hlk:w.lk st'
  ·rw[a0d hlk] at e'
   refine .inr ⟨wk.goes i A st' σ H fs (Ex.refl _) C' hlk hlt,Pv (i+1),fun σ' H' hN=>⟨w.xs.length-(i+1),by omega,rfl,hN⟩,fun x H' yy=>?_⟩
   have C2:=wk.yields i w.xs[i] A st' σ H x H' fs (a0h hlt) (Ex.refl _) C' hlk yy
   cases ek:k w.xs[i] st' with
   | none=>rw[ek] at e';cases e'
   | some z=>
    rw[ek] at e'
    cases z with
    | ex x s=>cases e'
    | ok u s1=>
     simp only at e'
     refine hg A st' σ H' (tp::fs) w.xs[i] x C2 _ s1 ek fun σ2 H2 C3=>?_
     cases eb:b s1 with
     | none=>rw[eb] at e';cases e'
     | some z=>
      rw[eb] at e'
      refine hb A s1 σ2 H2 (tp::fs) C3 _ z eb ?_
      cases z with
      | nx s=>exact fun σ3 H3 C4=>⟨hlt,s,e',C4⟩
      | ct s=>exact fun σ3 H3 C4=>⟨hlt,s,e',C4⟩
      | bk s=>cases e';exact fun σ3 H3 C4=>p σ3 H3 C4.drop
      | rt r s=>cases e';exact fun σ3 v H3 C4=>p σ3 v H3 (C4.temps fun q hq=>.inl (by rcases a0c.mp hq with h|h<;>simp[h]))
      | rn r s=>
       cases e'
       intro σ3 v H3 C4
       obtain⟨Hb,ι,a,u,C5,rr⟩:=C4
       exact p σ3 v H3 ⟨Hb,ι,a,u,C5.temps fun q hq=>C5.tmp q (by simp[hq]),rr⟩
      | ex x s=>cases e';exact fun cls d σ3 H3 X=>p cls d σ3 H3 X.drop
  ·rw[a0j hlk] at e';cases e'
 ·have hi:i=w.xs.length:=by omega
  subst hi
  rw[List.drop_length] at e'
  unfold forL at e'
  by_cases hlk:w.lk st'
  ·rw[a0d hlk] at e'
   cases e'
   exact .inl ⟨wk.stops A st' σ H fs (Ex.refl _) C' hlk,p σ H C'.drop⟩
  ·rw[a0j hlk] at e';cases e'
theorem Ih {wi:TI} {it:M Wk} (hi:XI K W wi it) (hg:Ka K g k) (hb:XS K W tb b):XS K W (tFor wi g tb) (mU it k b):=fun A st σ H fs C T y hy p=>by
 unfold mU at hy
 cases e:it st with
 | none=>rw[e] at hy;cases hy
 | some z=>
  rw[e] at hy
  cases z with
  | ex x s=>cases hy;exact hi A st σ H fs C _ _ e fun cls d H2 X=>p cls d σ H2 X
  | ok w s1=>exact hi A st σ H fs C _ _ e fun J t H2 C2 wk=>Yw C2 wk hg hb hy p
def d8:ST→Prop:=fun _=>True
def Ke:Tp:=⟨fun _ _=>True,fun _ _ _ _ _ _ _=>trivial,fun _ _ _ _ _ _ _=>trivial⟩
def nQ (f:M (List R)):M Wk:=f.of fun _ rs=>match rs with
 | [.d (.int n)]=>if -1000000000≤n∧n≤1000000000 then some ⟨(lH 0 n.toNat).map .d,d8⟩ else none
 | _=>none
def v7 (f:M (List R)):M Wk:=f.of fun _ rs=>match rs with
 | [.d (.int m),.d (.int n)]=>if (-1000000000≤m∧m≤1000000000)∧-1000000000≤n∧n≤1000000000 then some ⟨(lH m (n-m).toNat).map .d,d8⟩ else none
 | _=>none
theorem Mz {lo:Int} {n:Nat} {A0:Ac}:Walk K A0 (Itr lo n) Ke ⟨(lH lo n).map .d,d8⟩ where
 goes:=fun i A st σ H ts _ C _ h=>by show i<n;simpa [Mr] using h
 stops:=fun A st σ H ts _ C _=>by show n≤_;simp[Mr]
 yields:=fun i r A st σ H x H' ts h _ C _ y=>by
  obtain⟨e1,e2⟩:=y
  rw[a0y] at h
  obtain⟨d,hd,rfl⟩:=a0b.mp h
  obtain⟨_,rfl⟩:=VL hd
  subst e1 e2
  exact C.temps fun q hq=>(a0c.mp hq).elim (fun z=>.inr fun ι Hb=>by rw[z];show Rp K Hb _ _;unfold Rp;rfl) .inl
theorem sU (hf:XA K W ta fa):XI K W (iRng1 ta) (nQ fa):=fun A st σ H ts C Rr y hy p=>by
 rcases k_ hy with ⟨rs,s1,b,h1,h2,rfl⟩|⟨x,s1,h1,rfl⟩
 ·split at h2
  ·rename_i n
   refine hf A st σ H ts C _ _ h1 fun vs H1 ⟨Hb,ι,C1⟩=>?_
   obtain⟨hn,rfl⟩:=ite_some h2
   obtain⟨v,rfl,hv⟩:=mO (C1.tmp (iH K σ [.d (.int n)] vs) (by simp))
   cases (show v=.int n from hv)
   exact⟨n,rfl,by omega,by omega,p _ Ke H1 ⟨Hb,ι,C1.temps fun q hq=>(a0c.mp hq).elim (fun e=>by rw[e];trivial) fun hq=>C1.tmp q (by simp[hq])⟩ Mz⟩
  ·cases h2
 ·exact hf A st σ H ts C _ _ h1 p
theorem Xf (hf:XA K W ta fa):XI K W (iRng2 ta) (v7 fa):=fun A st σ H ts C Rr y hy p=>by
 rcases k_ hy with ⟨rs,s1,b,h1,h2,rfl⟩|⟨x,s1,h1,rfl⟩
 ·split at h2
  ·rename_i m n
   refine hf A st σ H ts C _ _ h1 fun vs H1 ⟨Hb,ι,C1⟩=>?_
   obtain⟨hn,rfl⟩:=ite_some h2
   obtain⟨v,u,rfl,hv,hu⟩:=Pn (C1.tmp (iH K σ [.d (.int m),.d (.int n)] vs) (by simp))
   cases (show v=.int m from hv)
   cases (show u=.int n from hu)
   exact⟨m,n,rfl,⟨by omega,by omega,by omega,by omega⟩,p _ Ke H1 ⟨Hb,ι,C1.temps fun q hq=>(a0c.mp hq).elim (fun e=>by rw[e];trivial) fun hq=>C1.tmp q (by simp[hq])⟩ Mz⟩
  ·cases h2
 ·exact hf A st σ H ts C _ _ h1 p
end
def eX (s:List Sv):List Nat→List Sv
 | []=>s
 | v::vs=>(eX s vs).set v .no
open Classical in
noncomputable def iJ (lk:ST→Prop) (k:G) (t:M Bool) (e:M R) (vs:List Nat) (st0:ST):List R→Option (List D)
 | []=>if lk st0 then some [] else none
 | r::rs=>if lk st0 then(match k r st0 with
  | some (.ok _ s1)=>if (⟨eX s1.s vs,s1.h⟩:ST)=st0 then(match t s1 with
   | some (.ok true s2)=>if s2=s1 then(match e s1 with
    | some (.ok (.d x) s3)=>if s3=s1 then(iJ lk k t e vs st0 rs).map (x::·) else none
    | _=>none) else none
   | some (.ok false s2)=>if s2=s1 then iJ lk k t e vs st0 rs else none
   | _=>none) else none
  | _=>none) else none
noncomputable def nZ (it:M Wk) (k:G) (t:M Bool) (e:M R) (vs:List Nat):M Ob:=fun st=>match it st with
 | some (.ok w s1)=>if w.xs.length≤16000000 then(iJ w.lk k t e vs ⟨eX s1.s vs,s1.h⟩ w.xs).map fun ds=>.ok (.lst ds) ⟨eX s1.s vs,s1.h⟩ else none
 | some (.ex x s)=>some (.ex x s)
 | none=>none
section
variable {K:PySem.W.Frag} {W:WX} {A:Ac} {st:ST} {σ:L2.St} {H Hb:Hp} {ts:List Tp} {ι:List Addr} {tt:TT} {t:M Bool} {te:TE} {e:M R} {g:TG} {k:G} {vs:List Nat} {wi:TI} {it:M Wk}
theorem ao.Jw (C:ao K A st σ H ts Hb ι):∀vs,ao K A ⟨eX st.s vs,st.h⟩ (wipe σ vs) H ts Hb ι
 | []=>C
 | v::vs=>(ao.Jw C vs).wQ v none
theorem ao.ZW (C:ao K A st (wipe σ vs) H ts Hb ι):ao K A st σ H ts Hb ι:=
 {C with
  len:=by rw[← C.len,wipe_length]
  val:=fun j r h=>by
   obtain⟨v,a,c⟩:=C.val j r h
   exact⟨v,(wipe_some a).1,c⟩
  own:=fun j b h=>by
   obtain⟨a,u,h1,rr⟩:=C.own j b h
   exact⟨a,u,(wipe_some h1).1,rr⟩
  dsl:=fun i j b c a h1 h2 e1 e2=>by
   obtain⟨a1,u1,g1,_⟩:=C.own i b h1
   obtain⟨a2,u2,g2,_⟩:=C.own j c h2
   have q1:=(wipe_some g1).1
   have q2:=(wipe_some g2).1
   rw[e1] at q1;cases q1
   rw[e2] at q2;cases q2
   exact C.dsl i j b c _ h1 h2 g1 g2}
theorem G4 (τ:L2.St) (i:Nat):∀us:List Nat,(wipe τ us)[i]?=if i∈us then(τ[i]?).map fun _=>none else τ[i]?
 | []=>by simp[wipe]
 | u::us=>by
  unfold wipe
  rw[a0g]
  by_cases q:u=i
  ·subst q
   rw[a0d rfl,a0d (a0v ..),wipe_length]
   by_cases z:u<τ.length
   ·rw[a0d z,a0h z];rfl
   ·rw[a0j z,a0z (by omega)];rfl
  ·rw[a0j q,G4 τ i us]
   by_cases z:i∈us
   ·rw[a0d z,a0d (a0C _ z)]
   ·rw[a0j z,a0j (fun y=>(a0c.mp y).elim (fun e=>q e.symm) z)]
theorem MF {j:Nat} {x:Option V} (hj:j∈vs):wipe (σ.set j x) vs=wipe σ vs:=by
 refine a0K fun i=>?_
 rw[G4,G4,a0g]
 by_cases z:i∈vs
 ·rw[a0d z,a0d z]
  by_cases q:j=i
  ·subst q
   rw[a0d rfl]
   by_cases y:j<σ.length
   ·rw[a0d y,a0h y];rfl
   ·rw[a0j y,a0z (by omega)]
  ·rw[a0j q]
 ·rw[a0j z,a0j z]
  have q:¬j=i:=fun q=>z (q▸hj)
  rw[a0j q]
def Kf (K:PySem.W.Frag) (vs:List Nat) (g:TG) (k:G):Prop:=∀A st σ H ts r v,Cf K A st σ H (rt K σ r v::ts)→∀(Q:L2.St→Hp→Prop) st',k r st=some (.ok () st')→(∀σ2 H2,Cf K A st' σ2 H2 ts→wipe σ2 vs=wipe σ vs→Q σ2 H2)→g v σ H Q
theorem G5 {i:Nat} (hi:i∈vs):Kf K vs (gName i) (gN i):=fun A st σ H ts r v ⟨Hb,ι,C⟩ Q st' h p=>by
 have hr:Rt K σ ι Hb r v:=C.tmp (rt K σ r v) (by simp)
 have C2:ao K A st σ H ts Hb ι:=C.temps fun q hq=>C.tmp q (by simp[hq])
 cases r with
 | w j=>cases h
 | d x=>cases h;exact p _ H ⟨Hb,ι,C2.qX (r:=.d x) hr i⟩ (MF hi)
 | o n=>cases h;exact p _ H ⟨Hb,ι,C2.qX (r:=.o n) hr i⟩ (MF hi)
theorem ao.fin (C:ao K A st σ H ts Hb ι) {p:Addr} {o:HO} (h0:A.H p=none) (h1:H p=some o) (h2:Hb p=none) (h3:p∉ι) (h4:∀(i:Nat) c,st.s[i]?=some (.own c)→σ[i]?≠some (some (.ref p))):ao K ⟨upd A.H p o,A.B,A.ι⟩ st σ H ts Hb ι:=
 {C with
  keep:=fun a u e n=>by
   have e:upd A.H p o a=some u:=e
   by_cases q:a=p
   ·subst q;rw[a0w] at e;cases e;exact h1
   ·rw[a0t q] at e;exact C.keep a u e n
  ap:=fun a h5 h6=>by
   have h6:upd A.H p o a≠none:=h6
   by_cases q:a=p
   ·subst q;exact h2
   ·rw[a0t q] at h6;exact C.ap a h5 h6
  own:=fun i b h=>by
   obtain⟨a,u,e1,e2,e3,e4,e5,e6,e7⟩:=C.own i b h
   have q:a≠p:=fun z=>h4 i b h (by rw[e1,z])
   exact⟨a,u,e1,e2,e3,e4,e5,by show upd A.H p o a=none;rw[a0t q];exact e6,e7⟩
  new:=fun a hm=>by
   have q:a≠p:=fun z=>h3 (z▸hm)
   exact(C.new a hm).imp id fun z o' e=>by
    have e:upd A.H p o a=some o':=e
    rw[a0t q] at e;exact z o' e}
theorem ao.fout {p:Addr} {o:HO} (C:ao K ⟨upd A.H p o,A.B,A.ι⟩ st σ H ts Hb ι) (h0:A.H p=none) (h1:A.B p=none) (h2:p∉A.ι) (hz:lB o=false:=by rfl):ao K A st σ H ts Hb ι∧H p=some o∧Hb p=none∧p∉ι∧∀(i:Nat) c,st.s[i]?=some (.own c)→σ[i]?≠some (some (.ref p)):=by
 have hp:upd A.H p o p=some o:=a0w
 have ne:∀{a:Addr},A.H a≠none→a≠p:=fun h z=>h (by rw[z];exact h0)
 refine⟨{C with keep:=fun a u e n=>C.keep a u ?_ n,ap:=fun a h5 h6=>C.ap a h5 ?_,own:=fun i b h=>?_,new:=fun a hm=>?_},C.keep p o hp (.inl h2),C.ap p h1 (by show upd A.H p o p≠none;rw[hp];exact fun z=>nomatch z),fun hm=>?_,fun i c hc e=>?_⟩
 ·show upd A.H p o a=some u
  rw[a0t (ne (by rw[e];exact fun z=>nomatch z))];exact e
 ·show upd A.H p o a≠none
  rw[a0t (ne h6)];exact h6
 ·obtain⟨a,u,e1,e2,e3,e4,e5,e6,e7⟩:=C.own i b h
  have e6:upd A.H p o a=none:=e6
  have q:a≠p:=fun z=>by rw[z,a0w] at e6;cases e6
  rw[a0t q] at e6
  exact⟨a,u,e1,e2,e3,e4,e5,e6,e7⟩
 ·rcases C.new a hm with z|z
  ·exact .inl z
  ·refine .inr fun o' e=>z o' ?_
   show upd A.H p o a=some o'
   rw[a0t (ne (by rw[e];exact fun z=>nomatch z))];exact e
 ·rcases C.new p hm with z|z
  ·exact h2 z
  ·have:=z o hp
   rw[hz] at this;cases this
 ·obtain⟨a,u,e1,_,_,_,_,e6,_⟩:=C.own i c hc
  rw[e] at e1;cases e1
  have e6:upd A.H p o p=none:=e6
  rw[a0w] at e6;cases e6
theorem ao.Qy (C:ao K A st σ H ts Hb ι) {p:Addr} {o:HO} (h1:A.H p=none) (h2:Hb p=none) (h3:p∉ι) (h4:∀(i:Nat) c,st.s[i]?=some (.own c)→σ[i]?≠some (some (.ref p))):ao K A st σ (upd H p o) ts Hb ι:=
 {C with
  keep:=fun a u e n=>by
   have q:a≠p:=fun z=>by rw[z,h1] at e;cases e
   rw[a0t q];exact C.keep a u e n
  bH:=fun a u e=>by
   have q:a≠p:=fun z=>by rw[z,h2] at e;cases e
   rw[a0t q];exact C.bH a u e
  obj:=fun n b e=>by
   obtain⟨a,u,e1,e2,e3⟩:=C.obj n b e
   have q:a≠p:=fun z=>h3 (z▸a0u e1)
   exact⟨a,u,e1,by rw[a0t q];exact e2,e3⟩
  own:=fun i b e=>by
   obtain⟨a,u,e1,e2,e3⟩:=C.own i b e
   have q:a≠p:=fun z=>h4 i b e (by rw[e1,z])
   exact⟨a,u,e1,by rw[a0t q];exact e2,e3⟩}
theorem Hj {lk:ST→Prop} {st0:ST}:∀{rs:List R} {ds:List D},iJ lk k t e vs st0 rs=some ds→ds.length≤rs.length
 | [],ds,h=>by
  unfold iJ at h
  split at h
  ·cases h;simp
  ·cases h
 | r::rs,ds,h=>by
  unfold iJ at h
  split at h
  ·split at h
   ·split at h
    ·split at h
     ·split at h
      ·split at h
       ·split at h
        ·obtain⟨x,hx,rfl⟩:=a0b.mp h
         have:=Hj hx
         simp;omega
        ·cases h
       ·cases h
      ·cases h
     ·split at h
      ·have:=Hj h;simp;omega
      ·cases h
     ·cases h
    ·cases h
   ·cases h
  ·cases h
theorem ZX {A:Ac} {s1:ST} {σ:L2.St} {H1:Hp} {ts:List Tp} {J:It} {tp:Tp} {w:Wk} {all:List D} {Q:VK} (hg:Kf K vs g k) (ht:XT K W tt t) (he:XE K W te e) (C1:Cf K A s1 σ H1 (tp::ts)) (wk:Walk K A J tp w) (hlen:w.xs.length≤16000000)
  (hall:iJ w.lk k t e vs ⟨eX s1.s vs,s1.h⟩ w.xs=some all) (p:∀v H2,g8 K A ⟨eX s1.s vs,s1.h⟩ σ H2 ts (.lst all) v→Q v H2):tLc (fun _ H R=>R J H) g tt te vs σ H1 Q:=by
 intro P hP
 obtain⟨jH,jJ,C1⟩:=C1
 have C1:=C1.Jw vs
 generalize hst0:(⟨eX s1.s vs,s1.h⟩:ST)=st0 at C1 hall p
 obtain⟨f1,f2,f3,f4⟩:=C1.fresh hP
 have hAB:A.B P=none:=C1.eB.none f1
 have aaL:P∉A.ι:=fun z=>f2 (C1.pre.mem z)
 refine⟨fun i m H=>m=w.xs.length-i∧i≤w.xs.length∧∃acc done rest Hb ι,ao K A st0 (wipe σ vs) H (tp::ts) Hb ι∧H P=some (.lst acc)∧Hb P=none∧P∉ι∧(∀(i:Nat) c,st0.s[i]?=some (.own c)→(wipe σ vs)[i]?≠some (some (.ref P)))∧aj K Hb done acc∧iJ w.lk k t e vs st0 (w.xs.drop i)=some rest∧all=done++rest,
  ⟨w.xs.length,by simp,Nat.zero_le _,[],[],all,jH,jJ,C1.Qy f3 f1 f2 f4,a0w,f1,f2,f4,aj.nil,by simpa using hall,rfl⟩,?_⟩
 rintro i m H2 ⟨rfl,hle,acc,done,rest,Hb,ι,C2,hP2,hbP,Qz,Q8,ra,hrest,hal⟩
 by_cases hlt:i<w.xs.length
 ·have hd:w.xs.drop i=w.xs[i]::w.xs.drop (i+1):=List.drop_eq_getElem_cons hlt
  rw[hd] at hrest
  unfold iJ at hrest
  by_cases hlk:w.lk st0
  ·rw[a0d hlk] at hrest
   refine .inr ⟨wk.goes i A st0 _ H2 ts (Ex.refl _) ⟨Hb,ι,C2⟩ hlk hlt,fun H'=>∃acc done rest Hb ι,ao K A st0 (wipe σ vs) H' (tp::ts) Hb ι∧H' P=some (.lst acc)∧Hb P=none∧P∉ι∧(∀(i:Nat) c,st0.s[i]?=some (.own c)→(wipe σ vs)[i]?≠some (some (.ref P)))∧aj K Hb done acc∧iJ w.lk k t e vs st0 (w.xs.drop (i+1))=some rest∧all=done++rest,
    fun H' hN=>⟨w.xs.length-(i+1),by omega,rfl,hlt,hN⟩,fun x H3 yy=>?_⟩
   have C3:Cf K ⟨upd A.H P (.lst acc),A.B,A.ι⟩ st0 (wipe σ vs) H2 (tp::J_ K done acc::ts):=⟨Hb,ι,(C2.fin f3 hP2 hbP Qz Q8).temps fun q hq=>by
    rcases a0c.mp hq with rfl|hq
    ·exact C2.tmp q (by simp)
    ·rcases a0c.mp hq with rfl|hq
     ·exact ra
     ·exact C2.tmp q (by simp[hq])⟩
   have C4:=wk.yields i w.xs[i] ⟨upd A.H P (.lst acc),A.B,A.ι⟩ st0 _ H2 x H3 _ (a0h hlt) (Ex.new f3) C3 hlk yy
   cases ek:k w.xs[i] st0 with
   | none=>rw[ek] at hrest;cases hrest
   | some z=>
    rw[ek] at hrest
    cases z with
    | ex x s=>cases hrest
    | ok u sb=>
     simp only at hrest
     by_cases hback:(⟨eX sb.s vs,sb.h⟩:ST)=st0
     ·rw[a0d hback] at hrest
      refine hg _ st0 _ H3 _ w.xs[i] x C4 _ sb ek fun σ2 H4 C5 e2=>⟨by rw[e2,LC],?_⟩
      rw[LC] at e2
      have back:∀{H5:Hp} {us:List Tp},Cf K ⟨upd A.H P (.lst acc),A.B,A.ι⟩ sb σ2 H5 us→∃Hb ι,ao K A st0 (wipe σ vs) H5 us Hb ι∧H5 P=some (.lst acc)∧Hb P=none∧P∉ι∧∀(i:Nat) c,st0.s[i]?=some (.own c)→(wipe σ vs)[i]?≠some (some (.ref P)):=fun {H5 us} ⟨fJ,fQ,C6⟩=>by
       have C7:=C6.Jw vs
       rw[hback,e2] at C7
       obtain⟨a,b,c,d,e⟩:=C7.fout f3 hAB aaL
       exact⟨fJ,fQ,a,b,c,d,e⟩
      cases et:t sb with
      | none=>rw[et] at hrest;cases hrest
      | some z=>
       rw[et] at hrest
       cases z with
       | ex x s=>cases hrest
       | ok b s2=>
        cases b with
        | true=>
         simp only at hrest
         by_cases hs2:s2=sb
         ·rw[a0d hs2] at hrest
          subst hs2
          refine ht _ s2 σ2 H4 _ C5 _ _ et fun H5 C6=>?_
          rw[a0d rfl]
          cases ee:e s2 with
          | none=>rw[ee] at hrest;cases hrest
          | some z=>
           rw[ee] at hrest
           cases z with
           | ex x s=>cases hrest
           | ok r s3=>
            cases r with
            | o n=>cases hrest
            | w j=>cases hrest
            | d xd=>
             simp only at hrest
             by_cases hs3:s3=s2
             ·rw[a0d hs3] at hrest
              subst hs3
              obtain⟨rest',hr',hrr⟩:=a0b.mp hrest
              refine he _ s3 σ2 H5 _ C6 _ _ ee fun yv H6 C7=>?_
              obtain⟨rQ,Kg,C8,a,b,c,d⟩:=back C7
              have ry:Rp K rQ xd yv:=C8.tmp (rt K σ2 (.d xd) yv) (by simp)
              have rr:aj K rQ done acc:=C8.tmp (J_ K done acc) (by simp)
              refine⟨acc,a,?_,acc++[yv],done++[xd],rest',rQ,Kg,(C8.temps (ts':=tp::ts) fun q hq=>C8.tmp q (by rcases a0c.mp hq with h|h<;>simp[h])).Qy f3 b c d,a0w,b,c,d,rr.app (aj.one ry),hr',by rw[hal,← hrr];simp⟩
              have hdl:done.length<w.xs.length:=by
               have h1:=Hj hall
               have h2:all.length=done.length+rest.length:=by rw[hal];simp
               rw[← hrr] at h2
               simp at h2;omega
              rw[← rr.len,a0m];omega
             ·rw[a0j hs3] at hrest;cases hrest
         ·rw[a0j hs2] at hrest;cases hrest
        | false=>
         simp only at hrest
         by_cases hs2:s2=sb
         ·rw[a0d hs2] at hrest
          subst hs2
          refine ht _ s2 σ2 H4 _ C5 _ _ et fun H5 C6=>?_
          rw[a0j b0c]
          obtain⟨rQ,Kg,C8,a,b,c,d⟩:=back C6
          have rr:aj K rQ done acc:=C8.tmp (J_ K done acc) (by simp)
          exact⟨acc,done,rest,rQ,Kg,C8.temps (ts':=tp::ts) fun q hq=>C8.tmp q (by rcases a0c.mp hq with h|h<;>simp[h]),a,b,c,d,rr,hrest,hal⟩
         ·rw[a0j hs2] at hrest;cases hrest
     ·rw[a0j hback] at hrest;cases hrest
  ·rw[a0j hlk] at hrest;cases hrest
 ·have hi':i=w.xs.length:=by omega
  subst hi'
  rw[List.drop_length] at hrest
  unfold iJ at hrest
  by_cases hlk:w.lk st0
  ·rw[a0d hlk] at hrest
   cases hrest
   rw[a0U] at hal
   subst hal
   refine .inl ⟨wk.stops A st0 _ H2 ts (Ex.refl _) ⟨Hb,ι,C2⟩ hlk,p _ H2 ⟨Hb,ι,P,_,(C2.ZW).temps fun q hq=>C2.tmp q (by simp[hq]),rfl,hP2,⟨acc,rfl,ra⟩,hbP,Qz,f3,rfl,fun i c hc z=>?_⟩⟩
   obtain⟨a,u,e1,_⟩:=C2.own i c hc
   have:=(wipe_some e1).1
   rw[z] at this;cases this
   exact Q8 i c hc e1
  ·rw[a0j hlk] at hrest;cases hrest
theorem I_ (hi:XI K W wi it) (hg:Kf K vs g k) (ht:XT K W tt t) (he:XE K W te e):XN K W (tLc wi g tt te vs) (nZ it k t e vs):=fun A st σ H ts C Q y hy p=>by
 unfold nZ at hy
 cases ei:it st with
 | none=>rw[ei] at hy;cases hy
 | some z=>
  rw[ei] at hy
  cases z with
  | ex x s=>cases hy;exact hi A st σ H ts C _ _ ei p
  | ok w s1=>
   simp only at hy
   by_cases hlen:w.xs.length≤16000000
   ·rw[a0d hlen] at hy
    obtain⟨all,hall,rfl⟩:=a0b.mp hy
    exact hi A st σ H ts C _ _ ei fun J tp H1 C1 wk=>ZX hg ht he C1 wk hlen hall p
   ·rw[a0j hlen] at hy;cases hy
end
end AL
namespace AL
open PySem L2 DL PyProof.Rows
def Oo:M R:=fun _=>none
open Classical in
noncomputable def iY (C:Addr) (p:Str) (fa:M (List R)):S:=fun st=>match fa st with
 | some (.ok [.d x] st')=>if fW x then some (.ex ⟨C,[p],[x]⟩ st') else none
 | some (.ex x st')=>some (.ex x st')
 | _=>none
section
variable {K:PySem.W.Frag} {W:WX} {A:Ac} {st:ST} {σ:L2.St} {H Hb:Hp} {ts:List Tp} {ι:List Addr} {ta:TA} {fa:M (List R)} {te:TE} {f:M R}
theorem nq {C:Addr} {q:Str} (ha:XA K W ta fa):XS K W (DL.Qq C q W ta) (iY C q fa):=fun A st σ H fs Cc T y hy p=>by
 unfold iY at hy
 split at hy
 ·rename_i x st' h1
  by_cases hx:fW x
  ·rw[a0d hx] at hy
   cases hy
   refine ha A st σ H fs Cc _ _ h1 fun vs H1 ⟨Hb,ι,C1⟩=>?_
   obtain⟨v,rfl,hv⟩:=mO (C1.tmp (iH K σ [.d x] vs) (by simp))
   have hv:Rp K Hb x v:=hv
   refine⟨v,rfl,hx.v hv,fun dd hdd=>p _ _ σ _ ?_⟩
   have C2:ao K A st' σ H1 fs Hb ι:=C1.temps fun q hq=>C1.tmp q (by simp[hq])
   obtain⟨f1,f2,f3,f4⟩:=C2.fresh hdd
   exact⟨Hb,ι,dd,[v],C2.vY (Ex.new hdd) (Ex.refl _) (C2.bH.trans (Ex.new hdd)) (fun a h1 h2=>absurd h1 h2),rfl,rfl,a0w,rfl,aj.one hv,f3,f1⟩
  ·rw[a0j hx] at hy;cases hy
 ·rename_i x st' h1
  cases hy
  exact ha A st σ H fs Cc _ _ h1 fun cls d H2 X=>p cls d σ H2 X
 ·cases hy
structure Hd where
 m:Addr→Option Bool
 nm:Option Nat
 g:XD→Addr→Addr→S
open Classical in
noncomputable def pU (g:Addr→Addr→S):S:=fun st=>if h:∃y,∀a d,g a d st=some y then some (Classical.choose h) else none
theorem Xg {g:Addr→Addr→S} {st:ST} {y:Rs} (h:∀a d,g a d st=some y):pU g st=some y:=by
 have hh:∃y,∀a d,g a d st=some y:=⟨y,h⟩
 unfold pU
 rw[dif_pos hh]
 have e:=Classical.choose_spec hh 0 0
 rw[h 0 0] at e;exact e.symm
theorem MJ {g:Addr→Addr→S} {st:ST} {y:Rs} (h:pU g st=some y):∀a d,g a d st=some y:=by
 unfold pU at h
 split at h
 ·rename_i hh
  cases h
  exact Classical.choose_spec hh
 ·cases h
def Jx (i:Nat):Rs→Rs
 | .nx st=>.nx ⟨st.s.set i .no,st.h⟩
 | .bk st=>.bk ⟨st.s.set i .no,st.h⟩
 | .ct st=>.ct ⟨st.s.set i .no,st.h⟩
 | .rt r st=>.rt r ⟨st.s.set i .no,st.h⟩
 | .rn r st=>.rn r ⟨st.s.set i .no,st.h⟩
 | .ex x st=>.ex x ⟨st.s.set i .no,st.h⟩
noncomputable def hdl:List Hd→XD→S
 | [],x,st=>some (.ex x st)
 | h::r,x,st=>match h.m x.C with
  | some true=>(match h.nm with
   | none=>pU (h.g x) st
   | some i=>pU (fun a d st=>(h.g x a d ⟨st.s.set i (.v (.d (.exc a x.C d x.fs x.ds))),st.h⟩).map (Jx i)) st)
  | some false=>hdl r x st
  | none=>none
noncomputable def rC (b:S) (hs:List Hd):S:=fun st=>match b st with
 | some (.ex x st')=>hdl hs x st'
 | o=>o
structure aaM (K:PySem.W.Frag) (W:WX) (c:nR) (h:Hd):Prop where
 m:∀C b,h.m C=some b→PySem.W.exmOne K (.ref C) c.c=some b
 nm:c.nm=h.nm
 g:∀x a d,XS K W (c.ts a (.ref x.C) (some d)) (h.g x a d)
theorem ao.aaN (C:ao K A st σ H ts Hb ι) {dd:Addr} {fs:List (Str×V)} (h1:H dd=some (.xd fs)) (h2:Hb dd=none) (h3:A.H dd=none):ao K A st σ H ts (upd Hb dd (.xd fs)) ι:=by
 obtain⟨n1,n2⟩:=C.nX h1
 have eb:Ex Hb (upd Hb dd (.xd fs)):=Ex.new h2
 refine {C with eB:=C.eB.trans eb,bH:=fun a o e=>?_,ap:=fun a e1 e2=>?_,val:=fun i r h=>?_,obj:=fun n b h=>?_,own:=fun i b h=>?_,tmp:=fun q hq=>q.m _ _ _ _ (bM.refl _) eb.rl (C.tmp q hq)}
 ·by_cases z:a=dd
  ·subst z;rw[a0w] at e;cases e;exact h1
  ·rw[a0t z] at e;exact C.bH a o e
 ·have z:a≠dd:=fun z=>e2 (by rw[z];exact h3)
  rw[a0t z];exact C.ap a e1 e2
 ·obtain⟨v,e,q⟩:=C.val i r h
  exact⟨v,e,q.mono (bM.refl _) eb.rl⟩
 ·obtain⟨a,u,e1,e2,e3,e4⟩:=C.obj n b h
  have z:a≠dd:=fun z=>n1 (z▸a0u e1)
  exact⟨a,u,e1,e2,e3.mono (bM.refl _) eb.rl,by rw[a0t z];exact e4⟩
 ·obtain⟨a,u,e1,e2,e3,e4,e5⟩:=C.own i b h
  have z:a≠dd:=fun z=>n2 i b h (by rw[e1,z])
  exact⟨a,u,e1,e2,e3.mono (bM.refl _) eb.rl,by rw[a0t z];exact e4,e5⟩
theorem ao.Jy (C:ao K A st σ H ts Hb ι) (i:Nat):ao K A ⟨st.s.set i .no,st.h⟩ σ H ts Hb ι:=by
 by_cases h:i<σ.length
 ·have:=C.wQ i σ[i]
  rwa [List.set_getElem_self] at this
 ·have:=C.wQ i none
  have e:List.set σ i none=σ:=List.set_eq_of_length_le (by omega)
  rwa [e] at this
theorem Yx {tb:WX→TS} {l:List nR} {hs:List Hd} {b:S} (hb:∀W',XS K W' (tb W') b) (hh:Paired (aaM K W) l hs):XS K W (Qs K W l tb) (rC b hs):=fun A st σ H fs C T y hy p=>by
 show tb (t_ K W T l) T σ H
 unfold rC at hy
 cases e:b st with
 | none=>rw[e] at hy;cases hy
 | some z=>
  rw[e] at hy
  refine hb _ A st σ H fs C T z e ?_
  cases z with
  | nx st'=>cases hy;exact p
  | rt r st'=>cases hy;exact p
  | rn r st'=>cases hy;exact p
  | bk st'=>cases hy;exact p
  | ct st'=>cases hy;exact p
  | ex x st'=>
   intro cls d σ' H' X
   have hy:hdl hs x st'=some y:=hy
   clear e
   induction hh with
   | nil=>cases hy;exact p cls d σ' H' X
   | @cons c h l' hs' hc hr ih=>
    obtain⟨Hb,ι,dd,vs,C2,rfl,rfl,hdd,hlen,rr,n1,n2⟩:=id X
    unfold hdl at hy
    cases em:h.m x.C with
    | none=>rw[em] at hy;cases hy
    | some bb=>
     rw[em] at hy
     refine⟨bb,hc.m _ _ em,fun eb a na=>?_,fun eb=>?_⟩
     ·subst eb
      simp only at hy
      rw[hc.nm]
      cases en:h.nm with
      | none=>
       rw[en] at hy
       exact hc.g x a dd A st' σ' H' fs ⟨Hb,ι,C2⟩ T y (MJ hy a dd) p
      | some i=>
       rw[en] at hy
       obtain⟨z,hz,rfl⟩:=a0b.mp (MJ hy a dd)
       have C3:=C2.aaN hdd n2 n1
       have C4:=C3.qX (v:=.ref a) (r:=.d (.exc a x.C dd x.fs x.ds)) (by
        show Rp K _ _ _
        unfold Rp
        exact⟨vs,rfl,a0w,hlen,aj.mono (Ex.new n2).rl _ _ rr⟩) i
       refine hc.g x a dd A _ _ H' fs ⟨_,ι,C4⟩ (O_ i T) z hz ?_
       have low:∀{s3:ST} {σ3:L2.St} {H3:Hp},Cf K A s3 σ3 H3 fs→Cf K A ⟨s3.s.set i .no,s3.h⟩ (σ3.set i none) H3 fs:=fun⟨jK,jL,C5⟩=>⟨jK,jL,C5.wQ i none⟩
       cases z with
       | nx s3=>exact fun σ3 H3 C5=>p _ _ (low C5)
       | bk s3=>exact fun σ3 H3 C5=>p _ _ (low C5)
       | ct s3=>exact fun σ3 H3 C5=>p _ _ (low C5)
       | rt r s3=>exact fun σ3 v H3 ⟨jK,jL,C5⟩=>p σ3 v H3 ⟨jK,jL,C5.Jy i⟩
       | rn r s3=>
        intro σ3 v H3 CO
        obtain⟨jK,jL,a2,u2,C5,k2,k3,k4,k5,k6,k7,k8,k9⟩:=CO
        refine p σ3 v H3 ⟨jK,jL,a2,u2,C5.Jy i,k2,k3,k4,k5,k6,k7,k8,fun j c hc=>?_⟩
        rcases get_set hc with ⟨_,e',_⟩|⟨_,hc⟩
        ·cases e'
        ·exact k9 j c hc
       | ex x s3=>
        intro cls d σ3 H3 X3
        obtain⟨jK,jL,d3,v3,C5,k⟩:=X3
        exact p cls d σ3 H3 ⟨jK,jL,d3,v3,C5.Jy i,k⟩
     ·subst eb
      exact ih hy hy
def Kh (a C:Addr) (d:Addr) (n:Str) (f:M R):M R:=f.of fun _ r=>match r with
 | .d (.exc a' C' d' fs ds)=>if a'=a∧C'=C∧d'=d then((fs.zip ds).lookup n).map .d else none
 | _=>none
theorem aaO {a C0 C d:Addr} {n:Str} (hf:XE K W te f):XE K W (tXf a (.ref C0) (some d) C n te) (if C0=C then Kh a C d n f else Oo):=fun A st σ H ts Cc Q y hy p=>by
 by_cases hc:C0=C
 ·rw[a0d hc] at hy
  subst hc
  rcases k_ hy with ⟨r,s1,b,h1,h2,rfl⟩|⟨x,s1,h1,rfl⟩
  ·split at h2
   ·rename_i a' C' d' fs ds
    by_cases hq:a'=a∧C'=C0∧d'=d
    ·rw[a0d hq] at h2
     obtain⟨rfl,rfl,rfl⟩:=hq
     obtain⟨xd,hx,rfl⟩:=a0b.mp h2
     refine hf A st σ H ts Cc _ _ h1 fun v H1 ⟨Hb,ι,C1⟩=>?_
     have hv:Rp K Hb (.exc a' C' d' fs ds) v:=C1.tmp (rt K σ (.d (.exc a' C' d' fs ds)) v) (by simp)
     unfold Rp at hv
     obtain⟨vs,rfl,hx',hlen,rr⟩:=hv
     obtain⟨u,hu,ru⟩:=LQ hlen rr hx
     exact⟨rfl,rfl,d',_,u,rfl,C1.bH _ _ hx',hu,p _ _ ((C1.temps fun q hq=>C1.tmp q (by simp[hq])).fO ru)⟩
    ·rw[a0j hq] at h2;cases h2
   ·cases h2
  ·exact hf A st σ H ts Cc _ _ h1 p
 ·rw[a0j hc] at hy;cases hy
end
end AL
namespace AL
open PySem L2 DL PyProof.Rows
section
variable {K:PySem.W.Frag} {W:WX} {A:Ac} {st:ST} {σ:L2.St} {H Hb:Hp} {ts:List Tp} {ι:List Addr} {g:TG} {k:G} {b:S} {tb:WX→TS} {te:TE}
theorem Rt.rl {ι:List Addr} {Hb bF:Hp} {r:R} {v:V} (h:Rt K σ ι Hb r v) (rl:Rl Hb bF):Rt K σ ι bF r v:=(rt K σ r v).m _ _ _ _ (bM.refl _) rl h
theorem ao.nA (C:ao K A st σ H ts Hb ι) {a:Addr} {o:HO} (hb:Hb a=some o):a∉ι∧a∉A.ι:=by
 have n1:a∉ι:=fun hm=>by
  obtain⟨n,hn⟩:=a0J hm
  have hlt:n<st.h.length:=by rw[← C.hl];exact(a0f.mp hn).1
  obtain⟨x,u,g1,_,_,g4⟩:=C.obj n _ (a0h hlt)
  rw[hn] at g1;cases g1
  rw[hb] at g4;cases g4
 exact⟨n1,fun z=>n1 (C.pre.mem z)⟩
theorem ao.pin (C:ao K A st σ H ts Hb ι) {a:Addr} {o:HO} (hb:Hb a=some o):ao K ⟨upd A.H a o,upd A.B a o,A.ι⟩ st σ H ts Hb ι:=by
 obtain⟨Kl,_⟩:=C.nA hb
 refine {C with keep:=fun x u e n=>?_,eB:=fun x u e=>?_,ap:=fun x h1 h2=>?_,own:=fun i c h=>?_,new:=fun x hm=>?_}
 ·have e:upd A.H a o x=some u:=e
  by_cases z:x=a
  ·subst z;rw[a0w] at e;cases e;exact C.bH x _ hb
  ·rw[a0t z] at e;exact C.keep x u e n
 ·have e:upd A.B a o x=some u:=e
  by_cases z:x=a
  ·subst z;rw[a0w] at e;cases e;exact hb
  ·rw[a0t z] at e;exact C.eB x u e
 ·have h1:upd A.B a o x=none:=h1
  have h2:upd A.H a o x≠none:=h2
  have z:x≠a:=fun z=>by rw[z,a0w] at h1;cases h1
  rw[a0t z] at h1 h2
  exact C.ap x h1 h2
 ·obtain⟨x,u,e1,e2,e3,e4,e5,e6,e7⟩:=C.own i c h
  have z:x≠a:=fun z=>by rw[z,hb] at e4;cases e4
  exact⟨x,u,e1,e2,e3,e4,e5,by show upd A.H a o x=none;rw[a0t z];exact e6,e7⟩
 ·have z:x≠a:=fun z=>Kl (z▸hm)
  exact(C.new x hm).imp id fun q o' e=>q o' (by have e:upd A.H a o x=some o':=e;rw[a0t z] at e;exact e)
theorem ao.unpin {st5:ST} {uN:L2.St} {H5:Hp} {us:List Tp} {fJ:Hp} {fQ:List Addr} {a:Addr} {o:HO} (C:ao K A st σ H ts Hb ι) (hb:Hb a=some o) (C5:ao K ⟨upd A.H a o,upd A.B a o,A.ι⟩ st5 uN H5 us fJ fQ):ao K A st5 uN H5 us fJ fQ:=by
 have wV:fJ a=some o:=C5.eB a _ a0w
 have hH5:H5 a=some o:=C5.bH a _ wV
 obtain⟨_,nA⟩:=C.nA hb
 obtain⟨Kl,_⟩:=C5.nA wV
 refine {C5 with keep:=fun x u e n=>?_,eB:=fun x u e=>?_,ap:=fun x h1 h2=>?_,own:=fun i c h=>?_,new:=fun x hm=>?_}
 ·by_cases z:x=a
  ·subst z
   have:=C.keep x u e n
   rw[C.bH x _ hb] at this;cases this
   exact hH5
  ·exact C5.keep x u (by show upd A.H a o x=some u;rw[a0t z];exact e) n
 ·by_cases z:x=a
  ·subst z
   have:=C.eB x u e
   rw[hb] at this;cases this
   exact wV
  ·exact C5.eB x u (by show upd A.B a o x=some u;rw[a0t z];exact e)
 ·have z:x≠a:=fun z=>by
   subst z
   have:=C.ap x h1 h2
   rw[hb] at this;cases this
  exact C5.ap x (by show upd A.B a o x=none;rw[a0t z];exact h1) (by show upd A.H a o x≠none;rw[a0t z];exact h2)
 ·obtain⟨x,u,e1,e2,e3,e4,e5,e6,e7⟩:=C5.own i c h
  have z:x≠a:=fun z=>by rw[z,wV] at e4;cases e4
  have e6:upd A.H a o x=none:=e6
  rw[a0t z] at e6
  exact⟨x,u,e1,e2,e3,e4,e5,e6,e7⟩
 ·have z:x≠a:=fun z=>Kl (z▸hm)
  exact(C5.new x hm).imp id fun q o' e=>q o' (by show upd A.H a o x=some o';rw[a0t z];exact e)
theorem uM.pin {a:Addr} {o:HO} {fs:List Tp} {T:Ends} {y:Rs} (C:ao K A st σ H ts Hb ι) (hb:Hb a=some o) (p:uM K W A fs T y):uM K W ⟨upd A.H a o,upd A.B a o,A.ι⟩ fs T y:=by
 have nH:∀{b:Addr},upd A.H a o b=none→A.H b=none:=fun {b} h=>by
  by_cases z:b=a
  ·rw[z,a0w] at h;cases h
  ·rw[a0t z] at h;exact h
 cases y with
 | nx st=>exact fun σ H ⟨fJ,fQ,C5⟩=>p σ H ⟨fJ,fQ,C.unpin hb C5⟩
 | bk st=>exact fun σ H ⟨fJ,fQ,C5⟩=>p σ H ⟨fJ,fQ,C.unpin hb C5⟩
 | ct st=>exact fun σ H ⟨fJ,fQ,C5⟩=>p σ H ⟨fJ,fQ,C.unpin hb C5⟩
 | rt r st=>exact fun σ v H ⟨fJ,fQ,C5⟩=>p σ v H ⟨fJ,fQ,C.unpin hb C5⟩
 | rn b st=>
  intro σ v H CO
  obtain⟨fJ,fQ,a2,u2,C5,h2,h3,h4,h5,h6,h7,h8⟩:=CO
  exact p σ v H ⟨fJ,fQ,a2,u2,C.unpin hb C5,h2,h3,h4,h5,h6,nH h7,h8⟩
 | ex x st=>
  intro cls d σ H X
  obtain⟨fJ,fQ,dd,vs,C5,h2,h3,h4,h5,h6,h7,h8⟩:=X
  exact p cls d σ H ⟨fJ,fQ,dd,vs,C.unpin hb C5,h2,h3,h4,h5,h6,nH h7,h8⟩
end
def runN (n m:Nat) (b:S):Fn:=fun args h=>if args.length=n then rB m b args h else none
theorem Hl {n m:Nat} {b:S} {args:List R} {h:List Ob} {y:Ot×List Ob} (e:runN n m b args h=some y):args.length=n∧rB m b args h=some y:=by
 unfold runN at e
 by_cases q:args.length=n
 ·rw[a0d q] at e;exact⟨q,e⟩
 ·rw[a0j q] at e;cases e
def rD:List D→Option (List Str)
 | []=>some []
 | .str s::ds=>(rD ds).map (s::·)
 | _::_=>none
theorem MK:∀{ds:List D} {ss:List Str},rD ds=some ss→ds=ss.map .str
 | [],ss,h=>by cases h;rfl
 | d::ds,ss,h=>by
  cases d<;>first|cases h;done|skip
  simp only[rD] at h
  obtain⟨t,ht,rfl⟩:=a0b.mp h
  rw[MK ht];rfl
theorem Xh (ss:List Str):rD (ss.map .str)=some ss:=by
 induction ss with
 | nil=>rfl
 | cons s ss ih=>show (rD (ss.map .str)).map (s::·)=_;rw[ih];rfl
def tM (f g:M R):M R:=f.bind fun o st1=>match o with
 | .d (.str s)=>(g.bind fun a st=>(dM st a).bind fun ds=>(rD ds).bind fun ss=>if (ss.map (·.length)).sum+ss.length*s.length≤16777216 then some (.ok (.d (.str (Txt.join s ss))) st) else none) st1
 | _=>none
theorem Yy {K:PySem.W.Frag} {W:WX} {to te:TE} {f g:M R} (ho:XE K W to f) (he:XE K W te g):XE K W (tM1 (fun x xs H Q=>∃a p,∃ys:List Str,x=.str a∧xs=[.ref p]∧(SqL K H p (ys.map V.str)∨SqT K H p (ys.map V.str))∧(ys.map (·.length)).sum+ys.length*a.length≤16777216∧Q (.str (Txt.join a ys)) H) to te) (tM f g):=fun A st σ H ts C Q y hy p=>by
 rcases iQ hy with ⟨o,s1,h1,h2⟩|⟨x,s1,h1,rfl⟩
 ·split at h2
  ·rename_i s
   refine ho A st σ H ts C _ _ h1 fun v H1 C1=>?_
   obtain⟨jH,jJ,wR⟩:=id C1
   have hv:v=.str s:=wR.tmp (rt K σ (.d (.str s)) v) (by simp)
   refine⟨⟨s,hv⟩,?_⟩
   rcases iQ h2 with ⟨a,s2,h3,h4⟩|⟨x,s2,h3,rfl⟩
   ·refine he A s1 σ H1 _ C1 _ _ h3 fun u H2 ⟨Hb,ι,C2⟩=>?_
    obtain⟨ds,hd,h5⟩:=a0a.mp h4
    obtain⟨ss,hs,h6⟩:=a0a.mp h5
    obtain⟨hz,rfl⟩:=ite_some h6
    obtain⟨a',vs,rfl,sq,r⟩:=C2.dM (C2.tmp (rt K σ a u) (by simp)) hd
    rw[MK hs] at r
    have e:=Mu r
    subst e
    exact⟨s,a',ss,hv,rfl,.inl (.inl sq),hz,p _ _ ((C2.temps fun q hq=>C2.tmp q (by simp[hq])).fO (by unfold Rp;rfl))⟩
   ·exact he A s1 σ H1 _ C1 _ _ h3 fun cls d H2 X=>p cls d H2 X.drop
  ·cases h2
 ·exact ho A st σ H ts C _ _ h1 p
end AL
set_option maxHeartbeats 2000000
namespace DL
open PySem L2 PyProof.Rows
section
variable {X:Cx} {C:Addr} {ps:List Str} {k j:Nat} {sp:Sp} {W:WX} {e o i:Expr} {to ti ta:TE} {p pos:Pos}
theorem Yz {σ:L2.St}:PassesAt (L2.CX X.prog X.w) X σ E0:=fun pins H s e s' I h=>passL pins σ H s e s' I h
end
end DL
set_option maxHeartbeats 2000000
namespace DL
open PySem L2 PyProof.Rows
end DL
set_option maxHeartbeats 2000000
namespace AL
open PySem L2 DL PyProof.Rows
end AL
namespace DL
open PySem L2 PyProof.Rows
end DL
set_option maxHeartbeats 2000000
namespace DL
open PySem L2 PyProof.Rows
end DL
namespace AL
open PySem L2 DL PyProof.Rows
section
variable {K:PySem.W.Frag} {W:WX} {A:Ac} {st:ST} {σ:L2.St} {H Hb:Hp} {ts:List Tp} {ι:List Addr} {tt:TT} {t:M Bool} {tb te:TE} {e:M R} {g:TG} {k:G} {vs:List Nat}
theorem g8.unpin {a:Addr} {o:HO} {st5:ST} {uN:L2.St} {H5:Hp} {us:List Tp} {b:Ob} {v:V} (C:ao K A st σ H ts Hb ι) (hb:Hb a=some o) (CO:g8 K ⟨upd A.H a o,upd A.B a o,A.ι⟩ st5 uN H5 us b v):g8 K A st5 uN H5 us b v:=by
 obtain⟨fJ,fQ,a2,u2,C5,h2,h3,h4,h5,h6,h7,h8⟩:=CO
 have nH:A.H a2=none:=by
  have h7:upd A.H a o a2=none:=h7
  by_cases z:a2=a
  ·rw[z,a0w] at h7;cases h7
  ·rw[a0t z] at h7;exact h7
 exact⟨fJ,fQ,a2,u2,C.unpin hb C5,h2,h3,h4,h5,h6,nH,h8⟩
end
end AL
set_option maxHeartbeats 2000000
namespace AL
open PySem L2 DL PyProof.Rows
section
variable {K:PySem.W.Frag} {W:WX} {tc te t:TE} {f g:M R} {i:Nat} {s:S}
def jE (sub:Addr→Addr→Option Bool) (a C d:Addr) (f g:M R):M R:=(aC f (aC g aN)).of fun _ rs=>match rs with
 | [.d (.exc a' C' d' _fs _ds),.d (.ref B)]=>if a'=a∧C'=C∧d'=d then(sub C B).map fun b=>.d (.bl b) else none
 | _=>none
theorem lF {sub:Addr→Addr→Option Bool} {a C0 d:Addr} (hs:∀D C b,sub D C=some b→eY K D∧PySem.W.kitOne K (.ref D) (.ref C)=some b) (hf:XE K W te f) (hg:XE K W tc g):XE K W (tCB (qW K (.ref C0) (some d) a) (tCons te (tCons tc tNil))) (jE sub a C0 d f g):=fun A st σ H ts Cc Q y hy p=>by
 have ha:=aG hf (aG hg (aW (K:=K) (W:=W)))
 rcases k_ hy with ⟨rs,s1,b,h1,h2,rfl⟩|⟨x,s1,h1,rfl⟩
 ·refine ha A st σ H ts Cc _ _ h1 fun vs H1 ⟨Hb,ι,C1⟩=>?_
  split at h2
  ·rename_i a' C' d' fs ds B _
   by_cases hq:a'=a∧C'=C0∧d'=d
   ·rw[a0d hq] at h2
    obtain⟨rfl,rfl,rfl⟩:=hq
    obtain⟨bb,hb,rfl⟩:=a0b.mp h2
    have hv:Paired (fun r v=>Rt K σ ι Hb r v) [R.d (.exc a' C' d' fs ds),R.d (.ref B)] vs:=C1.tmp (iH K σ _ vs) (by simp)
    cases hv with
    | cons h3 h4=>
     cases h4 with
     | cons h5 h6=>
      cases h6
      rename_i v1 v2 _
      have h3:Rp K Hb (.exc a' C' d' fs ds) v1:=h3
      have h5:Rp K Hb (.ref B) v2:=h5
      unfold Rp at h3 h5
      obtain⟨us,rfl,hx',hlen,rr⟩:=h3
      subst h5
      obtain⟨x1,x2⟩:=hs _ _ _ hb
      refine⟨.ref B,.ref B,C',d',_,bb,rfl,x1,rfl,rfl,C1.bH _ _ hx',fun u hu=>hu,x2,p _ H1 ⟨Hb,ι,C1.temps fun q hq=>?_⟩⟩
      rcases a0c.mp hq with rfl|hq
      ·show Rp K Hb _ _;unfold Rp;rfl
      ·exact C1.tmp q (by simp[hq])
   ·rw[a0j hq] at h2;cases h2
  ·cases h2
 ·exact ha A st σ H ts Cc _ _ h1 p
end
open Classical in
noncomputable def pW (F:Fn):Fn:=fun args h=>match F args h with
 | some (.ret (.d x),h')=>some (.ret (.d x),if h'.take h.length=h then h else h')
 | some (.exc x,h')=>some (.exc x,if h'.take h.length=h then h else h')
 | o=>o
section
variable {K:PySem.W.Frag}
theorem YB {F:Fn} (vs:List V) (H:Hp) (Q:VK) (E:XK) (h:dH K (pW F) vs H Q E):dH K F vs H Q E:=by
 obtain⟨Hb,ι,args,h,y,C,r,e,p⟩:=h
 unfold pW at e
 cases hF:F args h with
 | none=>rw[hF] at e;cases e
 | some z=>
  rw[hF] at e
  refine⟨Hb,ι,args,h,z,C,r,hF,?_⟩
  obtain⟨o,h'⟩:=z
  cases o with
  | exc x=>
   cases e
   show Kc K H Hb ι Q E (.exc x,h')
   intro cls d H2 X
   by_cases q:h'.take h.length=h
   ·obtain⟨t,rfl⟩:=Mx q
    rw[a0d q] at p
    obtain⟨bG,bJ,dd,us,C2,g⟩:=X
    exact p cls d H2 ⟨bG,ι,dd,us,ao.pop C C2 C2.pre (by simp),g⟩
   ·rw[a0j q] at p;exact p cls d H2 X
  | ret w=>
   cases w with
   | d x=>
    cases e
    show Kc K H Hb ι Q E (.ret (.d x),h')
    intro v H2 C2
    by_cases q:h'.take h.length=h
    ·obtain⟨t,rfl⟩:=Mx q
     rw[a0d q] at p
     obtain⟨bG,bJ,C2⟩:=C2
     have C3:=ao.pop C C2 C2.pre (by simp)
     exact p v H2 ⟨bG,ι,C3.temps fun q hq=>by rw[a0n.mp hq];exact C2.tmp (rt K [] (.d x) v) (by simp)⟩
    ·rw[a0j q] at p;exact p v H2 C2
   | o n=>cases e;exact p
   | n b=>cases e;exact p
theorem YC {P:Program} {w:World} {mg:Str→Option Value} {base:Heap} {k:Nat} {f:Addr} {fd:FuncData} {ps:List Str} {F:Fn} (h:FnOk P w K mg base (L2.CX P w) k f fd ps (dH K F)):FnOk P w K mg base (L2.CX P w) k f fd ps (dH K (pW F)):=h.imp YB
end
end AL
namespace AL
open PySem L2 DL PyProof.Rows
end AL
set_option maxHeartbeats 4000000
namespace PySem
namespace bA
open PySem.W PySem.Calls PyProof.Rows PySem.HandSPX
abbrev uO (p1 p2 pre mid:Str) (c1 c2:Nat) (j1 j2 j3 j4 j5 j6:Pos):List Expr:=[.Constant (.str pre) c1 j1,.FormattedValue (.Name p1 j2) 114 none j3,.Constant (.str mid) c2 j4,.FormattedValue (.Name p2 j5) (-1) none j6]
abbrev as2 (p1 p2:Str) (q1 q2 q3 q4 r1 r2 r3 r4:Pos):List Stmt:=[.Assign [.Attribute (.Name "self" q1) p1 q2] (.Name p1 q3) q4,.Assign [.Attribute (.Name "self" r1) p2 r2] (.Name p2 r3) r4]
section
variable {prog:Program} {w:World} {A:Around} {E:Value→Shared→Prop} {R:Result→Shared→Prop} {s:Shared} {K:Frag} {mg:Str→Option Value} {C fI:Addr} {cn qual:Str} {st:Stmt}
theorem V5 {p1 p2 pre mid:Str} {c1 c2:Nat} {j1 j2 j3 j4 j5 j6 q1 q2 q3 q4 r1 r2 r3 r4:Pos} (T:oJ prog K mg C fI cn qual st [p1,p2] (uO p1 p2 pre mid c1 c2 j1 j2 j3 j4 j5 j6) (as2 p1 p2 q1 q2 q3 q4 r1 r2 r3 r4))
  (S:kZ st qual [p1,p2] (uO p1 p2 pre mid c1 c2 j1 j2 j3 j4 j5 j6) (as2 p1 p2 q1 q2 q3 q4 r1 r2 r3 r4)) (hp1:(p1 == ("__debug__":Str))=false) (hp2:(p2 == ("__debug__":Str))=false) (hne:(p1 == p2)=false) (aaP:findIn K (.ref C) p1=some none) (aaQ:findIn K (.ref C) p2=some none)
  (hpre:pre.length≤100) (hmid:mid.length≤100) {v:Value} {i:Int} {ti:Tok} (hi:i.natAbs.log2<1920) (X:L2.Mod K mg s.heap) (hroom:A.depth+1<recursionLimit) (hrep:oU prog w (A.under (.builtin "type.__call__" ⟨[.ref C,v,.int i ti],[]⟩)) s.heap v)
  (hq:∀h' tk e d,Made s.heap h' e C d (fun y=>if y=p2 then some (.int i ti) else if y=p1 then some v else none)→R (.ok (.ret (.ref e))) {s with heap:=h',toks:=tk}) :
  codeAny (model prog w) A (.call (.ref C) ⟨[v,.int i ti],[]⟩) R s:=by
 obtain⟨nm,q,N,bs,bm,sn,sub,ab,col,dd,k0,k1,k2,k3,k5,hC,hbm⟩:=T.cls
 have hcl:clsIn K C=some {name:=nm,bases:=bs,mro:=.ref C::bm,ns:=N,qualname:=q,hasDict:=true,slotNames:=sn,subclasses:=sub,abstract:=ab,collection:=col,hasDel:=false}:=by unfold clsIn;rw[hC]<;>rfl
 obtain⟨hp0,g,dr,tk,os⟩:=s
 have k:∀b o,hp0.get? b=some o→((hp0.push (kdv_tup [v,.int i ti])).push (excO C hp0.objs.size)).get? b=some o:=fun b o e=>Heap.get?_push_of_some _ (Heap.get?_push_of_some _ e)
 have hget:((hp0.push (kdv_tup [v,.int i ti])).push (excO C hp0.objs.size)).get? (hp0.objs.size+1)=some (excO C hp0.objs.size):=by heap_get
 have hnx:K.lookup (hp0.objs.size+1)=none:=by
  cases e:K.lookup (hp0.objs.size+1) with
  | none=>rfl
  | some o=>
   have z:hp0.get? (hp0.objs.size+1)=some o:=X.kin _ _ e
   exact absurd (a0V (Heap.lt_size z)) (Nat.lt_irrefl _)
 have hsz1:[v,Value.int i ti].length≤sizeLine:=by rw[a0m];exact(by decide:2≤16777216)
 have qO:(((("self":Str)::[p1,p2]).zip [Value.ref (hp0.objs.size+1),v,.int i ti]).reverse.lookup ("self":Str))=some (.ref (hp0.objs.size+1)):=S.first _ [v,.int i ti] rfl
 have lp2:(((("self":Str)::[p1,p2]).zip [Value.ref (hp0.objs.size+1),v,.int i ti]).reverse.lookup p2)=some (.int i ti):=by
  show (List.lookup p2 [(p2,Value.int i ti),(p1,v),(("self":Str),Value.ref (hp0.objs.size+1))])=_
  simp[List.lookup]
 have lp1:(((("self":Str)::[p1,p2]).zip [Value.ref (hp0.objs.size+1),v,.int i ti]).reverse.lookup p1)=some v:=by
  show (List.lookup p1 [(p2,Value.int i ti),(p1,v),(("self":Str),Value.ref (hp0.objs.size+1))])=_
  simp only[List.lookup,hne,b0j]
 refine call_own F.excBase_ValueError (fun X=>refsVE_contains X bm hbm) (X.kin _ _ hC) (looks_findIn X.kin T.iC) (fun self=>bind_fn X.kin self T.tC) hsz1 ?_
 refine LK (s:=⟨(hp0.push (kdv_tup [v,.int i ti])).push (excO C hp0.objs.size),g,dr,tk,os⟩) T S (ni X k) hget hnx hroom rfl (fun jp L cda cc s1 Q E1 k1 n1 q1=>?_) fun L cda cc h2 t1 tks hL k2 e2 n2=>?_
 ·
  refine wpAny_JoinedStr ?_
  show wpAny _ _ (eval (.Constant (.str pre) c1 j1) _) _ _ _
  refine a0Z ⟨pre,_,rfl,?_,?_⟩
  ·show (Str.empty++pre).length≤sizeLine
   have:(Str.empty++pre).length=pre.length:=by rw[Str.length_append];show 0+pre.length=_;omega
   rw[this,a0m];omega
  show wpAny _ _ (eval (.FormattedValue (.Name p1 j2) 114 none j3) _) _ _ _
  refine a0X (a0M (a0p S.kind (S.jZ p1 (by simp)) n1 lp1 ?_) hp1)
  refine hrep _ _ _ _ (fun b o e=>k1 _ _ (k _ _ e)) fun y tk tks hy=>?_
  have hys:y.length≤sizeLine:=by rw[a0m];omega
  have ht:=int_text_length_le (k:=1920) (by decide) hi
  have fin:∀(s3:Shared) (z:Tok),(∃tks,s3={s1 with toks:=tks})→∃(y':Str) (t:Tok),Value.str y z=.str y' t∧((Str.empty++pre)++y').length≤sizeLine∧Joins (model prog w) ((A.under (.builtin "type.__call__" ⟨[.ref C,v,.int i ti],[]⟩)).deeper (ksEnv qual (L2.defScope st) L fI (.ref cda) cc)) E1 (evalEach [.Constant (.str mid) c2 j4,.FormattedValue (.Name p2 j5) (-1) none j6] (ksEnv qual (L2.defScope st) L fI (.ref cda) cc)) ((Str.empty++pre)++y') (fun out s₁=>out.length≤sizeLine∧Q (.str out s₁.toks) {s₁ with toks:=s₁.toks+1}) s3:=fun s3 z hs=>by
   obtain⟨Qo,rfl⟩:=hs
   have hl:((Str.empty++pre)++y).length≤1000200:=by
    rw[Str.length_append,Str.length_append]
    show 0+pre.length+y.length≤_
    omega
   have hl2:(((Str.empty++pre)++y)++mid).length≤1000400:=by rw[Str.length_append];omega
   refine⟨y,_,rfl,by rw[a0m];omega,?_⟩
   show wpAny _ _ (eval (.Constant (.str mid) c2 j4) _) _ _ _
   refine a0Z ⟨mid,_,rfl,by rw[a0m];omega,?_⟩
   show wpAny _ _ (eval (.FormattedValue (.Name p2 j5) (-1) none j6) _) _ _ _
   refine wpAny_FormattedValue_plain (a0M (a0p S.kind (S.jZ p2 (by simp)) n1 lp2 ?_) hp2)
   refine wpAny_formatField_int hi ?_
   have hl3:((((Str.empty++pre)++y)++mid)++(Str.ofString (toString i))).length≤sizeLine:=by rw[Str.length_append,ofString_length,a0m];omega
   exact⟨_,_,rfl,hl3,hl3,q1 _ _ _⟩
  exact b0h (fin _ _ ⟨_,rfl⟩) (fin _ _ ⟨_,rfl⟩) hys
 ·
  have hk:(L2.defScope st).kind=.function:=S.kind
  have X2:K.In h2:=fun a o e=>k2 a o (fun z=>by rw[z,hnx] at e;cases e) (k a o (X.kin a o e))
  refine b0i (a0E ?_)
  refine a0M (a0p S.kind (S.jZ p1 (by simp)) n2 lp1 ?_) hp1
  refine a0M (a0p S.kind S.nM n2 qO ?_) (by decide)
  refine set_plain X2 (ox:=excO C t1) (od:=none) ⟨e2,rfl,rfl,trivial⟩ T.sa ?_
  refine exc_osa X2 e2 hcl (show refsVE (.ref C::bm)=true from hbm) rfl aaP (fun h₃ tk₃ dx k₃ dn dne hx₃ hn₃=>?_)
  have tZ:hp0.objs.size+1+1≤L:=by
   have q:=hL
   first
    | (simpa only[Heap.size_push] using q)
    | exact q
  have hLlt:L<h2.objs.size:=n2.lt
  have Lx:L≠hp0.objs.size+1:=Nat.ne_of_gt tZ
  have X3:K.In h₃:=fun a o e=>k₃ a o (fun z=>by rw[z,hnx] at e;cases e) (X2 a o e)
  have n3:h₃.Ns L (fun y=>(((("self":Str)::[p1,p2]).zip [Value.ref (hp0.objs.size+1),v,.int i ti]).reverse.lookup y)):=by
   obtain⟨oL,es,ep,hL',r⟩:=n2
   exact⟨oL,es,ep,k₃ _ _ Lx hL',r⟩
  refine b0i (a0E ?_)
  refine a0M (a0p S.kind (S.jZ p2 (by simp)) n3 lp2 ?_) hp2
  refine a0M (a0p S.kind S.nM n3 qO ?_) (by decide)
  obtain⟨oD,esD,epD,hoD,_⟩:=id hn₃
  refine set_plain X3 (od:=some oD) ⟨hx₃,rfl,rfl,hoD⟩ T.sa ?_
  refine OEX.osa_old (nl:=[p1]) X3 hx₃ hn₃ ?_ (by simp) hcl (show refsVE (.ref C::bm)=true from hbm) rfl aaQ (fun h₄ tk₄ k₄ hn₄=>?_)
  ·intro y hy
   by_cases z:y=p1
   ·simp[z]
   ·simp[z] at hy
  refine b0p ?_
  have hdx:hp0.objs.size+1+1≤dx:=a0D (a0D tZ (Nat.le_of_lt hLlt)) dn
  have old:∀b o,hp0.get? b=some o→h₄.get? b=some o:=fun b o e=>by
   have hb:=Heap.lt_size e
   have hb2:b<hp0.objs.size:=hb
   exact k₄ b o (a0A (a0B (a0L (a0L hb2)) hdx)) (k₃ b o (a0A (a0L hb)) (k2 b o (a0A (a0L hb)) (k b o e)))
  exact⟨rfl,hq h₄ tk₄ (hp0.objs.size+1) dx ⟨old,b0g _,⟨_,_,k₄ _ _ dne.symm hx₃,rfl,rfl,rfl,rfl,rfl,(by decide:4<6)⟩,a0D (a0D (b0g _) (b0g _)) hdx,dne,hn₄⟩⟩
end
def jM (P:Program) (K:Frag) (mg:Str→Option Value) (cn p1 p2:Str) (C:Addr):Prop:=∃(fI:Addr) (qual:Str) (st:Stmt) (pre mid:Str) (c1 c2:Nat) (j1 j2 j3 j4 j5 j6 q1 q2 q3 q4 r1 r2 r3 r4:Pos),
 oJ P K mg C fI cn qual st [p1,p2] (uO p1 p2 pre mid c1 c2 j1 j2 j3 j4 j5 j6) (as2 p1 p2 q1 q2 q3 q4 r1 r2 r3 r4)∧kZ st qual [p1,p2] (uO p1 p2 pre mid c1 c2 j1 j2 j3 j4 j5 j6) (as2 p1 p2 q1 q2 q3 q4 r1 r2 r3 r4)∧
 (p1 == ("__debug__":Str))=false∧(p2 == ("__debug__":Str))=false∧(p1 == p2)=false∧findIn K (.ref C) p1=some none∧findIn K (.ref C) p2=some none∧pre.length≤100∧mid.length≤100
section
variable {P:Program} {K:Frag} {mg:Str→Option Value} {cn p1 p2:Str} {C:Addr}
theorem jM.xf (T:jM P K mg cn p1 p2 C):L2.XfC K C:=by
 obtain⟨fI,qual,st,pre,mid,c1,c2,j1,j2,j3,j4,j5,j6,q1,q2,q3,q4,r1,r2,r3,r4,T,S,_⟩:=T
 exact⟨T.ga,T.gg,T.exC,T.hdC⟩
theorem jM.no (T:jM P K mg cn p1 p2 C):findIn K (.ref C) p1=some none:=by
 obtain⟨fI,qual,st,pre,mid,c1,c2,j1,j2,j3,j4,j5,j6,q1,q2,q3,q4,r1,r2,r3,r4,T,S,_,_,_,h,_⟩:=T
 exact h
theorem jM.Q9 (T:jM P K mg cn p1 p2 C):findIn K (.ref C) p2=some none:=by
 obtain⟨fI,qual,st,pre,mid,c1,c2,j1,j2,j3,j4,j5,j6,q1,q2,q3,q4,r1,r2,r3,r4,T,S,_,_,_,_,h,_⟩:=T
 exact h
theorem jM.g (T:jM P K mg cn p1 p2 C):mg cn=some (.ref C):=by
 obtain⟨fI,qual,st,pre,mid,c1,c2,j1,j2,j3,j4,j5,j6,q1,q2,q3,q4,r1,r2,r3,r4,T,S,_⟩:=T
 exact T.gC
end
end bA
end PySem
namespace DL
open PySem L2 PyProof.Rows
def Px (C:Addr) (p1 p2:Str) (ta:TA):L2.St→Hp→XK→Prop:=fun σ H Q=>ta σ H fun vs H1=>∃(v:V) (i:Int),vs=[v,.int i]∧bA.wu v∧i.natAbs.log2<1920∧∀d,H1 d=none→Q (.ref C) (some d) (upd H1 d (.xd [(p1,v),(p2,.int i)]))
section
variable {X:Cx} {C:Addr} {cn p1 p2:Str} {a b:Expr} {ta:TA} {pp pos pos2:Pos} {k:Nat} {W:WX}
theorem V6 {v:V} {u:Value} {i:Int} {t:Tok} (hne:(p1 == p2)=false) (r:RelV v u) (f:Str):RelO (List.lookup f [(p1,v),(p2,.int i)]) (if f=p2 then some (.int i t) else if f=p1 then some u else none):=by
 have hne':¬p1=p2:=by simpa using hne
 by_cases q:f=p1
 ·subst q
  rw[a0j hne',a0d rfl]
  simp only[List.lookup,b0j]
  exact r
 ·have z:(f == p1)=false:=by simpa using q
  by_cases q2:f=p2
  ·subst q2
   rw[a0d rfl]
   simp only[List.lookup,z,b0j]
   exact⟨t,rfl⟩
  ·have z2:(f == p2)=false:=by simpa using q2
   rw[a0j q2,a0j q]
   simp only[List.lookup,z,z2]
   exact True.intro
def Py (C:Addr) (p1 p2:Str) (W:WX) (ta:TA):TS:=fun _ σ H=>Px C p1 p2 ta σ H fun cls d H'=>W cls d σ H'
end
end DL
namespace AL
open PySem L2 DL PyProof.Rows
open Classical in
noncomputable def rE (C:Addr) (p1 p2:Str) (fa:M (List R)):S:=fun st=>match fa st with
 | some (.ok [.d x,.d (.int i)] st')=>if fW x∧fW (.int i) then some (.ex ⟨C,[p1,p2],[x,.int i]⟩ st') else none
 | some (.ex x st')=>some (.ex x st')
 | _=>none
section
variable {K:PySem.W.Frag} {W:WX} {ta:TA} {fa:M (List R)}
theorem U4 {C:Addr} {p1 p2:Str} (ha:XA K W ta fa):XS K W (DL.Py C p1 p2 W ta) (rE C p1 p2 fa):=fun A st σ H fs Cc T y hy p=>by
 unfold rE at hy
 split at hy
 ·rename_i x i st' h1
  by_cases hx:fW x∧fW (.int i)
  ·rw[a0d hx] at hy
   cases hy
   refine ha A st σ H fs Cc _ _ h1 fun vs H1 ⟨Hb,ι,C1⟩=>?_
   obtain⟨v,u,rfl,hv,hu⟩:=Pn (C1.tmp (iH K σ [.d x,.d (.int i)] vs) (by simp))
   have hv:Rp K Hb x v:=hv
   have hu:Rp K Hb (.int i) u:=hu
   obtain rfl:=Rp.jC hu
   refine⟨v,i,rfl,hx.1.v hv,hx.2,fun dd hdd=>p _ _ σ _ ?_⟩
   have C2:ao K A st' σ H1 fs Hb ι:=C1.temps fun q hq=>C1.tmp q (by simp[hq])
   obtain⟨f1,f2,f3,f4⟩:=C2.fresh hdd
   exact⟨Hb,ι,dd,[v,.int i],C2.vY (Ex.new hdd) (Ex.refl _) (C2.bH.trans (Ex.new hdd)) (fun a h1 h2=>absurd h1 h2),rfl,rfl,a0w,rfl,aj.cons hv (aj.one hu),f3,f1⟩
  ·rw[a0j hx] at hy;cases hy
 ·rename_i x st' h1
  cases hy
  exact ha A st σ H fs Cc _ _ h1 fun cls d H2 X=>p cls d σ H2 X
 ·cases hy
end
end AL
namespace AL
open PySem L2 DL PyProof.Rows
section
variable {X:Cx} {a b e o:Expr} {ta tb te to:TE} {pos p apos cpos:Pos} {k:Nat}
def rIxS:V→List V→Hp→VK→Prop:=fun x xs H Q=>∃(a b:Str) (k:Nat),x=.str a∧xs=[.str b]∧Txt.index0 a b=some k∧Q (.int (k:Nat)) H
end
end AL
set_option maxHeartbeats 1000000
namespace AL
open PySem L2 DL PyProof.Rows
end AL
set_option maxHeartbeats 1000000
namespace AL
open PySem L2 DL PyProof.Rows
end AL
set_option maxHeartbeats 1000000
namespace AL
open PySem L2 DL PyProof.Rows
end AL
namespace DL
open PySem L2 PyProof.Rows
section
variable {P:Program} {w:World} {K:PySem.W.Frag} {H:Hp} {h:Heap}
def KN:List NE→List (NestedKey×Addr×Value)→Prop:=Paired (fun(p:NE) (q:NestedKey×Addr×Value)=>p.1=q.1∧p.2.1=q.2.1∧RelV p.2.2 q.2.2)
def nval (kvs:List NE) (k:NestedKey):Option V:=(kvs.find? fun p=>decide (p.1=k)).map (·.2.2)
def QC (kvs:List NE) (k:NestedKey) (a:Addr) (v:V):List NE:=if (nval kvs k).isSome then kvs.map (fun p=>if p.1=k then(p.1,p.2.1,v) else p) else kvs++[(k,a,v)]
theorem KN.val {kvs:List NE} {xs:List (NestedKey×Addr×Value)} (r:KN kvs xs) (k:NestedKey):RelO (nval kvs k) ((atKey xs k).map (·.2)):=by
 induction r with
 | nil=>exact True.intro
 | @cons p q ps qs hq t ih=>
  unfold nval atKey at ih ⊢
  rw[b0a,b0a,← hq.1]
  by_cases z:p.1=k
  ·rw[show decide (p.1=k)=true from a0R z];exact hq.2.2
  ·rw[show decide (p.1=k)=false from b0q z];exact ih
theorem KN.isSome {kvs:List NE} {xs:List (NestedKey×Addr×Value)} (r:KN kvs xs) (k:NestedKey):(nval kvs k).isSome=(atKey xs k).isSome:=by
 have:=(r.val k).isSome_eq
 rw[Option.isSome_map] at this;exact this
theorem KN.put {kvs:List NE} {xs:List (NestedKey×Addr×Value)} (r:KN kvs xs) (k:NestedKey) (a:Addr) {v:V} {u:Value} (rv:RelV v u):KN (QC kvs k a v) (storedH xs k a u):=by
 unfold QC storedH
 rw[r.isSome k]
 by_cases q:(atKey xs k).isSome=true
 ·rw[a0d q,a0d q]
  clear q
  induction r with
  | nil=>exact .nil
  | @cons p q ps qs hq t ih=>
   refine .cons ?_ ih
   have e:putAt k u q=if p.1=k then(q.1,q.2.1,u) else q:=by unfold putAt;rw[← hq.1]
   rw[e]
   by_cases z:p.1=k
   ·simp only[a0d z];exact⟨hq.1,hq.2.1,rv⟩
   ·simp only[a0j z];exact hq
 ·rw[a0j q,a0j q];exact Paired.snoc r ⟨rfl,rfl,rv⟩
def Oq:NestedKey→Bool
 | .tup _=>true
 | _=>false
end
end DL
namespace AL
open PySem L2 DL PyProof.Rows
mutual
def dW:D→Option NestedKey
 | .non=>some .none
 | .int i=>some (.num i)
 | .str x=>some (.text x)
 | .tup ds=>(lG ds).map .tup
 | _=>none
def lG:List D→Option (List NestedKey)
 | []=>some []
 | d::ds=>(dW d).bind fun k=>(lG ds).map (k::·)
end
def QD (d:D):Option NestedKey:=(dW d).bind fun k=>if Oq k=true∧k.depth≤8 then some k else none
theorem Xi {d:D} {k:NestedKey} (h:QD d=some k):dW d=some k∧Oq k=true∧k.depth≤8:=by
 obtain⟨q,h1,h2⟩:=a0a.mp h
 obtain⟨h3,rfl⟩:=ite_some h2
 exact⟨h1,h3.1,h3.2⟩
end AL
namespace DL
open PySem L2 PyProof.Rows
end DL
namespace AL
open PySem L2 DL PyProof.Rows
end AL
namespace DL
open PySem L2 PyProof.Rows
end DL
namespace AL
open PySem L2 DL PyProof.Rows
def Z0 (n k:Nat):List R:=(List.range k).map fun i=>.o (n+i)
end AL
set_option maxHeartbeats 1000000
namespace DL
open PySem L2 PyProof.Rows
end DL
namespace AL
open PySem L2 DL PyProof.Rows
mutual
def qu:NestedKey→D
 | .none=>.non
 | .num i=>.int i
 | .text x=>.str x
 | .tup ks=>.tup (uE ks)
def uE:List NestedKey→List D
 | []=>[]
 | k::ks=>qu k::uE ks
end
mutual
theorem Ou:∀(d:D) (k:NestedKey),dW d=some k→qu k=d
 | .non,k,e=>by unfold dW at e;cases e;unfold qu;rfl
 | .int i,k,e=>by unfold dW at e;cases e;unfold qu;rfl
 | .str i,k,e=>by unfold dW at e;cases e;unfold qu;rfl
 | .tup ds,k,e=>by
  unfold dW at e
  obtain⟨ks,h,rfl⟩:=a0b.mp e
  unfold qu
  rw[Nv ds ks h]
 | .bl _,k,e=>by unfold dW at e;cases e
 | .ref _,k,e=>by unfold dW at e;cases e
 | .ty _,k,e=>by unfold dW at e;cases e
 | .lst _,k,e=>by unfold dW at e;cases e
 | .dB _,k,e=>by unfold dW at e;cases e
 | .bO _ _,k,e=>by unfold dW at e;cases e
 | .dct _ _,k,e=>by unfold dW at e;cases e
 | .lN _ _ _,k,e=>by unfold dW at e;cases e
 | .ins _ _ _,k,e=>by unfold dW at e;cases e
 | .exc _ _ _ _ _,k,e=>by unfold dW at e;cases e
theorem Nv:∀(ds:List D) (ks:List NestedKey),lG ds=some ks→uE ks=ds
 | [],ks,e=>by unfold lG at e;cases e;unfold uE;rfl
 | d::ds,ks,e=>by
  unfold lG at e
  obtain⟨k,h1,e⟩:=a0a.mp e
  obtain⟨ks',h2,rfl⟩:=a0b.mp e
  unfold uE
  rw[Ou d k h1,Nv ds ks' h2]
end
end AL
set_option maxHeartbeats 2000000
namespace DL
open PySem L2 PyProof.Rows PySem.Spec
end DL
set_option maxHeartbeats 2000000
namespace AL
open PySem L2 DL PyProof.Rows
end AL
namespace DL
open PySem L2 PyProof.Rows
end DL
namespace AL
open PySem L2 DL PyProof.Rows
end AL
set_option maxHeartbeats 1000000
namespace AL
open PySem L2 DL PyProof.Rows
end AL
set_option maxHeartbeats 1000000
namespace AL
open PySem L2 DL PyProof.Rows
end AL
set_option maxHeartbeats 1000000
namespace AL
open PySem L2 DL PyProof.Rows
end AL
namespace DL
open PySem L2 PyProof.Rows
end DL
namespace AL
open PySem L2 DL PyProof.Rows
end AL
set_option maxHeartbeats 2000000
namespace DL
open PySem L2 PyProof.Rows PySem.W PySem.Calls
end DL
set_option maxHeartbeats 1000000
namespace AL
open PySem L2 DL PyProof.Rows
section
variable {K:PySem.W.Frag} {P:Program} {w:World} {mg:Str→Option Value} {base:Heap} {nm qual:Str} {st:Stmt} {f:Addr} {fd:FuncData} {N ps:List Str} {k:Nat} {g:S} {F':Fn}
theorem Km (F:gU K nm qual st f fd) (sc:FnScope N ps (defScope st)) (e:F'=AL.runN ps.length N.length g)
  (hbody:∀(cdv:Value) (A:Around) (outer:List Env) (s:Shared) (H:Hp) (bQ:XK) (hr:Room k (A.deeper (envOfC qual (defScope st) s.heap.objs.size f cdv))) (tk:Takes (cxOf (L2.CX P w) P w K mg base N qual (defScope st) f cdv A outer s H bQ) (fun cls d _ H=>bQ cls d H)) (po:PassesOwn (model (cxOf (L2.CX P w) P w K mg base N qual (defScope st) f cdv A outer s H bQ).prog (cxOf (L2.CX P w) P w K mg base N qual (defScope st) f cdv A outer s H bQ).w) (cxOf (L2.CX P w) P w K mg base N qual (defScope st) f cdv A outer s H bQ).A (cxOf (L2.CX P w) P w K mg base N qual (defScope st) f cdv A outer s H bQ).env (cxOf (L2.CX P w) P w K mg base N qual (defScope st) f cdv A outer s H bQ).xe),
   ∃t,PSs (cxOf (L2.CX P w) P w K mg base N qual (defScope st) f cdv A outer s H bQ) (defBody st) t∧XS K (fun cls d _ H=>bQ cls d H) t g) :
  FnOk P w K mg base (L2.CX P w) (k+1) f fd ps (dH K F'):=by
 rw[e]
 exact fnF F sc _ (fun args h y e=>Hl e) fun cdv A outer s H bQ hr=>hbody cdv A outer s H bQ hr (takes_of rfl rfl rfl rfl) (passes_of rfl)
end
section
variable {X:Cx} {x:Str} {e:Expr} {te:TE} {pos pos':Pos}
theorem rR (i:Nat) (hN:X.N.Nodup) (hi:X.N[i]?=some x:=by rfl) (hx:Loc X.env.scope x:=by first|exact Or.inl rfl|exact Or.inr rfl) (hf:X.fn x=true∨X.env.scope.names.lookup x=some .local:=by first|exact .inl rfl|exact .inr rfl|assumption):PG X (.Name x pos) (gName i):=pg_name hN hi hx hf
theorem eG (i:Nat) (hN:X.N.Nodup) (he:PE X e te) (hi:X.N[i]?=some x:=by rfl) (hx:Loc X.env.scope x:=by first|exact Or.inl rfl|exact Or.inr rfl) (hs:swapsWith e (some (.Name x pos')) pos.line X.env=pure false:=by rfl) (hf:X.fn x=true∨X.env.scope.names.lookup x=some .local:=by first|exact .inl rfl|exact .inr rfl|assumption):PS X (.Assign [.Name x pos'] e pos) (tAsg te (gName i)):=ps_set hN hi hx he hs hf
theorem Q_ (i:Nat) {y:Str} {py:Pos} {elt tg iter:Expr} {ifs:List Expr} {scope:Scope} (own:List (Str×Nat)) {pos spos:Pos} {wi:TI} {g:TG} {tt:TT} {te:TE} (hN:X.N.Nodup) (hi:PI X tg iter wi) (ok:BlkOk X.N X.env.scope scope own)
  (hg:∀(s:Shared) (H:Hp) (C:Addr) (cl:List (Str×Addr)) (fp:List Addr),PG (X.blk s H scope (compEnvC scope cl C X.env) fp) tg g) (ht:∀(s:Shared) (H:Hp) (C:Addr) (cl:List (Str×Addr)) (fp:List Addr),PTs (X.blk s H scope (compEnvC scope cl C X.env) fp) ifs tt)
  (he:∀(s:Shared) (H:Hp) (C:Addr) (cl:List (Str×Addr)) (fp:List Addr),PE (X.blk s H scope (compEnvC scope cl C X.env) fp) elt te) (hc:X.calm=true:=by rfl) (hy:X.N[i]?=some y:=by rfl) (hyl:X.env.scope.names.lookup y=some .local:=by rfl) (hsw:swapsWith (.ListComp elt [⟨tg,iter,ifs,0⟩] scope pos) (some (.Name y py)) spos.line X.env=pure true:=by exact sw_true rfl rfl rfl (by trivial)) (hs:∀x,foldedSetIterable iter X.env x=pure x:=by intro _;rfl) :
  PS X (.Assign [.Name y py] (.ListComp elt [⟨tg,iter,ifs,0⟩] scope pos) spos) (tAsg (tLc wi g tt te (own.map (·.2))) (gName i)):=ps_setLc hc hN hy hyl hsw hi ok hg ht he hs
end
end AL
set_option maxHeartbeats 2000000
namespace DL
open PySem L2 PyProof.Rows
end DL
namespace AL
open PySem L2 DL PyProof.Rows
end AL
set_option maxHeartbeats 1000000
namespace AL
open PySem L2 DL PyProof.Rows
end AL
set_option maxHeartbeats 1000000
namespace AL
open PySem L2 DL PyProof.Rows
end AL
set_option maxHeartbeats 1000000
namespace AL
open PySem L2 DL PyProof.Rows
end AL
set_option maxHeartbeats 1000000
namespace AL
open PySem L2 DL PyProof.Rows
end AL
set_option maxHeartbeats 1000000
namespace DL
open PySem L2 PyProof.Rows
section
variable {X:Cx} {a b:Expr} {ta tb:TE} {pos:Pos}
theorem Z4 (K:PySem.W.Frag) (hu:X.A.units+64<cLine) (ha:PE X a ta) (hb:PE X b tb) (hK:X.K=K:=by rfl):PE X (.Compare a [.Eq] [b] pos) (tOp (pA K) ta tb):=by subst hK;exact pe_cmpR (OpR.or op_eq (op_eqD hu)) ha hb (nomark _)
theorem qR (K:PySem.W.Frag) (hu:X.A.units+64<cLine) (ha:PE X a ta) (hb:PE X b tb) (hK:X.K=K:=by rfl):PT X (.Compare a [.Eq] [b] pos) (tTest (tOp (pA K) ta tb)):=by subst hK;exact pt_cmpR (OpR.or op_eq (op_eqD hu)) ha hb (nomark _)
theorem PB (K:PySem.W.Frag) (hu:X.A.units+64<cLine) (ha:PE X a ta) (hb:PE X b tb) (hK:X.K=K:=by rfl):PT X (.Compare a [.NotEq] [b] pos) (tTest (tOp (qd K) ta tb)):=by subst hK;exact pt_cmpR (OpR.or op_ne (op_neD hu)) ha hb (nomark _)
end
end DL
set_option maxHeartbeats 2000000
namespace DL
open PySem L2 PyProof.Rows
end DL
namespace AL
open PySem L2 DL PyProof.Rows
end AL
set_option maxHeartbeats 1000000
namespace AL
open PySem L2 DL PyProof.Rows
end AL
set_option maxHeartbeats 2000000
namespace HX
open PySem PySem.Spec PyProof.Rows L2 L2H HotX DL AL
abbrev St:=L2.St
structure Ht (a C d:Addr) (p:Addr×Obj):Prop where
 at_:p.1=a
 zc:L2N.Zn (.ref C) (some d) p.2
 fl:∃vs,p.2.data=.fields vs
structure pB (P:Program) (w:World) (K:PySem.W.Frag) (mg:Str→Option Value) (base:Heap) (CX:CXT) (k:Nat) (f:Addr) (fd:FuncData) (ps:List Str) (a C d:Addr) (sp:Sp):Prop where
 len:∀vs H Q E,sp vs H Q E→vs.length=ps.length
 run:∀(A:Around) (outer:List Env) (s:Shared) (H:Hp) (args:Args) (us:List Value) (vs:List V) (Q:VK) (E:XK) (p:Addr×Obj),RoomH k A→Hot1 A p→Ht a C d p→PinOk outer H s p→Env0 P w K mg base A outer s H→BindsTo s fd args (ps.zip us)→Vals vs us→sp vs H Q E→
  codeAny (model P w) A (.call (.ref f) args) (CR CX outer P w H s Q E) s
theorem YD {CX:CXT} {P:Program} {w:World} {K:PySem.W.Frag} {mg:Str→Option Value} {base:Heap} {k:Nat} {f:Addr} {name qual:Str} {params:Arguments} {body:List Stmt} {scope:Scope} {dV kV doc pm cdv ct oc:Value} {an od:Option Addr}
  {osl:Array (Option Value)} {N ps:List Str} {a C d:Addr} {sp:Sp} (lk:K.lookup f=some ⟨oc,od,.func (PySem.W.fnOf name qual params body scope dV kV doc pm an cdv ct),osl⟩) (hcd:PySem.W.codeIn K cdv qual=true) (S:FnScope N ps scope)
  (len:∀vs H Q E,sp vs H Q E→vs.length=ps.length)
  (hbody:∀(A:Around) (outer:List Env) (s:Shared) (H:Hp) (vs:List V) (Q:VK) (E:XK) (p:Addr×Obj),Hot1 A p→Ht a C d p→RoomH k (A.deeper (envOfC qual scope s.heap.objs.size f cdv))→sp vs H Q E→
   ∃t,PSs (cxH CX P w K mg base N qual scope f cdv A outer s H E p) body t∧t {nx:=fun _ H'=>Q .non H',rt:=Q} (L2.start N vs) H) :
  pB P w K mg base CX (k+1) f (PySem.W.fnOf name qual params body scope dV kV doc pm an cdv ct) ps a C d sp:=by
 refine⟨len,fun A outer s H args us vs Q E p hr hot ht0 hpin e0 hb r hsp=>?_⟩
 have hl:=len _ _ _ _ hsp
 have KX:K.In s.heap:=e0.mod.kin.keeps fun b o e=>(e0.bs b o e).1
 have lim:s.heap.NoLimit:=e0.mod.nolimit.keeps fun b o e=>(e0.bs b o e).1
 have hkind:∀y∈ps.zip us,scope.names.lookup y.1=some .local∨(scope.names.lookup y.1=some .cell∧((cellsFrom (s.heap.objs.size+1) scope.names []).lookup y.1).isSome=true):=fun⟨n,v⟩ hy=>by
  rcases S.par n (List.of_mem_zip hy).1 with q|q
  ·exact .inl q
  ·exact .inr ⟨q,PySem.W.cellsFrom_some _ _ _ (.inl q)⟩
 refine codeAny_call_function hr.depth (KX _ _ lk) rfl S.co S.gen rfl (PySem.W.codeRec_of KX hcd) (hb _ _ _ _ ?_)
 refine wpAny_newFunctionEnv_cells S.kind hkind fun env he s1 x=>?_
 subst he
 refine⟨lim.keeps x.toInCall.keep,codeAny_func ?_⟩
 obtain⟨t,ht,hq⟩:=hbody A outer s H vs Q E p hot ht0 (hr.deeper _) hsp
 have I:Inv (cxH CX P w K mg base N qual scope f cdv A outer s H E p) [] (L2.start N vs) H s1:=inv_startH S hpin e0 hl r x
 refine wpAny_mono (ht.run [] s1 (L2.start N vs) H _ I hq) (fun fl s' hs=>?_) fun e s' hs=>hs
 have fin:∀{σ':St} {H':Hp} {v:V} {u:Value},Inv (cxH CX P w K mg base N qual scope f cdv A outer s H E p) [] σ' H' s'→RelV v u→Q v H'→CE outer P w H s Q u s':=
  fun {σ' H' v u} J rv q=>⟨v,H',J.os,J.bare,J.base,J.hok,rv,q⟩
 cases fl with
 | ret u=>
  obtain⟨v,σ',H',J,rv,q⟩:=hs
  exact fin J rv q
 | next=>
  obtain⟨σ',H',J,q⟩:=hs
  exact fin (v:=V.non) (u:=Value.none) J rfl q
 | brk=>
  obtain⟨_,_,_,q⟩:=hs
  exact False.elim q
 | cont=>
  obtain⟨_,_,_,q⟩:=hs
  exact False.elim q
section
variable {X:Cx} {CX:CXT} {k:Nat} {f a C d:Addr} {p:Addr×Obj} {fd:FuncData} {ps:List Str} {sp:Sp} {E:St→XK} {x m:Str} {q pos apos:Pos} {e o:Expr} {es:List Expr} {ta:TE} {t:TA}
theorem Xj {pins:List (Addr×Obj)} {σ:St} {H:Hp} {s:Shared} {Q:VK} {us:List Value} {vs:List V} (F:pB X.prog X.w X.K X.mg X.base CX k f fd ps a C d sp) (hr:RoomH k X.A) (hot:Hot1 X.A p) (hp:p∈X.pn) (ht:Ht a C d p) (hb:Binds X.K fd ps []) (hx:PassesAt CX X σ (E σ))
  (I:Inv X pins σ H s) (r:Vals vs us) (h:sp vs H Q (E σ)):wpAny (model X.prog X.w) X.A (call (.ref f) us) (EP X pins σ Q) X.xe s:=by
 have hl:us.length=ps.length:=by rw[← r.length];exact F.len _ _ _ _ h
 have b:=hb s us I.kIn (by rw[a0U];exact hl)
 rw[a0U] at b
 have P1:=I.pin p (a0O _ hp)
 have hpin:PinOk X.stack H s p:=⟨P1.1,P1.2.1,fun hm=>(a0c.mp (I.stkSub p.1 hm)).elim P1.2.2.1 P1.2.2.2.1,P1.2.2.2.2⟩
 refine b0t (codeAny_mono (F.run X.A X.stack s H ⟨us,[]⟩ us vs Q (E σ) p hr hot ht hpin I.env0 b r h) fun r s' hq=>?_)
 cases r with
 | error e=>exact hx pins H s e s' I hq
 | ok fl=>
  cases fl with
  | ret u=>exact I.after hq
  | next=>exact False.elim hq
  | brk=>exact False.elim hq
  | cont=>exact False.elim hq
theorem V7 (F:pB X.prog X.w X.K X.mg X.base CX k f fd ps a C d sp) (hr:RoomH k X.A) (hot:Hot1 X.A p) (hp:p∈X.pn) (ht:Ht a C d p) (hg:Gl X x) (hm:X.mg x=some (.ref f)) (hk:PySem.W.keepIn X.K (.ref f)=true) (hb:Binds X.K fd ps []) (hx:∀σ,PassesAt CX X σ (E σ))
  (ha:PA X (e::es) t) (hdb:(x == ("__debug__":Str))=false:=by decide) (he:starEach (e::es) X.env=(false,eval e X.env)::starEach es X.env:=by rfl) (hpl:(backTo pos (starEach es X.env)).any (·.1)=false:=by rfl) :
  PE X (.Call (.Name x q) (e::es) [] pos) (tCallS sp E t):=by
 refine⟨fun pins s σ H Q I h=>?_⟩
 refine a0S (ld_glob I hg hm ?_ hdb)
 refine b0d (h₀:=X.base) I.ok.mod.kin hk (thn (ha.run pos pins s σ H _ I h) fun us s1 ⟨vs,H1,I1,r,q⟩=>⟨I1.kIn,?_⟩) he hpl
 exact Xj F hr hot hp ht hb (hx σ) I1 r q
end
theorem V8 {X:Cx} {a C d:Addr} {oe:Obj} {pn:List (Addr×Obj)} (hz:L2N.Zn (.ref C) (some d) oe) (hf:∃vs,oe.data=.fields vs):Hot1 (X.suite a ((a,oe)::pn)).A (a,oe)∧(a,oe)∈(X.suite a ((a,oe)::pn)).pn∧Ht a C d (a,oe):=by
 obtain⟨vs,hv⟩:=id hf
 exact⟨⟨rfl,vs,hv,hz.2.2 vs hv⟩,a0v,rfl,hz,hf⟩
def QF (a:Addr) (cls:Value) (d:Option Addr) (Cs:List Addr) (f:Str) (te:TE):TE:=fun σ H Q=>∃C∈Cs,tXf a cls d C f te σ H Q
theorem oK {X:Cx} {p:Addr×Obj} {a C0 d:Addr} {Cs:List Addr} {e:Expr} {te:TE} {pos:Pos} {n:Str} (hT:∀C∈Cs,XfC X.K C∧PySem.W.findIn X.K (.ref C) n=some none)
  (hp:p∈X.pn) (ht:Ht a C0 d p) (he:PE X e te) (hb:attributeBase e n X.env (eval e X.env)=eval e X.env:=by rfl) :
  PE X (.Attribute e n pos) (QF a (.ref C0) (some d) Cs n te):=by
 obtain⟨hat,hz,hf⟩:=ht
 obtain⟨p1,oe⟩:=p
 obtain rfl:p1=a:=hat
 refine⟨fun pins s σ H Q I h=>?_⟩
 obtain⟨C,hC,h⟩:=h
 obtain⟨T,hno⟩:=hT C hC
 refine attr_of hb (thn (he.run pins s σ H _ I h) fun u s1 hh=>?_)
 obtain⟨x,H1,I1,rx,ex,ec,dd,fs,v,ed,ea,l,q⟩:=hh
 subst ex
 obtain rfl:u=Value.ref p1:=rx
 cases ec
 cases ed
 obtain⟨ha,_⟩:=I1.pin (p1,oe) (a0O _ hp)
 obtain⟨vs,hd⟩:=hf
 have hx:ObjOk X.prog X.w H1 s1.heap _ (.xd fs):=I1.hok _ _ ea
 obtain⟨mA,hns,hr⟩:=hx
 obtain⟨od,ho,hl⟩:=lookIn_ns hns
 obtain⟨u,hu,ru⟩:=RelO.some_of (v:=v) (o:=mA n) (by rw[← l];exact hr n)
 have J:PySem.W.InstAt s1.heap p1 oe C0 (some od):=⟨ha,hz.1,by unfold PySem.W.notCls;rw[hd]<;>rfl,by rw[hz.2.1];exact ho⟩
 exact HandSPX.exc_get I1.kIn J T.ga T.gg T.exC (PySem.W.findObj_own T.hdC hno rfl (by rw[hl,hu])) (handed_of ru) ⟨v,H1,I1.tok _,ru,q⟩
theorem U5 {X:Cx} {p:Addr×Obj} {a C0 d:Addr} (hp:p∈X.pn) (ht:Ht a C0 d p):CallR X (.builtin "isinstance") (qW X.K (.ref C0) (some d) a):=by
 obtain⟨hat,hz,hf⟩:=ht
 obtain⟨p1,oe⟩:=p
 obtain rfl:p1=a:=hat
 intro pins s σ H xs us Q I r h
 obtain⟨c,cv,D,dd,fs,b,rfl,C,ec,ed,hx,hcv,e,q⟩:=h
 cases ec
 cases ed
 cases r with
 | cons rx rr=>
  cases rr with
  | cons rt rr=>
   cases rr
   cases rx
   have ec:=hcv _ rt
   subst ec
   obtain⟨hget,_⟩:=I.pin (p1,oe) (List.mem_append.mpr (.inl hp))
   obtain⟨vs,hv⟩:=hf
   have hd:ObjOk X.prog X.w H s.heap d (.xd fs):=I.hok d _ hx
   obtain⟨mA,hns,hr⟩:=hd
   obtain⟨od,ho,hl⟩:=lookIn_ns hns
   have J:PySem.W.InstAt s.heap p1 oe C0 (some od):=⟨hget,hz.1,by unfold PySem.W.notCls;rw[hv]<;>rfl,by rw[hz.2.1];exact ho⟩
   have hc:(PySem.W.clsIn X.K C0).isSome=true:=by
    have:=C.hd
    unfold PySem.W.hasDictIn at this
    cases z:PySem.W.clsIn X.K C0 with
    | none=>rw[z] at this;cases this
    | some _=>rfl
   exact PySem.W.kia_one (PySem.W.kitx_exc hc C.hg C.hk C.hs C.ha C.hn C.ht C.hm) I.kIn J e (fun z=>nomatch z) fun tk=>⟨.bl b,H,I.kept (t':=tk) fun _ _ z=>z,rfl,q⟩
theorem lg {X:Cx} {q:Addr×Obj} {a C0 d:Addr} {e c:Expr} {te tc:TE} {p pos:Pos} (K:PySem.W.Frag) (hq:q∈X.pn) (ht:Ht a C0 d q) (hB:fG X.mg) (h:PE X e te) (h2:PE X c tc)
  (hg:Gl X "isinstance":=by rfl) (he:starEach [e,c] X.env=(false,eval e X.env)::starEach [c] X.env:=by rfl) (he2:starEach [c] X.env=(false,eval c X.env)::starEach [] X.env:=by rfl) (hpl:(backTo pos (starEach [c] X.env)).any (·.1)=false:=by rfl) (hK:X.K=K:=by rfl) :
  PE X (.Call (.Name "isinstance" p) [e,c] [] pos) (tCB (qW K (.ref C0) (some d) a) (tCons te (tCons tc tNil))):=by
 subst hK
 exact pe_callB (U5 hq ht) hg (hB _ (by trivial)) (by trivial) (a0i h (a0i h2 a0x he2) he) (he:=he) (hpl:=hpl)
structure uF (P:Program) (w:World) (K:PySem.W.Frag) (mg:Str→Option Value) (base:Heap) (x:Str) (ps:List Str) (k:Nat) (F:Addr→Addr→Addr→Fn):Prop where
 ex:∃f fd,(∀a C d,pB P w K mg base (L2.CX P w) k f fd ps a C d (dH K (F a C d)))∧mg x=some (.ref f)∧PySem.W.keepIn K (.ref f)=true∧Binds K fd ps []
def PL (K:PySem.W.Frag) (F:Addr→Addr→Addr→Fn) (a:Addr) (cls:Value) (d:Option Addr) (t:TA):TE:=fun σ H Q=>∃C dd,cls=.ref C∧d=some dd∧tCall (dH K (F a C dd)) [] E0 t σ H Q
theorem V9 {X:Cx} {x:Str} {ps:List Str} {k j:Nat} {F:Addr→Addr→Addr→Fn} {e:Expr} {es:List Expr} {t:TA} {p pos:Pos} {a C d:Addr} {oe:Obj} {pn:List (Addr×Obj)} (K:PySem.W.Frag) (Cl:uF X.prog X.w X.K X.mg X.base x ps k F) (hr:Room j X.A) (hk:k≤j) (hz:L2N.Zn (.ref C) (some d) oe) (hf:∃vs,oe.data=.fields vs) (ha:PA (X.suite a ((a,oe)::pn)) (e::es) t) (hg:Gl (X.suite a ((a,oe)::pn)) x:=by rfl) (hdb:(x == ("__debug__":Str))=false:=by decide)
  (he:starEach (e::es) X.env=(false,eval e X.env)::starEach es X.env:=by rfl) (hpl:(backTo pos (starEach es X.env)).any (·.1)=false:=by rfl) (hK:X.K=K:=by rfl):PE (X.suite a ((a,oe)::pn)) (.Call (.Name x p) (e::es) [] pos) (tCall (dH K (F a C d)) [] E0 t):=by
 subst hK
 obtain⟨f,fd,h1,h2,h3,h4⟩:=Cl.ex
 obtain⟨q1,q2,q3⟩:=V8 (X:=X) (pn:=pn) hz hf
 have:=V7 (X:=X.suite a ((a,oe)::pn)) (E:=fun _=>E0) (q:=p) (pos:=pos) (h1 a C d) (RoomH.mono ⟨hr.dp,hr.un⟩ hk) q1 q2 q3 hg h2 h3 h4 (fun σ=>Yz) ha hdb he hpl
 refine⟨fun pins s σ H Q I h=>this.run pins s σ H Q I (by unfold tCallS;unfold tCall at h;exact cast (by simp) h)⟩
theorem Ny {X:Cx} {x:Str} {ps:List Str} {k j:Nat} {F:Addr→Addr→Addr→Fn} {e:Expr} {es:List Expr} {t:TA} {p pos:Pos} {a:Addr} {cls:Value} {d:Option Addr} {oe:Obj} {pn:List (Addr×Obj)} (K:PySem.W.Frag) (Cl:uF X.prog X.w X.K X.mg X.base x ps k F) (hr:Room j X.A) (hk:k≤j) (hz:L2N.Zn cls d oe) (hf:∃vs,oe.data=.fields vs) (ha:PA (X.suite a ((a,oe)::pn)) (e::es) t) (hg:Gl (X.suite a ((a,oe)::pn)) x:=by rfl) (hdb:(x == ("__debug__":Str))=false:=by decide)
  (he:starEach (e::es) X.env=(false,eval e X.env)::starEach es X.env:=by rfl) (hpl:(backTo pos (starEach es X.env)).any (·.1)=false:=by rfl) (hK:X.K=K:=by rfl):PE (X.suite a ((a,oe)::pn)) (.Call (.Name x p) (e::es) [] pos) (PL K F a cls d t):=
 ⟨fun pins s σ H Q I h=>by
  obtain⟨C,dd,rfl,rfl,h⟩:=h
  exact(V9 K Cl hr hk hz hf ha hg hdb he hpl hK).run pins s σ H Q I h⟩
abbrev _root_.L2.Cx.fZ (X:Cx) (s:Shared) (H:Hp) (scope:Scope) (cenv:Env) (fp:List Addr) (p:Addr×Obj):Cx:={X with s_0:=s,H_0:=H,env:=cenv,outer:=X.stack,ex:=fp,fn:=fun x=>scope.names.lookup x == some .cell,pn:=[p],xe:=fun _ _=>False}
theorem V_ {X:Cx} {s:Shared} {H:Hp} {scope:Scope} {ce:Env} {fp:List Addr} {p:Addr×Obj} {σ:St} {H':Hp} {s':Shared} (I:Inv (X.blk s H scope ce fp) [] σ H' s') (hp:s'.heap.get? p.1=some p.2∧H' p.1=none∧p.1≠ce.locals∧p.1∉frs X.stack∧∀v,p.2.data≠.cell v):Inv (X.fZ s H scope ce fp p) [] σ H' s':=by
 obtain⟨o1,o2,o3,o4,o5,o6,o7,o8,o9,o10,o11,o12,o13,o14,o15,o16,o17,o18⟩:=I.ok
 exact⟨⟨o1,o2,o3,o4,o5,o6,o7,o8,o9,o10,o11,o12,o13,o14,o15,o16,o17,o18⟩,I.os,I.bare,I.base,I.loc,I.cell,I.free,I.freeC,fun q hq=>by
  have e:q=p:=by simpa using (show q∈[p]++([]:List (Addr×Obj)) from hq)
  rw[e];exact hp,I.hok,I.len⟩
section
variable {X:Cx} {p:Addr×Obj}
theorem Wb {pins:List (Addr×Obj)} {s:Shared} {σ:St} {H:Hp} {Q:VK} {elt tg iter:Expr} {ifs:List Expr} {scope:Scope} {own:List (Str×Nat)} {pos pos':Pos} {wi:TI} {g:TG} {tt:TT} {te:TE} {use:Option (Value→Sem Unit)} {Qf:Value→Shared→Prop}
  (hot:Hot1 X.A p) (hpp:p∈X.pn) (hN:X.N.Nodup) (I:Inv X pins σ H s) (hi:PIH X tg iter wi) (ok:BlkOk X.N X.env.scope scope own)
  (hg:∀(s:Shared) (H:Hp) (C:Addr) (cl:List (Str×Addr)) (fp:List Addr),PG (X.fZ s H scope (compEnvC scope cl C X.env) fp p) tg g) (ht:∀(s:Shared) (H:Hp) (C:Addr) (cl:List (Str×Addr)) (fp:List Addr),PTs (X.fZ s H scope (compEnvC scope cl C X.env) fp p) ifs tt)
  (he:∀(s:Shared) (H:Hp) (C:Addr) (cl:List (Str×Addr)) (fp:List Addr),PE (X.fZ s H scope (compEnvC scope cl C X.env) fp p) elt te) (hs:∀x,foldedSetIterable iter X.env x=pure x)
  (h:tLc wi g tt te (own.map (·.2)) σ H Q)
  (hRR:∀D C s' m H',Inv X pins σ H' s'→Q (.ref D) H'→s'.heap.Ns C m→FpOk X pins H' C→compPost (model X.prog X.w) X.A X.xe use Qf (.ref D) C (.ok .next) s') :
  wpAny (model X.prog X.w) X.A (comprehension (.ListComp elt [⟨tg,iter,ifs,0⟩] scope pos) scope X.env pos' (newList []) false (eval iter X.env) use) Qf X.xe s:=by
 have hfree:∀y∈scope.names,y.2=.free→∃c,X.env.cells.lookup y.1=some c:=fun y hy e=>by
  rcases ok.free y hy e with k|k
  ·exact I.ok.has _ (.inl k)
  ·exact I.ok.has _ (.inr k)
 refine wpAny_comprehension_free (use:=use) rfl hs (closure_ok hfree) ok.kind (fun y hy e=>by rw[ok.uniq y hy,e])
  (thn (hi.run pins s σ H _ I h) fun xv s1 hx=>thn hx fun itv s2 h2=>?_)
 obtain⟨it,fp,tn,J,H2,e,I2,T,st2,f2,q⟩:=h2
 subst e
 refine wpAny_newObj_type (newEnv_comp ?_) (by show 0≤sizeLine;decide)
 generalize hD:s2.heap.objs.size=D
 have hDn:H2 D=none:=I2.hok.fresh (Nat.le_of_eq hD)
 obtain⟨W,⟨m0,w0⟩,turn⟩:=q D hDn
 generalize hs3:({s2 with heap:=s2.heap.push {cls:=.type "list",data:=.seq ([]:List Value).toArray}}:Shared)=s3
 have I3:Inv X pins σ (upd H2 D (.lst [])) s3:=by
  rw[← hs3]
  refine I2.laid (t':=s2.toks) (fun b o e=>Heap.get?_push_of_some _ e) (Nat.le_of_eq hD) ⟨Nat.zero_le _,[],0,.nil,?_⟩
  rw[← hD]
  exact Heap.get?_push_size _ rfl
 have h3:s3.heap=s2.heap.push {cls:=.type "list",data:=.seq ([]:List Value).toArray}:=by rw[← hs3]
 have sz:∀b∈fp,b<s2.heap.objs.size:=fun b hb=>by
  obtain⟨o,e,_⟩:=T.obj _ _ st2 b hb
  exact Heap.lt_size e
 have f3:∀b∈fp,FpOk X pins (upd H2 D (.lst [])) b∧b<s3.heap.objs.size:=fun b hb=>by
  have hlt:=sz b hb
  refine⟨⟨?_,(f2 b hb).2⟩,by rw[h3,Heap.size_push];exact a0L hlt⟩
  rw[a0t (by rw[← hD];exact a0A hlt)]
  exact(f2 b hb).1
 have st3:tn 0 s3.heap:=T.keep _ _ _ st2 fun b _ o e=>by rw[h3];exact Heap.get?_push_of_some _ e
 have I4:=block_start I3 ok hN f3
 have pg:=hg s3 (upd H2 D (.lst [])) s3.heap.objs.size (cellsFrom (s3.heap.objs.size+1) scope.names (cloFrom X.env.cells scope.names [])) fp
 have pt:=ht s3 (upd H2 D (.lst [])) s3.heap.objs.size (cellsFrom (s3.heap.objs.size+1) scope.names (cloFrom X.env.cells scope.names [])) fp
 have pe:=he s3 (upd H2 D (.lst [])) s3.heap.objs.size (cellsFrom (s3.heap.objs.size+1) scope.names (cloFrom X.env.cells scope.names [])) fp
 show codeAny _ _ (.compStart (.ListComp elt [⟨tg,iter,ifs,0⟩] scope pos) 0 (.ref it) (.ref D) (compEnvC scope (cellsFrom (s3.heap.objs.size+1) scope.names (cloFrom X.env.cells scope.names [])) s3.heap.objs.size X.env)) (compPost (model X.prog X.w) X.A X.xe use Qf (.ref D) s3.heap.objs.size) {s3 with heap:=pushCells (s3.heap.push {cls:=.type "dict",data:=.dict #[]}) scope.names}
 have nfp:∀b∈fp,(upd H2 D (.lst [])) b=none:=fun b hb=>(f3 b hb).1.1
 generalize hce:compEnvC scope (cellsFrom (s3.heap.objs.size+1) scope.names (cloFrom X.env.cells scope.names [])) s3.heap.objs.size X.env=ce at I4 pg pt pe ⊢
 have cL:ce.locals=s3.heap.objs.size:=by subst hce;rfl
 generalize hH3:upd H2 D (.lst [])=H3 at I3 I4 pg pt pe w0 nfp f3
 generalize hs4:({s3 with heap:=pushCells (s3.heap.push {cls:=.type "dict",data:=.dict #[]}) scope.names}:Shared)=s4 at I4 ⊢
 have I4:Inv (X.fZ s3 H3 scope ce fp p) [] (wipe σ (own.map (·.2))) H3 s4:=V_ I4 (by
  have P1:=I3.pin p (a0O _ hpp)
  refine⟨by rw[← hs4];exact pushCells_keeps _ _ _ _ (Heap.get?_push_of_some _ P1.1),P1.2.1,by rw[cL];exact a0A (Heap.lt_size P1.1),fun hm=>(a0c.mp (I3.stkSub p.1 hm)).elim P1.2.2.1 P1.2.2.2.1,P1.2.2.2.2⟩)
 have QG:HotC (X.fZ s3 H3 scope ce fp p):=⟨p,hot,List.mem_singleton_self _⟩
 have st4:tn 0 s4.heap:=T.keep _ _ _ st3 fun b _ o e=>by rw[← hs4];exact pushCells_keeps _ _ _ _ (Heap.get?_push_of_some _ e)
 have stat:∀{σ':St} {H':Hp} {s':Shared},Inv (X.fZ s3 H3 scope ce fp p) [] σ' H' s'→(∀b∈fp,H' b=none)→∀b∈fp,FpOk (X.fZ s3 H3 scope ce fp p) [] H' b:=fun {σ' H' s'} I' hn b hb=>
  ⟨hn b hb,(I'.ok.exf b hb).1,I'.ok.exfs b hb,.inl hb,fun x c e=>(I'.ok.exf b hb).2 x c e,fun q hq=>by
   have e:q=p:=by simpa using (show q∈[p]++([]:List (Addr×Obj)) from hq)
   rw[e];exact(f3 b hb).1.2.2.2.2.2 p (a0O _ hpp)⟩
 have loop:codeAny (model X.prog X.w) X.A (.compLoop (.ListComp elt [⟨tg,iter,ifs,0⟩] scope pos) 0 (.ref it) (.ref D) ce) (compPost (model X.prog X.w) X.A X.xe use Qf (.ref D) s3.heap.objs.size) s4:=by
  refine compLoop_any (fun n s'=>∃i H',Inv (X.fZ s3 H3 scope ce fp p) [] (wipe σ (own.map (·.2))) H' s'∧tn i s'.heap∧(∀b∈fp,H' b=none)∧W i n H') ?_ m0 ⟨0,H3,I4,st4,nfp,w0⟩
  rintro n s5 ⟨i,H5,I5,st5,n5,w5⟩
  rcases turn i n H5 w5 with ⟨stop,qq⟩|⟨go,Nx,hNx,step⟩
  ·have td:=T.done (X.fZ s3 H3 scope ce fp p) rfl rfl rfl QG i [] s5 _ H5 (fun _ _=>False) I5 (stat I5 n5) st5 stop
   refine thnF td fun r s6 ⟨hr,I6⟩=>?_
   subst hr
   have I7:Inv X pins σ H5 s6:=I3.call' (ch:=fp) I6.os I6.base I6.hok I6.bare fun b hb=>⟨(f3 b hb).1.2.2.2.1,(f3 b hb).1.2.1,(f3 b hb).1.2.2.2.2.1,(f3 b hb).1.2.2.2.2.2⟩
   have nC:H5 s3.heap.objs.size=none:=by
    have z:H5 ce.locals=none:=I6.free
    rw[cL] at z
    exact z
   obtain⟨m,hn,_⟩:=I6.loc
   have hn:s6.heap.Ns ce.locals m:=hn
   rw[cL] at hn
   exact hRR D s3.heap.objs.size s6 m H5 I7 qq hn (I3.fpOk (Nat.le_refl _) nC)
  ·have ti:=T.item (X.fZ s3 H3 scope ce fp p) rfl rfl rfl QG i [] s5 _ H5 (fun _ _=>False) I5 (stat I5 n5) st5 go
   refine thnF ti fun r s6 ⟨u,hr,h6⟩=>?_
   subst hr
   refine thnF h6 fun _ s7 ⟨x,H7,I7,r7,y7,st7,n7⟩=>?_
   have I7':=I7.pinned (stat I7 n7) (T.obj _ _ st7)
   refine thnF (pg.run _ s7 _ H7 x u _ I7' r7 (step x H7 y7)) fun _ s8 ⟨σ8,H8,I8,hw8,q8⟩=>?_
   refine thnF (pt.run _ s8 σ8 H8 _ I8 q8) fun b s9 ⟨H9,I9,q9⟩=>?_
   have fin:∀{s':Shared} {H':Hp},Inv (X.fZ s3 H3 scope ce fp p) ([]++pinsAt fp s7.heap) σ8 H' s'→Nx H'→∃m,m<n∧∃i H',Inv (X.fZ s3 H3 scope ce fp p) [] (wipe σ (own.map (·.2))) H' s'∧tn i s'.heap∧(∀b∈fp,H' b=none)∧W i m H':=fun {s' H'} I' nx=>by
    obtain⟨m',hm,w'⟩:=hNx H' nx
    have pin':∀b∈fp,∀o,s7.heap.get? b=some o→s'.heap.get? b=some o∧H' b=none:=fun b hb o e=>
     let z:=I'.pin (b,o) (List.mem_append_right _ (List.mem_append_right _ (mem_pinsAt hb e)))
     ⟨z.1,z.2.1⟩
    have hl:(wipe σ (own.map (·.2))).length=σ8.length:=by rw[← hw8,wipe_length]
    refine⟨m',hm,i+1,H',(I'.unpinned (pins:=[])).weak hl (fun j v e=>?_),T.keep _ _ _ st7 fun b hb o e=>(pin' b hb o e).1,fun b hb=>?_,w'⟩
    ·rw[← hw8] at e
     exact(wipe_some e).1
    ·obtain⟨o,e,_⟩:=T.obj _ _ st7 b hb
     exact(pin' b hb o e).2
   cases b with
   | false=>
    simp only[Bool.false_eq_true,if_false] at q9 ⊢
    exact fin I9 q9
   | true=>
    simp only[a0W] at q9 ⊢
    refine thnF (pe.run _ s9 σ8 H9 _ I9 q9) fun z s10 ⟨yv,H10,I10,r10,acc,hD10,hz10,nx⟩=>?_
    exact app_ok (X:=X.fZ s3 H3 scope ce fp p) I10 hD10 hz10 r10 fun s11 I11=>fin I11 nx
 exact codeAny_compStart_list loop (T.self X.A 0 _ _ _ st4 loop)
theorem YF {elt tg iter:Expr} {ifs:List Expr} {scope:Scope} {own:List (Str×Nat)} {pos:Pos} {wi:TI} {g:TG} {tt:TT} {te:TE} (hot:Hot1 X.A p) (hpp:p∈X.pn) (hN:X.N.Nodup) (hi:PIH X tg iter wi) (ok:BlkOk X.N X.env.scope scope own)
  (hg:∀(s:Shared) (H:Hp) (C:Addr) (cl:List (Str×Addr)) (fp:List Addr),PG (X.fZ s H scope (compEnvC scope cl C X.env) fp p) tg g) (ht:∀(s:Shared) (H:Hp) (C:Addr) (cl:List (Str×Addr)) (fp:List Addr),PTs (X.fZ s H scope (compEnvC scope cl C X.env) fp p) ifs tt)
  (he:∀(s:Shared) (H:Hp) (C:Addr) (cl:List (Str×Addr)) (fp:List Addr),PE (X.fZ s H scope (compEnvC scope cl C X.env) fp p) elt te) (hs:∀x,foldedSetIterable iter X.env x=pure x:=by intro _;rfl) :
  PE X (.ListComp elt [⟨tg,iter,ifs,0⟩] scope pos) (tLc wi g tt te (own.map (·.2))):=by
 refine⟨fun pins s σ H Q I h=>?_⟩
 rw[eval_ListComp]
 refine Wb hot hpp hN I hi ok hg ht he hs h fun D C s' m H' I' q hn f=>⟨m,hn,fun h'' sb=>?_⟩
 obtain⟨f0,f1,f2,f3,f4,f5⟩:=f
 exact⟨.ref D,H',I'.turned (t':=s'.toks) (fun b o hb e=>(sb.2 b hb).trans e) f0 f1 f3 f4 f5,rfl,q⟩
end
def oM (F:Fn) (fa:M (List R)):M Ob:=fa.bind fun rs=>rN (tL F rs)
section
variable {K:PySem.W.Frag} {W:WX} {te:TE} {ta:TA} {fa:M (List R)} {F:Fn}
theorem Wc (ha:XA K W ta fa):XN K W (tCall (dH K F) [] E0 ta) (oM F fa):=fun A st σ H ts C Q y hy p=>by
 rcases iQ hy with ⟨rs,s1,h1,h2⟩|⟨x,s1,h1,rfl⟩
 ·refine ha A st σ H ts C _ _ h1 fun vs H1 ⟨Hb,ι,C1⟩=>?_
  unfold rN at h2
  cases e:tL F rs s1 with
  | none=>rw[e] at h2;cases h2
  | some z=>
   rw[e] at h2
   cases z with
   | ex x s=>cases h2
   | ok r s=>
    cases h2
    have:=V4 (W:=fun cls d _ H=>E0 cls d H) (C1.temps (ts':=ts) fun q hq=>C1.tmp q (by simp[hq])) (C1.tmp (iH K σ rs vs) (by simp)) e p
    rw[a0U]
    exact this
 ·exact ha A st σ H ts C _ _ h1 p
end
theorem QH {K:PySem.W.Frag} {P:Program} {w:World} {mg:Str→Option Value} {base:Heap} {nm qual:Str} {st:Stmt} {f:Addr} {fd:FuncData} {N ps:List Str} {k:Nat} {a C d:Addr} {g:S} {F':Fn} (F:gU K nm qual st f fd) (sc:FnScope N ps (defScope st)) (e:F'=AL.runN ps.length N.length g)
  (hbody:∀(cdv:Value) (A:Around) (outer:List Env) (s:Shared) (H:Hp) (bQ:XK) (p:Addr×Obj) (hr:RoomH k (A.deeper (envOfC qual (defScope st) s.heap.objs.size f cdv))) (hp:p∈(cxH (L2.CX P w) P w K mg base N qual (defScope st) f cdv A outer s H bQ p).pn) (ht:Ht a C d p),
   ∃t,PSs (cxH (L2.CX P w) P w K mg base N qual (defScope st) f cdv A outer s H bQ p) (defBody st) t∧XS K (fun cls d _ H=>bQ cls d H) t g) :
  pB P w K mg base (L2.CX P w) (k+1) f fd ps a C d (dH K F'):=by
 obtain⟨oc,od,dV,kV,doc,pm,an,cdv,ct,osl,rfl,lk,hcd⟩:=F.ex
 have hF:∀args h y,F' args h=some y→args.length=ps.length∧rB N.length g args h=some y:=fun args h y q=>by rw[e] at q;exact Hl q
 refine YD lk hcd sc (fun vs H Q bQ h=>?_) fun A outer s H vs Q bQ p hot ht hr h=>?_
 ·obtain⟨Hb,ι,args,h,y,C,r,e,_⟩:=h
  rw[← Paired.length r];exact(hF args h y e).1
 ·obtain⟨Hb,ι,args,h,y,C,r,e,p⟩:=h
  obtain⟨t,ht,hx⟩:=hbody cdv A outer s H bQ _ hr (List.mem_singleton_self _) ht
  refine⟨t,ht,?_⟩
  obtain⟨z,hz,ez⟩:=a0a.mp (hF args h y e).2
  refine hx ⟨H,Hb,ι⟩ _ _ H [] ⟨Hb,ι,Hi C r⟩ _ z hz ?_
  cases z with
  | nx st=>cases ez;exact fun σ H2 ⟨bG,bJ,C2⟩=>p .non H2 ⟨bG,bJ,C2.bare.temps fun q hq=>by rw[a0n.mp hq];show Rp K _ _ _;unfold Rp;rfl⟩
  | rn b st=>
   cases ez
   intro σ v H2 C2
   obtain⟨bG,bJ,a,u,C2,h1,h2,h3,h4,h5,h6,hz,_⟩:=C2
   exact p v H2 ⟨bG,bJ,a,u,C2.bare,h1,h2,h3,h4,h5,h6,hz,fun i c h=>by simp at h⟩
  | bk st=>cases ez
  | ct st=>cases ez
  | ex x st=>
   cases ez
   intro cls d σ H2 X
   obtain⟨bG,bJ,dd,vs',C2,rr⟩:=X
   exact p cls d H2 ⟨bG,bJ,dd,vs',C2.bare,rr⟩
  | rt r st=>
   intro σ v H2 ⟨bG,bJ,C2⟩
   have hv:Rt K σ bJ bG r v:=C2.tmp (rt K σ r v) (by simp)
   cases r with
   | d x=>cases ez;exact p v H2 ⟨bG,bJ,C2.bare.temps fun q hq=>by rw[a0n.mp hq];exact hv⟩
   | o n=>cases ez;exact p v H2 ⟨bG,bJ,C2.bare.temps fun q hq=>by rw[a0n.mp hq];exact hv⟩
   | w i=>
    simp only[endF] at ez
    cases q:st.s[i]? with
    | none=>rw[q] at ez;cases ez
    | some sv=>
     rw[q] at ez
     cases sv with
     | no=>cases ez
     | v r=>cases ez
     | own b=>
      cases ez
      obtain⟨v',e',CO⟩:=C2.take q
      have hv:σ[i]?=some (some v):=hv
      rw[hv] at e';cases e'
      obtain⟨jK,jL,a,u,C3,h1,h2,h3,h4,h5,h6,hz,_⟩:=CO
      refine p v H2 ⟨jK,jL,a,u,C3.bare.temps (ts':=[]) (fun q hq=>?_),h1,h2,h3,h4,h5,h6,hz,fun i c h=>?_⟩
      ·cases hq
      ·simp at h
end HX
set_option maxHeartbeats 2000000
namespace PySem
namespace bA
open PySem.W PySem.Calls PyProof.Rows PySem.HandSPX
theorem Ry {α:Type} {M:Model} {A:Around} {m:Sem α} {Q:α→Shared→Prop} {E:Value→Shared→Prop} {s:Shared} (h:∀g,wpAny M {A with guards:=some g} m Q E s):wpAny M A m Q E s:=
 fun Γ p hΓ=>h (Γ.code.guards++guardsOf Γ.below) Γ p ⟨hΓ.1,hΓ.2.1,hΓ.2.2.1,fun g hg=>b0o hg,hΓ.2.2.2.2⟩
theorem TF {M:Model} {A:Around} {E:Value→Shared→Prop} {s:Shared} {Q:Fin→Shared→Prop} {a:Addr} {o:Obj} {x:Value} {l:List Value} {n} {b:Nat}
  (hget:s.heap.get? a=some o) (hd:o.data=.seq (x::l).toArray n)
  (h:wpAny M A (do again (.builtin "list.__repr__.loop" ⟨[.ref a,rawInt 0,← newList [],rawInt b],[]⟩)) Q E s)
  (h2:wpAny M A (do rule "list.__repr__.in-itself";retStr "[...]") Q E s):wpAny M A (Builtin.listReprAt b ⟨[.ref a],[]⟩) Q E s:=by
 intro Γ p hΓ
 have h1:=h Γ p hΓ
 have h3:=h2 Γ p hΓ
 unfold Builtin.listReprAt
 simp[slotArgs,Builtin.List.listItems,seqItems?,Sem.wp_load_of (h:=hget),hd,stack]
 show Sem.wp M Γ (if (Γ.below.any _)=true then _ else _) _ _ p s
 split
 ·exact h3
 ·exact h1
def Ov (prog:Program) (w:World) (A:Around) (h:Heap) (u:Value):Prop:=∀(env:Env) (s1:Shared) (Q E1:Value→Shared→Prop),(∀b o,h.get? b=some o→s1.heap.get? b=some o)→
 (∀(y:Str) (tk:Tok) (tks:Nat) (h':Heap),y.length≤1000000→(∀b o,s1.heap.get? b=some o→h'.get? b=some o)→Q (.str y tk) {s1 with heap:=h',toks:=tks})→wpAny (model prog w) (A.deeper env) (pyReprObj u) Q E1 s1
def tD:Value→Str
 | .int k _=>toString k
 | _=>""
theorem Le:∀{its:List Value},(∀x∈its,∃(k:Int) (t:Tok),x=.int k t∧k.natAbs.log2<1920)→piled (its.map tD)≤1923*its.length
 | [],_=>by simp[piled]
 | x::its,h=>by
  obtain⟨k,t,rfl,hk⟩:=h x (by simp)
  have h1:=Le fun y hy=>h y (a0C _ hy)
  have h2:(tD (.int k t)).length≤1921:=by
   show (Str.ofString (toString k)).length≤_
   rw[ofString_length];exact int_text_length_le (k:=1920) (by decide) hk
  rw[a0F,piled_cons,a0Y]
  omega
theorem SM:∀(ts:List Str),(listText ts).length≤2+piled ts
 | []=>by rw[piled_nil];decide
 | t::r=>by
  have h:=textFrom_length_pos r 1 (("[":Str)++(if (0:Nat) > 0 then ", " else "":String)++t) (Nat.succ_pos 0)
  have e:((("[":Str)++(if (0:Nat) > 0 then ", " else "":String)++t)).length=1+t.length:=by
   rw[strLen_append,strLen_append];rfl
  have hX:(listText (t::r)).length=(textFrom 0 "[" (t::r)).length+1:=by
   show (textFrom 0 "[" (t::r)++"]").length=_
   rw[strLen_append];rfl
  have hY:textFrom 0 "[" (t::r)=textFrom 1 (("[":Str)++(if (0:Nat) > 0 then ", " else "":String)++t) r:=rfl
  rw[hX,hY,h,e,piled_cons];omega
theorem Wd {prog:Program} {w:World} {A:Around} {h:Heap} {a:Addr} {o:Obj} {its:List Value} {n:Nat} (ha:h.get? a=some o) (hc:o.cls=.type "list") (hd:o.data=.seq its.toArray n)
  (hi:∀x∈its,∃(k:Int) (t:Tok),x=.int k t∧k.natAbs.log2<1920) (hl:its.length≤100) (hu:A.units+20<cLine):Ov prog w A h (.ref a):=by
 intro env s1 Q E1 k1 q
 refine Ry fun g=>?_
 have hTy:s1.TypeIs (.ref a) "list":=⟨o,k1 _ _ ha,hc⟩
 cases its with
 | nil=>exact wpAny_pyReprObj_list_empty hTy (by show A.units+3<_;omega) (k1 _ _ ha) hd (q _ _ _ s1.heap (by decide) fun _ _ e=>e)
 | cons x its=>
  unfold pyReprObj
  refine a0H (wpAny_cRoomFor (by show A.units+3<_;omega) ?_)
  refine a0H (wpAny_specialOf (name:=Str.ofString "__repr__") hTy F.slot_list_repr.lookup ?_)
  refine a0H (m:=callSpecialIfBound? (.ref a) (Str.ofString "__repr__")) (wpAny_callSpecialIfBound?_slot (name:=Str.ofString "__repr__") hTy F.slot_list_repr
   (b0t (codeAny_call_builtin F.slot_list_repr.plain F.entry_list_repr (F.slot_list_repr.check _ _ _ _ _ _ _ _ hTy (F.args_list_repr_1 _) ?_))))
  have hp:=Le hi
  have ht:=SM ((x::its).map tD)
  have hsz:(listText ((x::its).map tD)).length≤1000000:=by omega
  refine TF (b:=0) (k1 _ _ ha) hd ?_ ?_
  ·refine a0H (m:=newList []) (wpAny_newObj_type ?_)
   refine b0n ⟨F.quiet_list_repr_loop _,?_⟩
   refine codeAny_list_repr_start (P:=s1.heap.objs.size) (ts:=(x::its).map tD) (a0A (Heap.lt_size (k1 _ _ ha))) (by simp) (fun i y hy=>?_) (Heap.get?_push_of_some _ (k1 _ _ ha)) hd (Heap.get?_push_size _ rfl) (fun h' u tk hk=>?_) (by rw[a0m];omega)
   ·have hy':(x::its)[i]?=some y:=by simpa using hy
    obtain⟨k,t,rfl,hk⟩:=hi y (a0u hy')
    exact⟨_,by rw[a0y,hy'];rfl,ReprIs.int t hk⟩
   ·exact a0H (wpAny_isInstance (T:="str") (b:=true) rfl isSubtype_str_str (b0n (q _ _ _ h' hsz fun b o e=>hk b o (a0A (Heap.lt_size e)) (Heap.get?_push_of_some _ e))))
  ·refine a0H (wpAny_rule ?_)
   intro Γ p hΓ
   simp[retStr,ret]
   refine wpAny_mkStr ?_ (by rw[a0m];decide) Γ p hΓ
   exact a0H (wpAny_isInstance (T:="str") (b:=true) rfl isSubtype_str_str (b0n (q "[...]" _ _ s1.heap (by decide) fun _ _ e=>e)))
section
variable {prog:Program} {w:World} {A:Around} {E:Value→Shared→Prop} {R:Result→Shared→Prop} {s:Shared} {K:Frag} {mg:Str→Option Value} {C fI:Addr} {cn qual:Str} {st:Stmt} {ps:List Str} {jv:List Expr} {rest:List Stmt}
theorem Wf {p pre:Str} {cst:Nat} {j1 j2 j3 q1 q2 q3 q4 q5 q6:Pos} (T:oJ prog K mg C fI cn qual st [p] [.Constant (.str pre) cst j1,.FormattedValue (.Name p j2) 114 none j3] [.Assign [.Attribute (.Name "self" q1) p q2] (.Call (.Name "list" q5) [.Name p q3] [] q6) q4])
  (S:kZ st qual [p] [.Constant (.str pre) cst j1,.FormattedValue (.Name p j2) 114 none j3] [.Assign [.Attribute (.Name "self" q1) p q2] (.Call (.Name "list" q5) [.Name p q3] [] q6) q4]) (hp:(p == ("self":Str))=false) (hpd:(p == ("__debug__":Str))=false) (hno:findIn K (.ref C) p=some none)
  (kL:(L2.defScope st).names.lookup ("list":Str)=some .globalImplicit) (mgL:mg "list"=none)
  (hpre:pre.length≤100) {a:Addr} {o:Obj} {its:List Value} {n:Nat} (ha:s.heap.get? a=some o) (hco:o.cls=.type "list") (hdo:o.data=.seq its.toArray n) (hi:∀x∈its,∃(k:Int) (t:Tok),x=.int k t∧k.natAbs.log2<1920) (hl:its.length≤100)
  (X:L2.Mod K mg s.heap) (hroom:A.depth+1<recursionLimit) (hrep:Ov prog w (A.under (.builtin "type.__call__" ⟨[.ref C,.ref a],[]⟩)) s.heap (.ref a))
  (hq:∀h' tk e d la c',Made s.heap h' e C d (fun y=>if y=p then some (.ref la) else none)→s.heap.objs.size≤la→la≠e→la≠d→h'.get? la=some {cls:=.type "list",dict:=none,data:=.seq its.toArray c',slots:=#[]}→R (.ok (.ret (.ref e))) {s with heap:=h',toks:=tk}) :
  codeAny (model prog w) A (.call (.ref C) ⟨[.ref a],[]⟩) R s:=by
 obtain⟨nm,q,N,bs,bm,sn,sub,ab,col,dd,k0,k1,k2,k3,k5,hC,hbm⟩:=T.cls
 have hcl:clsIn K C=some {name:=nm,bases:=bs,mro:=.ref C::bm,ns:=N,qualname:=q,hasDict:=true,slotNames:=sn,subclasses:=sub,abstract:=ab,collection:=col,hasDel:=false}:=by unfold clsIn;rw[hC]<;>rfl
 obtain⟨hp0,g,dr,tk,os⟩:=s
 have k:∀b o,hp0.get? b=some o→((hp0.push (kdv_tup [.ref a])).push (excO C hp0.objs.size)).get? b=some o:=fun b o e=>Heap.get?_push_of_some _ (Heap.get?_push_of_some _ e)
 have hget:((hp0.push (kdv_tup [.ref a])).push (excO C hp0.objs.size)).get? (hp0.objs.size+1)=some (excO C hp0.objs.size):=by heap_get
 have hnx:K.lookup (hp0.objs.size+1)=none:=by
  cases e:K.lookup (hp0.objs.size+1) with
  | none=>rfl
  | some o=>
   have z:hp0.get? (hp0.objs.size+1)=some o:=X.kin _ _ e
   exact absurd (a0V (Heap.lt_size z)) (Nat.lt_irrefl _)
 have hsz1:[Value.ref a].length≤sizeLine:=by rw[a0m];exact(by decide:1≤16777216)
 have qO:(((("self":Str)::[p]).zip [Value.ref (hp0.objs.size+1),.ref a]).reverse.lookup ("self":Str))=some (.ref (hp0.objs.size+1)):=S.first _ [.ref a] rfl
 have lp:(((("self":Str)::[p]).zip [Value.ref (hp0.objs.size+1),.ref a]).reverse.lookup p)=some (.ref a):=by
  show (List.lookup p [(p,Value.ref a),(("self":Str),Value.ref (hp0.objs.size+1))])=some (Value.ref a)
  simp[List.lookup]
 refine call_own F.excBase_ValueError (fun X=>refsVE_contains X bm hbm) (X.kin _ _ hC) (looks_findIn X.kin T.iC) (fun self=>bind_fn X.kin self T.tC) hsz1 ?_
 refine Lp (s:=⟨(hp0.push (kdv_tup [.ref a])).push (excO C hp0.objs.size),g,dr,tk,os⟩) T S (ni X k) hget hnx hroom rfl (fun jp L cda cc s1 Q E1 k1 n1 q1=>?_) fun L cda cc h2 t1 tks hL k2 e2 n2=>?_
 ·
  refine wpAny_JoinedStr ?_
  show wpAny _ _ (eval (.Constant (.str pre) cst j1) _) _ _ _
  refine a0Z ⟨pre,_,rfl,?_,?_⟩
  ·show (Str.empty++pre).length≤sizeLine
   have:(Str.empty++pre).length=pre.length:=by rw[Str.length_append];show 0+pre.length=_;omega
   rw[this,a0m];omega
  show wpAny _ _ (eval (.FormattedValue (.Name p j2) 114 none j3) _) _ _ _
  refine a0X (a0M (a0p S.kind (S.jZ p (by simp)) n1 lp ?_) hpd)
  refine hrep _ _ _ _ (fun b o e=>k1 _ _ (k _ _ e)) fun y tk tks h5 hy k5=>?_
  have hys:y.length≤sizeLine:=by rw[a0m];omega
  have fin:∀(s3:Shared) (z:Tok),(∃tks,s3={s1 with heap:=h5,toks:=tks})→∃(y':Str) (t:Tok),Value.str y z=.str y' t∧((Str.empty++pre)++y').length≤sizeLine∧Joins (model prog w) ((A.under (.builtin "type.__call__" ⟨[.ref C,.ref a],[]⟩)).deeper (ksEnv qual (L2.defScope st) L fI (.ref cda) cc)) E1 [] ((Str.empty++pre)++y') (fun out s₁=>out.length≤sizeLine∧Q (.str out s₁.toks) {s₁ with toks:=s₁.toks+1}) s3:=fun s3 z hs=>by
   obtain⟨Qo,rfl⟩:=hs
   have hl:((Str.empty++pre)++y).length≤sizeLine:=by
    rw[Str.length_append,Str.length_append,a0m]
    show 0+pre.length+y.length≤_
    omega
   exact⟨y,_,rfl,hl,hl,q1 _ _ _ _ k5⟩
  exact b0h (fin _ _ ⟨_,rfl⟩) (fin _ _ ⟨_,rfl⟩) hys
 ·
  have hk:(L2.defScope st).kind=.function:=S.kind
  have Ra:∀b o,hp0.get? b=some o→b≠hp0.objs.size+1:=fun b o e z=>by
   have:=Heap.lt_size e;rw[z] at this;exact absurd (a0V this) (Nat.lt_irrefl _)
  have kh:∀b o,hp0.get? b=some o→h2.get? b=some o:=fun b o e=>k2 b o (Ra b o e) (k b o e)
  have Ko:L2.Mod K mg h2:=ni X kh
  have X2:K.In h2:=Ko.kin
  obtain⟨mb,hmb,Jr⟩:=Ko.blt
  refine b0i (a0E ?_)
  refine a0S ?_
  refine a0M (ks_loadName_global S.kind kL (loadGlobal_builtin (env:=ksEnv qual (L2.defScope st) L fI (.ref cda) cc) Ko.glob mgL hmb ((Jr _ (by trivial)).trans (by first|rfl|decide +kernel)) ?_)) (by decide)
  refine PyProof.Rows.callWith_type1 ?_ rfl rfl
  refine spliced_cons (a0M (a0p S.kind (S.jZ p (by simp)) n2 lp ?_) hpd)
  refine spliced_nil ?_
  have ha2:=kh _ _ ha
  refine call_list_seq a (.inl rfl) ha2 hco hdo (fun h3 c' kp e3=>?_) (by simp only[b0f];rw[a0m];omega)
  have hLlt:L<h2.objs.size:=n2.lt
  have tZ:hp0.objs.size+1+1≤L:=by
   have q:=hL
   first
    | (simpa only[Heap.size_push] using q)
    | exact q
  have x3:=kp _ _ e2
  have X3:K.In h3:=fun a o e=>kp _ _ (X2 a o e)
  have n3:h3.Ns L (fun y=>(((("self":Str)::[p]).zip [Value.ref (hp0.objs.size+1),.ref a]).reverse.lookup y)):=n2.keeps kp
  refine a0M (a0p S.kind S.nM n3 qO ?_) (by decide)
  refine set_plain X3 (ox:=excO C t1) (od:=none) ⟨x3,rfl,rfl,trivial⟩ T.sa ?_
  refine exc_osa X3 x3 hcl (show refsVE (.ref C::bm)=true from hbm) rfl hno (fun h₄ tk₄ dx k₄ dn dne Z5 hn₄=>?_)
  refine b0p ?_
  have Kr:hp0.objs.size+1<h2.objs.size:=Heap.lt_size e2
  have Rb:h2.objs.size<h3.objs.size:=Heap.lt_size e3
  have old:∀b o,hp0.get? b=some o→h₄.get? b=some o:=fun b o e=>k₄ b o (Ra b o e) (kp _ _ (kh b o e))
  have Rf:h3.objs.size≤dx:=dn
  have z1:hp0.objs.size≤h2.objs.size:=Nat.le_of_lt (a0V Kr)
  refine⟨rfl,hq h₄ tk₄ (hp0.objs.size+1) dx h2.objs.size c' ⟨old,b0g _,⟨_,_,Z5,rfl,rfl,rfl,rfl,rfl,(by decide:4<6)⟩,a0D z1 (a0D (Nat.le_of_lt Rb) Rf),dne,hn₄⟩ z1 (Nat.ne_of_gt Kr) (a0A (a0B Rb Rf)) (k₄ _ _ (Nat.ne_of_gt Kr) e3)⟩
end
def lU (P:Program) (K:Frag) (mg:Str→Option Value) (cn p:Str) (C:Addr):Prop:=∃(fI:Addr) (qual:Str) (st:Stmt) (pre:Str) (cst:Nat) (j1 j2 j3 q1 q2 q3 q4 q5 q6:Pos),
 oJ P K mg C fI cn qual st [p] [.Constant (.str pre) cst j1,.FormattedValue (.Name p j2) 114 none j3] [.Assign [.Attribute (.Name "self" q1) p q2] (.Call (.Name "list" q5) [.Name p q3] [] q6) q4]∧
 kZ st qual [p] [.Constant (.str pre) cst j1,.FormattedValue (.Name p j2) 114 none j3] [.Assign [.Attribute (.Name "self" q1) p q2] (.Call (.Name "list" q5) [.Name p q3] [] q6) q4]∧
 (p == ("self":Str))=false∧(p == ("__debug__":Str))=false∧findIn K (.ref C) p=some none∧(L2.defScope st).names.lookup ("list":Str)=some .globalImplicit∧mg "list"=none∧pre.length≤100
section
variable {P:Program} {K:Frag} {mg:Str→Option Value} {cn p:Str} {C:Addr}
theorem lU.xf (T:lU P K mg cn p C):L2.XfC K C:=by
 obtain⟨fI,qual,st,pre,cst,j1,j2,j3,q1,q2,q3,q4,q5,q6,T,S,h1,h2,h3,h4⟩:=T
 exact⟨T.ga,T.gg,T.exC,T.hdC⟩
theorem lU.no (T:lU P K mg cn p C):findIn K (.ref C) p=some none:=by
 obtain⟨fI,qual,st,pre,cst,j1,j2,j3,q1,q2,q3,q4,q5,q6,T,S,h1,h2,h3,h4⟩:=T
 exact h3
theorem lU.g (T:lU P K mg cn p C):mg cn=some (.ref C):=by
 obtain⟨fI,qual,st,pre,cst,j1,j2,j3,q1,q2,q3,q4,q5,q6,T,S,h1,h2,h3,h4⟩:=T
 exact T.gC
end
end bA
end PySem
namespace DL
open PySem L2 PyProof.Rows
def QJ (ys:List V):Prop:=ys.length≤100∧∀v∈ys,∃i:Int,v=.int i∧i.natAbs.log2<1920
theorem Lr:∀{ys:List V} {its:List Value},Paired RelV ys its→∀{x:Value},x∈its→∃v∈ys,RelV v x
 | _,_,.nil,x,h=>nomatch h
 | _,_,.cons r t,x,h=>by
  rcases a0c.mp h with rfl|h
  ·exact⟨_,a0v,r⟩
  ·obtain⟨v,a,b⟩:=Lr t h;exact⟨v,a0C _ a,b⟩
def PN (C:Addr) (p:Str) (K:PySem.W.Frag) (ta:TA):L2.St→Hp→XK→Prop:=fun σ H Q=>ta σ H fun vs H1=>∃(a:Addr) (ys:List V),vs=[.ref a]∧SqL K H1 a ys∧QJ ys∧∀la d,H1 la=none→H1 d=none→la≠d→Q (.ref C) (some d) (upd (upd H1 la (.lst ys)) d (.xd [(p,.ref la)]))
section
variable {X:Cx} {C:Addr} {cn p:Str} {a:Expr} {ta:TA} {pp pos pos2:Pos} {k:Nat} {W:WX}
def P0 (C:Addr) (p:Str) (K:PySem.W.Frag) (W:WX) (ta:TA):TS:=fun _ σ H=>PN C p K ta σ H fun cls d H'=>W cls d σ H'
end
end DL
namespace AL
open PySem L2 DL PyProof.Rows
def uG (ds:List D):Prop:=ds.length≤100∧∀d∈ds,∃i:Int,d=.int i∧i.natAbs.log2<1920
theorem uG.v {K:PySem.W.Frag} {Hb:Hp} {ds:List D} {vs:List V} (h:uG ds) (r:aj K Hb ds vs):QJ vs:=by
 refine⟨by rw[← r.len];exact h.1,fun v hv=>?_⟩
 obtain⟨i,hi⟩:=a0J hv
 obtain⟨d,hd,hr⟩:=r.Qm hi
 obtain⟨k,rfl,hk⟩:=h.2 d (a0u hd)
 exact⟨k,Rp.jC hr,hk⟩
open Classical in
noncomputable def rF (C:Addr) (p:Str) (fa:M (List R)):S:=fun st=>match fa st with
 | some (.ok [x] st')=>match AL.dM st' x with
  | some ds=>if uG ds then some (.ex ⟨C,[p],[.lst ds]⟩ st') else none
  | none=>none
 | some (.ex x st')=>some (.ex x st')
 | _=>none
section
variable {K:PySem.W.Frag} {W:WX} {ta:TA} {fa:M (List R)}
theorem U6 {C:Addr} {q:Str} (ha:XA K W ta fa):XS K W (DL.P0 C q K W ta) (rF C q fa):=fun A st σ H fs Cc T y hy p=>by
 unfold rF at hy
 split at hy
 ·rename_i x st' h1
  split at hy
  ·rename_i ds hds
   by_cases hx:uG ds
   ·rw[a0d hx] at hy
    cases hy
    refine ha A st σ H fs Cc _ _ h1 fun vs H1 ⟨Hb,ι,C1⟩=>?_
    obtain⟨v,rfl,hv⟩:=mO (C1.tmp (iH K σ [x] vs) (by simp))
    have C2:ao K A st' σ H1 fs Hb ι:=C1.temps fun q hq=>C1.tmp q (by simp[hq])
    obtain⟨a,us,rfl,s,q⟩:=C2.dM hv hds
    refine⟨a,us,rfl,.inl s,hx.v q,fun la dd hla hdd hne=>p _ _ σ _ ?_⟩
    have C3:ao K A st' σ (upd H1 la (.lst us)) fs (upd Hb la (.lst us)) ι:=C2.laid hla fun p hp=>p.m _ _ _ _ (bM.refl _) (Ex.new (C2.bH.none hla)).rl (C2.tmp p hp)
    have Jz:upd H1 la (.lst us) dd=none:=by rw[a0t (Ne.symm hne)];exact hdd
    obtain⟨f1,f2,f3,f4⟩:=C3.fresh Jz
    refine⟨_,ι,dd,[.ref la],C3.vY (Ex.new Jz) (Ex.refl _) (C3.bH.trans (Ex.new Jz)) (fun a h1 h2=>absurd h1 h2),rfl,rfl,a0w,rfl,aj.one ?_,f3,f1⟩
    unfold Rp
    exact⟨la,us,rfl,.inl a0w,aj.mono (Ex.new (C2.bH.none hla)).rl _ _ q⟩
   ·rw[a0j hx] at hy;cases hy
  ·cases hy
 ·rename_i x st' h1
  cases hy
  exact ha A st σ H fs Cc _ _ h1 fun cls d H2 X=>p cls d σ H2 X
 ·cases hy
end
end AL
set_option maxHeartbeats 2000000
namespace HX
open PySem PySem.Spec PyProof.Rows L2 L2H HotX DL AL
section
variable {X:Cx} {C:Addr} {cn p p1 p2:Str} {a b:Expr} {ta:TA} {pp pos pos2:Pos} {k:Nat} {W:WX}
theorem Xk (T:bA.dF X.prog X.K X.mg cn p C) (hr:Room k X.A) (hk:2≤k) (ha:PA X [a] ta) (hg:Gl X cn:=by rfl) (hdb:(cn == ("__debug__":Str))=false:=by decide)
  (hs1:starEach (a::[]) X.env=(false,eval a X.env)::starEach [] X.env:=by rfl) (hs2:(backTo pos (starEach [] X.env)).any (·.1)=false:=by rfl):L2N.PMk X (.Call (.Name cn pp) [a] [] pos) (Qp C p ta):=by
 intro pins s σ H Q I h
 obtain⟨fI,qual,st,pre,cst,j1,j2,j3,q1,q2,q3,q4,T,S,h1,h2,h3,h4⟩:=T
 refine a0S (ld_glob I hg T.gC ?_ hdb)
 refine b0d (h₀:=X.base) I.ok.mod.kin T.kC (thn (ha.run pos pins s σ H _ I h) fun us s1 hh=>?_) hs1 hs2
 obtain⟨vs,H1,I1,r1,v,rfl,hv,kk⟩:=hh
 refine⟨I1.kIn,?_⟩
 obtain⟨u,rfl,ru⟩:∃u,us=[u]∧RelV v u:=by
  cases r1 with
  | cons a b=>cases b;exact⟨_,rfl,a⟩
 show wpAny _ _ (call (.ref C) [u]) _ _ _
 have M1:Mod X.K X.mg s1.heap:=bA.ni I1.mod I1.bk
 obtain⟨hp,g,dr,tk,os⟩:=s1
 refine b0t (bA.V1 T S h1 h2 h3 h4 M1 (by have:=hr.dp;omega) (bA.Og hv ru) fun h' tk' e d M=>?_)
 show L2N.MkP X pins σ Q (.ref e) ⟨h',g,dr,tk',os⟩
 obtain⟨oe,fv,o1,o2,o3,o4,o5,o6⟩:=M.obj
 obtain⟨G,g1,g2⟩:=restrict h' fun b=>decide (b≠e)
 have gk:∀b,b≠e→G.get? b=h'.get? b:=fun b hb=>g1 b (a0R hb)
 have ge:G.get? e=none:=g2 e (by simp)
 have tO:∀b o,hp.get? b=some o→G.get? b=some o:=fun b o q=>(gk b (a0A (a0B (Heap.lt_size q) M.new))).trans (M.keep b o q)
 have ob:ObjOk X.prog X.w (upd H1 d (.xd [(p,v)])) G d (.xd [(p,v)]):=⟨_,M.ns.at (fun o q=>(gk d M.dne).trans q),fun f=>Ms ru f⟩
 have J:Inv X pins σ (upd H1 d (.xd [(p,v)])) ⟨G,g,dr,tk',os⟩:=I1.laid (t':=tk') tO M.qU ob
 refine⟨e,oe,fv,⟨G,g,dr,tk',os⟩,_,.ref C,some d,rfl,J,fun b o q=>?_,ge,o1,⟨o2,o3,fun vs q=>by rw[o4] at q;cases q;exact o6.1⟩,o4,o5,?_,rfl,I1.bare,raises_own T.exC T.tyC,kk d (I1.hok.fresh M.qU)⟩
 ·by_cases hb:b=e
  ·rw[show G.get? b=none by rw[hb];exact ge] at q;cases q
  ·exact(gk b hb).symm.trans q
 ·rw[a0t (Ne.symm M.dne)];exact I1.hok.fresh M.new
theorem nj (hc:X.calm=true) (T:bA.dF X.prog X.K X.mg cn p C) (hr:Room k X.A) (hk:2≤k) (tk:L2N.Takes X W) {te:TE} (ha:PE X a te) (hg:Gl X cn:=by rfl) (hdb:(cn == ("__debug__":Str))=false:=by decide)
  (hs1:starEach (a::[]) X.env=(false,eval a X.env)::starEach [] X.env:=by rfl) (hs2:(backTo pos (starEach [] X.env)).any (·.1)=false:=by rfl):PS X (.Raise (some (.Call (.Name cn pp) [a] [] pos)) none pos2) (Qq C p W (tCons te tNil)):=
 L2N.ps_raise hc tk (Xk T hr hk (a0i ha a0x hs1) hg hdb hs1 hs2)
theorem Xl (T:bA.jM X.prog X.K X.mg cn p1 p2 C) (hr:Room k X.A) (hk:2≤k) (ha:PA X [a,b] ta) (hg:Gl X cn:=by rfl) (hdb:(cn == ("__debug__":Str))=false:=by decide)
  (hs1:starEach (a::[b]) X.env=(false,eval a X.env)::starEach [b] X.env:=by rfl) (hs2:(backTo pos (starEach [b] X.env)).any (·.1)=false:=by rfl):L2N.PMk X (.Call (.Name cn pp) [a,b] [] pos) (Px C p1 p2 ta):=by
 intro pins s σ H Q I h
 obtain⟨fI,qual,st,pre,mid,c1,c2,j1,j2,j3,j4,j5,j6,q1,q2,q3,q4,r1',r2',r3',r4',T,S,h1,h2,hne,h3,h4,h5,h6⟩:=T
 refine a0S (ld_glob I hg T.gC ?_ hdb)
 refine b0d (h₀:=X.base) I.ok.mod.kin T.kC (thn (ha.run pos pins s σ H _ I h) fun us s1 hh=>?_) hs1 hs2
 obtain⟨vs,H1,I1,r1,v,i,rfl,hv,hi,kk⟩:=hh
 refine⟨I1.kIn,?_⟩
 obtain⟨u,t,rfl,ru⟩:∃u t,us=[u,.int i t]∧RelV v u:=by
  cases r1 with
  | cons a b=>
   cases b with
   | cons c d=>cases d;obtain⟨t,rfl⟩:=c;exact⟨_,_,rfl,a⟩
 show wpAny _ _ (call (.ref C) [u,.int i t]) _ _ _
 have M1:Mod X.K X.mg s1.heap:=bA.ni I1.mod I1.bk
 obtain⟨hp,g,dr,tk,os⟩:=s1
 refine b0t (bA.V5 T S h1 h2 hne h3 h4 h5 h6 hi M1 (by have:=hr.dp;omega) (bA.Og hv ru) fun h' tk' e d M=>?_)
 show L2N.MkP X pins σ Q (.ref e) ⟨h',g,dr,tk',os⟩
 obtain⟨oe,fv,o1,o2,o3,o4,o5,o6⟩:=M.obj
 obtain⟨G,g1,g2⟩:=restrict h' fun b=>decide (b≠e)
 have gk:∀b,b≠e→G.get? b=h'.get? b:=fun b hb=>g1 b (a0R hb)
 have ge:G.get? e=none:=g2 e (by simp)
 have tO:∀b o,hp.get? b=some o→G.get? b=some o:=fun b o q=>(gk b (a0A (a0B (Heap.lt_size q) M.new))).trans (M.keep b o q)
 have ob:ObjOk X.prog X.w (upd H1 d (.xd [(p1,v),(p2,.int i)])) G d (.xd [(p1,v),(p2,.int i)]):=⟨_,M.ns.at (fun o q=>(gk d M.dne).trans q),fun f=>V6 hne ru f⟩
 have J:Inv X pins σ (upd H1 d (.xd [(p1,v),(p2,.int i)])) ⟨G,g,dr,tk',os⟩:=I1.laid (t':=tk') tO M.qU ob
 refine⟨e,oe,fv,⟨G,g,dr,tk',os⟩,_,.ref C,some d,rfl,J,fun b o q=>?_,ge,o1,⟨o2,o3,fun vs q=>by rw[o4] at q;cases q;exact o6.1⟩,o4,o5,?_,rfl,I1.bare,raises_own T.exC T.tyC,kk d (I1.hok.fresh M.qU)⟩
 ·by_cases hb:b=e
  ·rw[show G.get? b=none by rw[hb];exact ge] at q;cases q
  ·exact(gk b hb).symm.trans q
 ·rw[a0t (Ne.symm M.dne)];exact I1.hok.fresh M.new
theorem U7 (hc:X.calm=true) (T:bA.jM X.prog X.K X.mg cn p1 p2 C) (hr:Room k X.A) (hk:2≤k) (tk:L2N.Takes X W) {te Rg:TE} (ha:PE X a te) (hb:PE X b Rg) (hg:Gl X cn:=by rfl) (hdb:(cn == ("__debug__":Str))=false:=by decide)
  (hs1:starEach (a::[b]) X.env=(false,eval a X.env)::starEach [b] X.env:=by rfl) (hs0:starEach (b::[]) X.env=(false,eval b X.env)::starEach [] X.env:=by rfl) (hs2:(backTo pos (starEach [b] X.env)).any (·.1)=false:=by rfl):PS X (.Raise (some (.Call (.Name cn pp) [a,b] [] pos)) none pos2) (Py C p1 p2 W (tCons te (tCons Rg tNil))):=
 L2N.ps_raise hc tk (Xl T hr hk (a0i ha (a0i hb a0x hs0) hs1) hg hdb hs1 hs2)
theorem Xm (T:bA.lU X.prog X.K X.mg cn p C) (hr:Room k X.A) (hk:2≤k) (ha:PA X [a] ta) (hg:Gl X cn:=by rfl) (hdb:(cn == ("__debug__":Str))=false:=by decide)
  (hs1:starEach (a::[]) X.env=(false,eval a X.env)::starEach [] X.env:=by rfl) (hs2:(backTo pos (starEach [] X.env)).any (·.1)=false:=by rfl):L2N.PMk X (.Call (.Name cn pp) [a] [] pos) (PN C p X.K ta):=by
 intro pins s σ H Q I h
 obtain⟨fI,qual,st,pre,cst,j1,j2,j3,q1,q2,q3,q4,q5,q6,T,S,h1,h2,h3,kL,mL,h4⟩:=T
 refine a0S (ld_glob I hg T.gC ?_ hdb)
 refine b0d (h₀:=X.base) I.ok.mod.kin T.kC (thn (ha.run pos pins s σ H _ I h) fun us s1 hh=>?_) hs1 hs2
 obtain⟨vs,H1,I1,r1,Ks,ys,rfl,hsq,hiv,kk⟩:=hh
 refine⟨I1.kIn,?_⟩
 obtain rfl:us=[.ref Ks]:=by
  cases r1 with
  | cons a b=>cases b;cases a;rfl
 show wpAny _ _ (call (.ref C) [.ref Ks]) _ _ _
 have M1:Mod X.K X.mg s1.heap:=bA.ni I1.mod I1.bk
 obtain⟨its,rv,pl,hz⟩:=I1.list hsq
 obtain⟨o,ho,hc,n,hd⟩:=pl.isList
 have hlen:=rv.length
 have hits:∀x∈its,∃(k:Int) (t:Tok),x=.int k t∧k.natAbs.log2<1920:=fun x hx=>by
  obtain⟨v,hv,r⟩:=Lr rv hx
  obtain⟨i,rfl,hi⟩:=hiv.2 v hv
  obtain⟨t,rfl⟩:=r
  exact⟨i,t,rfl,hi⟩
 obtain⟨hp,g,dr,tk,os⟩:=s1
 refine b0t (bA.Wf T S h1 h2 h3 kL mL h4 ho hc hd hits (by have:=hiv.1;omega) M1 (by have:=hr.dp;omega) (bA.Wd ho hc hd hits (by have:=hiv.1;omega) ?_) fun h' tk' e d la c' M QK Rh Ku hla=>?_)
 ·have e1:=make_units (A:=X.A) (C:=C) (us:=[.ref Ks]) (kw:=[])
  have:=hr.un;omega
 show L2N.MkP X pins σ Q (.ref e) ⟨h',g,dr,tk',os⟩
 obtain⟨oe,fv,o1,o2,o3,o4,o5,o6⟩:=M.obj
 obtain⟨G,g1,g2⟩:=restrict h' fun b=>decide (b≠e)
 obtain⟨G1,f1,f2⟩:=restrict h' fun b=>decide (b≠e∧b≠d)
 have gk:∀b,b≠e→G.get? b=h'.get? b:=fun b hb=>g1 b (a0R hb)
 have ge:G.get? e=none:=g2 e (by simp)
 have fk:∀b,b≠e→b≠d→G1.get? b=h'.get? b:=fun b hb hb'=>f1 b (a0R ⟨hb,hb'⟩)
 have fe:G1.get? e=none:=f2 e (by simp)
 have fd:G1.get? d=none:=f2 d (by simp)
 have Z6:∀b o,hp.get? b=some o→G1.get? b=some o:=fun b o q=>(fk b (a0A (a0B (Heap.lt_size q) M.new)) (a0A (a0B (Heap.lt_size q) M.qU))).trans (M.keep b o q)
 have tO:∀b o,G1.get? b=some o→G.get? b=some o:=fun b o q=>by
  by_cases hb:b=e
  ·rw[hb,fe] at q;cases q
  ·by_cases hb':b=d
   ·rw[hb',fd] at q;cases q
   ·rw[gk b hb,← fk b hb hb'];exact q
 have obl:ObjOk X.prog X.w (upd H1 la (.lst ys)) G1 la (.lst ys):=⟨hz,its,c',rv,(fk la Rh Ku).trans hla⟩
 have J0:Inv X pins σ (upd H1 la (.lst ys)) ⟨G1,g,dr,tk',os⟩:=I1.laid (t':=tk') Z6 QK obl
 have Ri:H1 d=none:=I1.hok.fresh M.qU
 have H1l:H1 la=none:=I1.hok.fresh QK
 have ob:ObjOk X.prog X.w (upd (upd H1 la (.lst ys)) d (.xd [(p,.ref la)])) G d (.xd [(p,.ref la)]):=⟨_,M.ns.at (fun o q=>(gk d M.dne).trans q),fun f=>Ms (v:=.ref la) (u:=.ref la) rfl f⟩
 have J:Inv X pins σ (upd (upd H1 la (.lst ys)) d (.xd [(p,.ref la)])) ⟨G,g,dr,tk',os⟩:=J0.laidN (t':=tk') tO fd (by rw[a0t (Ne.symm Ku)];exact Ri) ob
 refine⟨e,oe,fv,⟨G,g,dr,tk',os⟩,_,.ref C,some d,rfl,J,fun b o q=>?_,ge,o1,⟨o2,o3,fun vs q=>by rw[o4] at q;cases q;exact o6.1⟩,o4,o5,?_,rfl,I1.bare,raises_own T.exC T.tyC,kk la d H1l Ri Ku⟩
 ·by_cases hb:b=e
  ·rw[show G.get? b=none by rw[hb];exact ge] at q;cases q
  ·exact(gk b hb).symm.trans q
 ·rw[a0t (Ne.symm M.dne),a0t (Ne.symm Rh)];exact I1.hok.fresh M.new
theorem U8 (hc:X.calm=true) (T:bA.lU X.prog X.K X.mg cn p C) (hr:Room k X.A) (hk:2≤k) (tk:L2N.Takes X W) {te:TE} (ha:PE X a te) (hg:Gl X cn:=by rfl) (hdb:(cn == ("__debug__":Str))=false:=by decide)
  (hs1:starEach (a::[]) X.env=(false,eval a X.env)::starEach [] X.env:=by rfl) (hs2:(backTo pos (starEach [] X.env)).any (·.1)=false:=by rfl):PS X (.Raise (some (.Call (.Name cn pp) [a] [] pos)) none pos2) (P0 C p X.K W (tCons te tNil)):=
 L2N.ps_raise hc tk (Xm T hr hk (a0i ha a0x hs1) hg hdb hs1 hs2)
end
inductive qw (X:Cx):List ExceptHandler→List nR→Prop
 | nil:qw X [] []
 | only {x:Str} {c:Value} {ts:Addr→Value→Option Addr→TS} {b:Stmt} {su:List Stmt} {np ph:Pos} {hs:List ExceptHandler} {l:List nR} (hn:Names X x c)
   (hk:∀(a:Addr) (oe:Obj) (cls:Value) (d:Option Addr) (pn:List (Addr×Obj)),L2N.Zn cls d oe→(∃vs,oe.data=.fields vs)→PSs (X.suite a ((a,oe)::pn)) (b::su) (ts a cls d)) (r:qw X hs l) :
   qw X (.ExceptHandler (some (.Name x np)) none (b::su) ph::hs) (⟨c,none,ts⟩::l)
 | as {x n:Str} {i:Nat} {c:Value} {ts:Addr→Value→Option Addr→TS} {b:Stmt} {su:List Stmt} {np ph:Pos} {hs:List ExceptHandler} {l:List nR} (hn:Names X x c) (hi:X.N[i]?=some n) (hl:X.env.kindOf n=some .local)
   (hk:∀(a:Addr) (oe:Obj) (cls:Value) (d:Option Addr) (pn:List (Addr×Obj)),L2N.Zn cls d oe→(∃vs,oe.data=.fields vs)→PSs (X.suite a ((a,oe)::pn)) (b::su) (ts a cls d)) (r:qw X hs l) :
   qw X (.ExceptHandler (some (.Name x np)) (some n) (b::su) ph::hs) (⟨c,some i,ts⟩::l)
section
variable {X:Cx} {body:List Stmt} {h0:ExceptHandler} {hs:List ExceptHandler} {l:List nR} {pos:Pos} {tb:WX→TS} {Wo:WX}
theorem Xn (e1:X.stack=X.env::X.outer) (e2:X.env.frame=some X.env.locals) (hN:X.N.Nodup) (tk:Takes X Wo)
  (hb:∀(W:WX) (pn:List (Addr×Obj)) (xe:Value→Shared→Prop),L2N.Takes (X.tr pn xe) W→PassesOwn (model X.prog X.w) X.A X.env xe→PSs (X.tr pn xe) body (tb W))
  (hh:qw X (h0::hs) l):PS X (.Try body (h0::hs) [] [] pos) (Qs X.K Wo l tb):=by
 refine⟨fun pins s σ H T I q=>?_⟩
 have ok:=I.ok
 have fr:X.A.frames=some (X.env::X.outer):=by rw[ok.frames,e1]
 refine wpAny_Try_except ?_
 refine wpAny_mono ((hb (t_ X.K Wo T l) (X.pn++pins) (fun e s1=>wpAny (model X.prog X.w) X.A (noteFrame e X.env) (fun _ s2=>wpAny (model X.prog X.w) X.A (setFlight e none) (fun _ s3=>wpAny (model X.prog X.w) X.A (handleBy e X.env (h0::hs)) (SP X pins T) X.xe s3) X.xe s2) X.xe s1)
  (fun u s' xx=>?_) PassesOwn.looking).run [] s σ H T (I.toTry _) q) (fun f s1 hsp=>?_) (fun _ _ he=>he)
 ·obtain⟨a,B,sI,pins',σ',H',cls,d,rfl,J',nb,up,sky,na,os,ag,wl⟩:=xx
  have J:Inv X pins σ' H' sI:=J'.ofTry ok
  rw[e1] at sky
  show wpAny (model X.prog X.w) X.A (noteFrame (.ref a) X.env) _ _ _
  refine L2N.Sky.land L2N.Zn.steady fr e2 sky fun h3 fl3 up3=>?_
  have J3:Inv X pins σ' H' {s' with heap:=h3}:=J.landed nb fl3.1 (up.trans up3) os ag
  obtain⟨oe3,vs3,he3,hz3,hd3⟩:=fl3.there
  have nfr:a∉frs (X.env::X.outer):=fun hm=>by
   obtain⟨_,o',e',hnf⟩:=fl3.2.2.1.mem hm
   rw[he3] at e';cases e'
   exact hnf _ hd3
  have nL:a≠X.env.locals:=fun z=>nfr (List.mem_filterMap.mpr ⟨X.env,a0v,by rw[e2,z]⟩)
  have nF:a∉X.fs:=fun hm=>by
   obtain⟨e,he,q⟩:=List.mem_filterMap.mp hm
   exact nfr (List.mem_filterMap.mpr ⟨e,a0C _ he,q⟩)
  have S3:=J3.suite he3 hd3 na nL nF
  have LT:PySem.W.Looks (model X.prog X.w) h3 (typeOf (.ref a)) cls:=fun A Q E s k q=>wpAny_typeOf_ref (k _ _ he3) (by rw[hz3.1];exact q)
  have ask:∀{x:Str} {c:Value} {np:Pos} {Q E:Value→Shared→Prop},Names X x c→Q c {s' with heap:=h3}→wpAny (model X.prog X.w) (X.A.mark (some (.ref a))) (eval (.Name x np) X.env) (fun v s=>Q v s) (fun v s=>E v s) {s' with heap:=h3}:=fun {x c np Q E} hc q=>by
   obtain⟨hg,hdbg,hm|⟨hm,hv,hnn⟩⟩:=hc
   ·exact ld_glob (X:=X.suite a ((a,oe3)::(X.pn++pins))) S3 hg hm q hdbg
   ·exact ld_blt (X:=X.suite a ((a,oe3)::(X.pn++pins))) S3 hg hm hv q hnn hdbg
  have go:∀{hs':List ExceptHandler} {l':List nR},qw X hs' l'→t_ X.K Wo T l' cls d σ' H'→wpAny (model X.prog X.w) X.A (handleBy (.ref a) X.env hs') (SP X pins T) X.xe {s' with heap:=h3}:=by
   intro hs' l' hk
   induction hk with
   | nil=>
    intro w
    have fl3:=L2H.flyingZ_imp (fun o z=>L2N.Zn.zc z) fl3
    refine wpAny_handleBy_nil ?_
    obtain⟨_,_,_,oe,vs,R,oR,tt,he,hz,hd,h1,hr⟩:=id fl3
    unfold PySem.passOn
    refine a0H (wpAny_field he hd h1 ?_)
    rw[a0j (show ¬((Value.ref R == Value.none)=true) from by simp)]
    have fin:wpAny (model X.prog X.w) X.A (setFlight (.ref a) X.env.frame) (fun _ s4=>wpAny (model X.prog X.w) X.A (throw (.ref a):Sem Flow) (SP X pins T) X.xe s4) X.xe {s' with heap:=h3}:=by
     rw[e2]
     refine HandSPX.setFlight_upZ fl3 fun h4 hh4 up4=>wpAny_throw (tk _ _ ?_)
     exact⟨a,B,sI,pins,σ',H',cls,d,rfl,J,nb,(up.trans up3).trans up4,.inr (.inr (by rw[e1];exact hh4)),na,os,ag,w⟩
    first
     | exact a0H (b0n (a0H fin))
     | exact a0H fin
   | @only x c ts b su np ph hs2 l2 hn hk r ih=>
    rintro⟨b1,hb1,yes,no⟩
    refine wpAny_handleBy_cons (codeAny_handlers_test ?_) (by intro q;cases q)
    refine ask hn ((PySem.W.exm_one (M:=model X.prog X.w) J3.kIn LT hb1).here ?_)
    cases b1 with
    | true=>
     refine codeAny_handlers_suite ?_
     refine HandSPX.lands_againZ fl3 fun h4 fl4 up4=>?_
     have J4:Inv X pins σ' H' {s' with heap:=h4}:=J.landed nb fl4.1 ((up.trans up3).trans up4) os ag
     obtain⟨oe4,vs4,he4,hz4,hd4⟩:=fl4.there
     refine wpAny_mono ((hk a oe4 cls d (X.pn++pins) hz4 ⟨_,hd4⟩).run [] _ _ H' _ (J4.suite he4 hd4 na nL nF) (yes rfl a na)) (fun f s6 hsp=>?_) (fun _ _ z=>False.elim z)
     cases f with
     | next=>obtain⟨σ6,H6,S6,q6⟩:=hsp;exact⟨_,_,S6.unsuite ok,q6⟩
     | brk=>obtain⟨σ6,H6,S6,q6⟩:=hsp;exact⟨_,_,S6.unsuite ok,q6⟩
     | cont=>obtain⟨σ6,H6,S6,q6⟩:=hsp;exact⟨_,_,S6.unsuite ok,q6⟩
     | ret u=>obtain⟨v6,σ6,H6,S6,r6,q6⟩:=hsp;exact⟨_,_,_,S6.unsuite ok,r6,q6⟩
    | false=>
     show wpAny _ X.A (handleBy (.ref a) X.env hs2) _ _ _
     exact ih (no rfl)
   | @as x n i c ts b su np ph hs2 l2 hn hi hl hk r ih=>
    rintro⟨b1,hb1,yes,no⟩
    refine wpAny_handleBy_cons (codeAny_handlers_test ?_) (by intro q;cases q)
    refine ask hn ((PySem.W.exm_one (M:=model X.prog X.w) J3.kIn LT hb1).here ?_)
    cases b1 with
    | true=>
     refine codeAny_handlers_suite_as ?_
     refine HandSPX.lands_againZ fl3 fun h4 fl4 up4=>?_
     have J4:Inv X pins σ' H' {s' with heap:=h4}:=J.landed nb fl4.1 ((up.trans up3).trans up4) os ag
     obtain⟨oe4,vs4,he4,hz4,hd4⟩:=fl4.there
     refine store_ok (X:=X.suite a ((a,oe4)::(X.pn++pins))) (v:=.ref a) (J4.suite he4 hd4 na nL nF) hN hi (.inl hl) rfl (fun s5 S5=>?_) (.inr hl)
     refine wpAny_mono ((hk a oe4 cls d (X.pn++pins) hz4 ⟨_,hd4⟩).run [] s5 _ H' _ S5 (yes rfl a na)) (fun f s6 hsp=>?_) (fun _ _ z=>False.elim z)
     have fin:∀{σ6:L2.St} {H6:Hp} {Q:Shared→Prop},Inv (X.suite a ((a,oe4)::(X.pn++pins))) [] σ6 H6 s6→(∀s7,Inv X pins (σ6.set i none) H6 s7→Q s7)→
       wpAny (model X.prog X.w) X.A (do bindName X.env n .none;unbindBehindTheSuite X.env n ph) (fun _ s7=>Q s7) X.xe s6:=fun {σ6 H6 Q} S6 hq=>gone_ok (S6.unsuite ok) hN hi hl hq
     cases f with
     | next=>obtain⟨σ6,H6,S6,q6⟩:=hsp;exact fin S6 fun s7 J7=>⟨_,_,J7,q6⟩
     | brk=>obtain⟨σ6,H6,S6,q6⟩:=hsp;exact fin S6 fun s7 J7=>⟨_,_,J7,q6⟩
     | cont=>obtain⟨σ6,H6,S6,q6⟩:=hsp;exact fin S6 fun s7 J7=>⟨_,_,J7,q6⟩
     | ret u=>obtain⟨v6,σ6,H6,S6,r6,q6⟩:=hsp;exact fin S6 fun s7 J7=>⟨_,_,_,J7,r6,q6⟩
    | false=>
     show wpAny _ X.A (handleBy (.ref a) X.env hs2) _ _ _
     exact ih (no rfl)
  exact go hh wl
 ·cases f with
  | next=>obtain⟨σ',H',J',q⟩:=hsp;exact b0p ⟨σ',H',J'.ofTry ok,q⟩
  | brk=>obtain⟨σ',H',J',q⟩:=hsp;exact⟨σ',H',J'.ofTry ok,q⟩
  | cont=>obtain⟨σ',H',J',q⟩:=hsp;exact⟨σ',H',J'.ofTry ok,q⟩
  | ret u=>obtain⟨v,σ',H',J',r,q⟩:=hsp;exact⟨v,σ',H',J'.ofTry ok,r,q⟩
end
structure JB (P:Program) (w:World) (K:PySem.W.Frag) (mg:Str→Option Value) (base:Heap) (x:Str) (ps:List Str) (k:Nat) (sp:Sp):Prop where
 ex:∃f fd,FnOk P w K mg base (L2N.CX P w) k f fd ps sp∧mg x=some (.ref f)∧PySem.W.keepIn K (.ref f)=true∧Binds K fd ps []
theorem Xo {X:Cx} {x:Str} {ps:List Str} {k j:Nat} {sp:Sp} {W:WX} {e:Expr} {es:List Expr} {t:TA} {p pos:Pos} (C:JB X.prog X.w X.K X.mg X.base x ps k sp) (hr:Room j X.A) (hk:k≤j) (tk:L2N.Takes X W) (ha:PA X (e::es) t) (hg:Gl X x:=by rfl) (hdb:(x == ("__debug__":Str))=false:=by decide)
  (he:starEach (e::es) X.env=(false,eval e X.env)::starEach es X.env:=by rfl) (hpl:(backTo pos (starEach es X.env)).any (·.1)=false:=by rfl):PE X (.Call (.Name x p) (e::es) [] pos) (tCallS sp (WE W) t):=by
 obtain⟨f,fd,h1,h2,h3,h4⟩:=C.ex
 exact pe_callS h1 (hr.mono hk) hg h2 h3 h4 (fun σ pins H s e s' I c=>tk e s' (L2N.XE.of_call I (fun cls d H' h=>h) c)) ha hdb he hpl
theorem aaR {K:PySem.W.Frag} {P:Program} {w:World} {mg:Str→Option Value} {base:Heap} {nm qual:Str} {st:Stmt} {f:Addr} {fd:FuncData} {N ps:List Str} {k:Nat} {g:S} {F':Fn} (F:gU K nm qual st f fd) (sc:FnScope N ps (defScope st)) (e:F'=AL.runN ps.length N.length g)
  (hbody:∀(cdv:Value) (A:Around) (outer:List Env) (s:Shared) (H:Hp) (bQ:XK) (hr:Room k (A.deeper (envOfC qual (defScope st) s.heap.objs.size f cdv))) (tk:L2N.Takes (cxOf (L2N.CX P w) P w K mg base N qual (defScope st) f cdv A outer s H bQ) (fun cls d _ H=>bQ cls d H)),
   ∃t,PSs (cxOf (L2N.CX P w) P w K mg base N qual (defScope st) f cdv A outer s H bQ) (defBody st) t∧XS K (fun cls d _ H=>bQ cls d H) t g) :
  FnOk P w K mg base (L2N.CX P w) (k+1) f fd ps (dH K F'):=by
 obtain⟨oc,od,dV,kV,doc,pm,an,cdv,ct,osl,rfl,lk,hcd⟩:=F.ex
 have hF:∀args h y,F' args h=some y→args.length=ps.length∧rB N.length g args h=some y:=fun args h y q=>by rw[e] at q;exact Hl q
 refine fn_of lk hcd sc (fun vs H Q bQ h=>?_) fun A outer s H vs Q bQ hr h=>?_
 ·obtain⟨Hb,ι,args,h,y,C,r,e,_⟩:=h
  rw[← Paired.length r];exact(hF args h y e).1
 ·obtain⟨Hb,ι,args,h,y,C,r,e,p⟩:=h
  obtain⟨t,ht,hx⟩:=hbody cdv A outer s H bQ hr (L2N.takes_of rfl rfl rfl rfl)
  refine⟨t,ht,?_⟩
  obtain⟨z,hz,ez⟩:=a0a.mp (hF args h y e).2
  refine hx ⟨H,Hb,ι⟩ _ _ H [] ⟨Hb,ι,Hi C r⟩ _ z hz ?_
  cases z with
  | nx st=>cases ez;exact fun σ H2 ⟨bG,bJ,C2⟩=>p .non H2 ⟨bG,bJ,C2.bare.temps fun q hq=>by rw[a0n.mp hq];show Rp K _ _ _;unfold Rp;rfl⟩
  | rn b st=>
   cases ez
   intro σ v H2 C2
   obtain⟨bG,bJ,a,u,C2,h1,h2,h3,h4,h5,h6,hz,_⟩:=C2
   exact p v H2 ⟨bG,bJ,a,u,C2.bare,h1,h2,h3,h4,h5,h6,hz,fun i c h=>by simp at h⟩
  | bk st=>cases ez
  | ct st=>cases ez
  | ex x st=>
   cases ez
   intro cls d σ H2 X
   obtain⟨bG,bJ,dd,vs',C2,rr⟩:=X
   exact p cls d H2 ⟨bG,bJ,dd,vs',C2.bare,rr⟩
  | rt r st=>
   intro σ v H2 ⟨bG,bJ,C2⟩
   have hv:Rt K σ bJ bG r v:=C2.tmp (rt K σ r v) (by simp)
   cases r with
   | d x=>cases ez;exact p v H2 ⟨bG,bJ,C2.bare.temps fun q hq=>by rw[a0n.mp hq];exact hv⟩
   | o n=>cases ez;exact p v H2 ⟨bG,bJ,C2.bare.temps fun q hq=>by rw[a0n.mp hq];exact hv⟩
   | w i=>
    simp only[endF] at ez
    cases q:st.s[i]? with
    | none=>rw[q] at ez;cases ez
    | some sv=>
     rw[q] at ez
     cases sv with
     | no=>cases ez
     | v r=>cases ez
     | own b=>
      cases ez
      obtain⟨v',e',CO⟩:=C2.take q
      have hv:σ[i]?=some (some v):=hv
      rw[hv] at e';cases e'
      obtain⟨jK,jL,a,u,C3,h1,h2,h3,h4,h5,h6,hz,_⟩:=CO
      refine p v H2 ⟨jK,jL,a,u,C3.bare.temps (ts':=[]) (fun q hq=>?_),h1,h2,h3,h4,h5,h6,hz,fun i c h=>?_⟩
      ·cases hq
      ·simp at h
end HX
set_option maxHeartbeats 2000000
namespace HX
open PySem PySem.Spec PyProof.Rows L2 L2H HotX DL AL
section
variable {X:Cx} {a b e:Expr} {ta tb te:TE} {p pos:Pos}
theorem Wg {k:Nat} {A:Around} {v:Option Value} (r:L2.Room k A):(A.mark v).units+200<cLine:=by have:=r.un;show A.units+200<cLine;omega
theorem Wh {k:Nat} {A:Around} (r:L2H.RoomH k A):A.units+200<cLine:=by have:=r.un;omega
theorem qJ {k:Nat} {A:Around} (r:L2H.RoomH k A):A.units+64<cLine:=by have:=r.un;omega
theorem YG (hu:X.A.units+200<cLine):OpR X (compareOp .In) (JX X.K false):=DL.OpR.or op_in_seq (DL.OpR.or (fun pins s σ H y x v u Q I ry rx h=>by
 obtain⟨a,o,rfl,g,q⟩:=h
 cases rx
 exact d_in (by omega) I g ry fun s' I'=>⟨.bl o.isSome,H,I',rfl,q⟩) (DL.OpR.or op_in_sign (op_inD (by omega))))
theorem Z7 (K:PySem.W.Frag) (hu:X.A.units+200<cLine) (ha:PE X a ta) (hb:PE X b tb) (hm:behindInMarks .In b=false:=by with_unfolding_all rfl) (hK:X.K=K:=by rfl):PT X (.Compare a [.In] [b] pos) (tTest (tOp (JX K false) ta tb)):=by subst hK;exact pt_cmpR (YG hu) ha hb hm
theorem YH (hu:X.A.units+200<cLine):IxR X (rJ X.K):=DL.IxR.or ix_list (DL.IxR.or ix_tup (DL.IxR.or ix_str fun va sl pins s σ H x y v u Q I rx ry h hs=>by
 obtain⟨a,z,rfl,g,q⟩:=h
 cases rx
 exact PyProof.Rows.tail_any (dict_typeIs I g) PySem.F.slot_dict_getitem.lookup (d_getItem (by omega) I g ry fun w' s' I' rw'=>⟨z,H,I',rw',q⟩) hs))
theorem Z8 (K:PySem.W.Frag) (hu:X.A.units+200<cLine) (ha:PE X a ta) (hb:PE X b tb) (hs:PlainIx b:=by exact fun _ _=>rfl) (hK:X.K=K:=by rfl):PE X (.Subscript a b pos) (tOp (rJ K) ta tb):=by subst hK;exact pe_ix (YH hu) ha hb hs
theorem YJ {tg:Expr} (hB:fG X.mg) (h:PE X e te) (hg:Gl X "range":=by rfl) (hs:starEach [e] X.env=[(false,eval e X.env)]:=by rfl):PIH X tg (.Call (.Name "range" p) [e] [] pos) (iRng1 (tCons te tNil)):=pi_range1H hg (hB _ (by trivial)) (a0i h a0x hs) hs
theorem Z9 (hB:fG X.mg) (hg:Gl X "ValueError":=by rfl):PE X (.Name "ValueError" pos) (tC (.ty "ValueError")):=pe_bltn hg (hB _ (by trivial)) (by trivial) rfl
end
section
variable {K:PySem.W.Frag} {W:WX} {te tc:TE} {ta:TA} {f:M R} {fa:M (List R)} {F:Addr→Addr→Addr→Fn}
theorem Nz {a C d:Addr} (ha:XA K W ta fa):XN K W (PL K F a (.ref C) (some d) ta) (oM (F a C d) fa):=fun A st σ H ts Cc Q y hy p=>
 ⟨C,d,rfl,rfl,Wc ha A st σ H ts Cc Q y hy p⟩
def jW (a C0:Addr) (Cs:List Addr) (d:Addr) (n:Str) (f:M R):M R:=if C0∈Cs then Kh a C0 d n f else Oo
theorem oV {a C0 d:Addr} {Cs:List Addr} {n:Str} (hf:XE K W te f):XE K W (QF a (.ref C0) (some d) Cs n te) (jW a C0 Cs d n f):=fun A st σ H ts Cc Q y hy p=>by
 unfold jW at hy
 by_cases hc:C0∈Cs
 ·rw[a0d hc] at hy
  exact⟨C0,hc,aaO hf A st σ H ts Cc Q y (by rw[a0d rfl];exact hy) p⟩
 ·rw[a0j hc] at hy;cases hy
def wG (sub:Addr→String→Option Bool) (a C d:Addr) (T:String) (f:M R):M R:=(aC f (aC (eC (.ty T)) aN)).of fun _ rs=>match rs with
 | [.d (.exc a' C' d' _fs _ds),.d (.ty T')]=>if a'=a∧C'=C∧d'=d∧T'=T then(sub C T').map fun b=>.d (.bl b) else none
 | _=>none
theorem Z_ {sub:Addr→String→Option Bool} {a C0 d:Addr} {T:String} (hs:∀D b,sub D T=some b→eY K D∧PySem.W.kitOne K (.ref D) (.type T)=some b) (hf:XE K W te f):XE K W (tCB (qW K (.ref C0) (some d) a) (tCons te (tCons (tC (.ty T)) tNil))) (wG sub a C0 d T f):=fun A st σ H ts Cc Q y hy p=>by
 have ha:=aG hf (aG (aaH (i:=T)) (aW (K:=K) (W:=W)))
 rcases k_ hy with ⟨rs,s1,b,h1,h2,rfl⟩|⟨x,s1,h1,rfl⟩
 ·refine ha A st σ H ts Cc _ _ h1 fun vs H1 ⟨Hb,ι,C1⟩=>?_
  split at h2
  ·rename_i a' C' d' fs ds T' _
   by_cases hq:a'=a∧C'=C0∧d'=d∧T'=T
   ·rw[a0d hq] at h2
    obtain⟨rfl,rfl,rfl,rfl⟩:=hq
    obtain⟨bb,hb,rfl⟩:=a0b.mp h2
    have hv:Paired (fun r v=>Rt K σ ι Hb r v) [R.d (.exc a' C' d' fs ds),R.d (.ty T')] vs:=C1.tmp (iH K σ _ vs) (by simp)
    cases hv with
    | cons h3 h4=>
     cases h4 with
     | cons h5 h6=>
      cases h6
      rename_i v1 v2 _
      have h3:Rp K Hb (.exc a' C' d' fs ds) v1:=h3
      have h5:Rp K Hb (.ty T') v2:=h5
      unfold Rp at h3 h5
      obtain⟨us,rfl,hx',hlen,rr⟩:=h3
      subst h5
      obtain⟨x1,x2⟩:=hs _ _ hb
      refine⟨.ty T',.type T',C',d',_,bb,rfl,x1,rfl,rfl,C1.bH _ _ hx',fun u hu=>hu,x2,p _ H1 ⟨Hb,ι,C1.temps fun q hq=>?_⟩⟩
      rcases a0c.mp hq with rfl|hq
      ·show Rp K Hb _ _;unfold Rp;rfl
      ·exact C1.tmp q (by simp[hq])
   ·rw[a0j hq] at h2;cases h2
  ·cases h2
 ·exact ha A st σ H ts Cc _ _ h1 p
end
def fV (L:List Addr) (D C:Addr):Option Bool:=if D∈L∧C∈L then some (decide (D=C)) else none
def subT (L:List Addr) (D:Addr) (_:String):Option Bool:=if D∈L then some true else none
theorem U9 {K:PySem.W.Frag} {L:List Addr} (h:∀D∈L,eY K D∧(∀C∈L,PySem.W.kitOne K (.ref D) (.ref C)=some (decide (D=C)))∧PySem.W.kitOne K (.ref D) (.type "ValueError")=some true) :
  (∀D C b,fV L D C=some b→eY K D∧PySem.W.kitOne K (.ref D) (.ref C)=some b)∧∀D b,subT L D "ValueError"=some b→eY K D∧PySem.W.kitOne K (.ref D) (.type "ValueError")=some b:=by
 refine⟨fun D C b e=>?_,fun D b e=>?_⟩
 ·unfold fV at e
  split at e
  ·rename_i q
   cases e
   exact⟨(h D q.1).1,(h D q.1).2.1 C q.2⟩
  ·cases e
 ·unfold subT at e
  split at e
  ·rename_i q
   cases e
   exact⟨(h D q).1,(h D q).2.2⟩
  ·cases e
theorem U_ {X:Cx} {a:Addr} {cls:Value} {d:Option Addr} {oe:Obj} {pn:List (Addr×Obj)} (hz:L2N.Zn cls d oe) (hf:∃vs,oe.data=.fields vs):Hot1 (X.suite a ((a,oe)::pn)).A (a,oe):=by
 obtain⟨vs,hv⟩:=hf
 exact⟨rfl,vs,hv,hz.2.2 vs hv⟩
def rW (L:List Addr):Addr→Option Bool:=fun C=>if C∈L then some true else none
theorem Xp {K:PySem.W.Frag} {L:List Addr} {O:Addr} (h:∀D∈L,PySem.W.exmOne K (.ref D) (.ref O)=some true):∀C b,rW L C=some b→PySem.W.exmOne K (.ref C) (.ref O)=some b:=fun C b e=>by
 unfold rW at e
 split at e
 ·cases e;rename_i q;exact h C q
 ·cases e
theorem j8 {K:PySem.W.Frag} {D:Addr} (hd:PySem.W.hasDictIn K D=true) (ht:PySem.W.typeIn K (.ref D)=some (.type "type")) (h1:PySem.W.subIn K (.ref D) (.ref D)=some true):PySem.W.kitOne K (.ref D) (.ref D)=some (decide (D=D)):=by
 rw[a0R rfl]
 exact jr (by
  unfold PySem.W.hasDictIn at hd
  cases z:PySem.W.clsIn K D with
  | none=>rw[z] at hd;cases hd
  | some _=>rfl) ht h1 fun _=>rfl
theorem aD {K:PySem.W.Frag} {D C:Addr} (hd:PySem.W.hasDictIn K C=true) (ht:PySem.W.typeIn K (.ref C)=some (.type "type")) (h1:PySem.W.subIn K (.ref D) (.ref D)=some true) (h2:PySem.W.subIn K (.ref D) (.ref C)=some false):PySem.W.kitOne K (.ref D) (.ref C)=some (decide (D=C)):=by
 have hne:D≠C:=fun z=>by subst z;rw[h1] at h2;cases h2
 rw[b0q hne]
 exact jr (by
  unfold PySem.W.hasDictIn at hd
  cases z:PySem.W.clsIn K C with
  | none=>rw[z] at hd;cases hd
  | some _=>rfl) ht h2 fun z=>absurd z hne
theorem eO {α:Type} {p:α→Prop}:∀x∈([]:List α),p x:=fun x hx=>by simp at hx
theorem ak {α:Type} {p:α→Prop} {a:α} {l:List α} (h:p a) (k:∀x∈l,p x):∀x∈a::l,p x:=fun x hx=>(a0c.mp hx).elim (fun e=>by rw[e];exact h) (k x)
end HX
namespace AL
open PySem L2 DL PyProof.Rows
section
variable {st s1 s2:ST} {a b:S} {t u:M Bool} {f g:M R} {y:Option Rs} {x:XD} {r:R} {k:G} {n:M Ob}
theorem YK (h:a st=some (.nx s1)):aq a b st=b s1:=by unfold aq;rw[h]
theorem YL (h:a st=some (.rt r s1)):aq a b st=some (.rt r s1):=by unfold aq;rw[h]
theorem vW (h:a st=some (.ex x s1)):aq a b st=some (.ex x s1):=by unfold aq;rw[h]
theorem aaS (h:t st=some (.ok true s1)):bL t a b st=a s1:=by unfold bL;rw[h]
theorem aaT (h:t st=some (.ok false s1)):bL t a b st=b s1:=by unfold bL;rw[h]
theorem JC {c:Bool} (h:t st=some (.ok c s1)):bL t a b st=if c then a s1 else b s1:=by unfold bL;rw[h];cases c<;>rfl
theorem MN {k:G}:forL d8 k b [] st=some (.nx st):=by unfold forL;rw[a0d (show d8 st from trivial)]
end
section
variable {st:ST} {i j:Int} {a b:D} {r:R} {s t:Str} {h:List Ob} {v:List Sv}
theorem aaU {k:D→D→Option D}:aJ k st (.d a) (.d b)=(k a b).map .d:=rfl
theorem v_add:fY st (.d (.int i)) (.d (.int j))=some (.d (.int (i+j))):=rfl
theorem YM (h:-(2 ^ 64)<i∧i<2 ^ 64):mQ (.int i) (.int j)=some (.int (i*j)):=a0d (.inl h)
theorem YQ (h:-(2 ^ 64)<j∧j<2 ^ 64):mQ (.int i) (.int j)=some (.int (i*j)):=a0d (.inr h)
theorem v_mod (h:0<j):fX (.int i) (.int j)=some (.int (i%j)):=a0d h
theorem v_div (h:0<j∧j<1073741824):oY (.int i) (.int j)=some (.int (i/j)):=a0d h
theorem v_pow (h:0≤j∧j≤1000000∧i.natAbs<2 ^ 64):pO (.int i) (.int j)=some (.int (i ^ j.toNat)):=a0d h
theorem P_ {n:Bool}:kEq n (.int i) (.int j)=some (.bl (if n then !(i == j) else i == j)):=by unfold kEq;rw[a0d (by simp[cX])];simp only[cY]
theorem YS {ns:List Int}:qZ st [.d (.dB ns)]=some (.d (.int (ns.length:Int))):=rfl
theorem aac {ns:List Int}:dI st (.d (.dB ns)) (.d (.int i))=(atI ns i).map fun n=>.d (.int n):=by
 simp[dI,K2.or,uf,ug,uh,uo,ux,dM,lQ,cR,dX,bK]
theorem aad {ds:List D}:dI st (.d (.lst ds)) (.d (.int i))=(atI ds i).map .d:=by
 simp[dI,K2.or,uf,ug,uh,uo,ux,dM,lQ,cR,dX,bK]
theorem aae (hs:s.length≤16000000):dI st (.d (.str s)) (.d (.int i))=(atI s.cps.toList i).map fun c=>.d (.str ⟨#[c]⟩):=by
 simp[dI,K2.or,uf,ug,uh,uo,ux,dM,lQ,cR,dX,bK,hs]
end
theorem YT {t:M Bool} {st s1:ST} {b:Bool} (h:t st=some (.ok b s1)):qp t st=some (.ok (!b) s1):=by unfold qp;rw[iw h];rfl
theorem YW {t u:M Bool} {st s1:ST} {b b2:Bool} (h:t st=some (.ok b s1)) (h2:u s1=some (.ok b2 s1)):qm t u st=some (.ok (b || b2) s1):=by unfold qm;rw[iw h];cases b<;>simp[h2,M.ret]
theorem Xq {it:M Wk} {k:G} {b:S} {st s1:ST} {w:Wk} (h:it st=some (.ok w s1)):mU it k b st=forL w.lk k b w.xs s1:=by
 unfold mU;rw[h]
section
variable {st s1 s2 s3:ST} {f g:M R} {fa ga:M (List R)} {x y z r:R} {k:K2} {b b2:Bool} {rs:List R} {i:Nat}
theorem e_V (h:st.s[i]?=some (.v r)):eV i st=some (.ok r st):=by unfold eV;rw[h]
theorem Kv {o:Ob} (h:st.s[i]?=some (.own o)):eV i st=some (.ok (.w i) st):=by unfold eV;rw[h]
theorem a_N:aN st=some (.ok [] st):=rfl
theorem Rj (h:f st=some (.ok r s1)) (h2:ga s1=some (.ok rs s2)):aC f ga st=some (.ok (r::rs) s2):=by unfold aC;rw[iw h,iw h2]
theorem e_B (hf:f st=some (.ok x s1)) (hg:g s1=some (.ok y s2)) (hk:k s2 x y=some z):eB k f g st=some (.ok z s2):=by unfold eB;rw[iw hf,iw hg,hk];rfl
theorem aaV {kk:D→D→Option D} {a c d:D} (h:kk a c=some d):aJ kk st (.d a) (.d c)=some (.d d):=by rw[aaU,h];rfl
theorem pX {α β:Type} {f:M α} {u:ST→α→Option β} {a:α} {c:β} (hf:f st=some (.ok a s1)) (hk:u s1 a=some c):M.of f u st=some (.ok c s1):=by unfold M.of;rw[hf];simp only[hk];rfl
theorem t_F (h:f st=some (.ok (.d (.bl b)) s1)):tF f st=some (.ok b s1):=pX h rfl
theorem t_R (h:f st=some (.ok r s1)) (h2:ql s1 r=some b):tR f st=some (.ok b s1):=pX h h2
theorem s_ret (h:f st=some (.ok r s1)):iG f st=some (.rt r s1):=by unfold iG;rw[h]
theorem wH {kk:G} (h:f st=some (.ok r s1)) (h2:kk r s1=some (.ok () s2)):cV f kk st=some (.nx s2):=by unfold cV;simp only[h,h2]
theorem s_drop (h:f st=some (.ok r s1)):lD f st=some (.nx s1):=by unfold lD;rw[h]
theorem aaf {n:M Ob} {o:Ob} (h:n st=some (.ok o s1)):oZ i n st=some (.nx ⟨s1.s.set i (.own o),s1.h⟩):=by unfold oZ;rw[h]
theorem aaW {n:Int} (h:fa st=some (.ok [.d (.int n)] s1)) (hn:-1000000000≤n∧n≤1000000000):nQ fa st=some (.ok ⟨(lH 0 n.toNat).map .d,d8⟩ s1):=pX h (a0d hn)
theorem aaX {m n:Int} (h:fa st=some (.ok [.d (.int m),.d (.int n)] s1)) (hn:(-1000000000≤m∧m≤1000000000)∧-1000000000≤n∧n≤1000000000):v7 fa st=some (.ok ⟨(lH m (n-m).toNat).map .d,d8⟩ s1):=pX h (a0d hn)
end
section
variable {st s1 s2 s3:ST} {a b:S} {t:M Bool} {f g:M R} {fa:M (List R)} {y:Option Rs} {x:XD} {r:R} {k:G} {o:Ob} {i:Nat} {rs:List R} {n:M Ob} {d:D} {ds es:List D}
theorem Qa {n m:Nat} {args:List R} {h:List Ob} {z:Rs} {w:Option (Ot×List Ob)} (hl:args.length=n) (hb:a ⟨o_ m args,h⟩=some z) (he:endF z=w):AL.runN n m a args h=w:=by
 unfold AL.runN rB
 rw[a0d hl,hb];exact he
theorem Qc {it:M Wk} {w:Wk} (h:it st=some (.ok w s1)) (h2:forL w.lk k b w.xs s1=y):mU it k b st=y:=(Xq h).trans h2
theorem aag (h:fa st=some (.ok rs s1)) (hd:d7 rs=some ds) (hl:rs.length≤16000000):dh fa st=some (.ok (.lst ds) s1):=pX h (by rw[a0d hl];unfold wF;rw[hd])
theorem aaY (h:n st=some (.ok o s1)) (hd:iI o=some d):dG n st=some (.ok (.d d) s1):=pX h (by rw[hd];rfl)
theorem aah (h:st.s[i]?=some (.own o)) (hd:iI o=some d):pQ i st=some (.ok (.d d) ⟨st.s.set i (.v (.d d)),st.h⟩):=by unfold pQ;rw[h];simp only[hd];rfl
theorem aai (h1:f st=some (.ok (.w i) s1)) (h2:s1.s[i]?=some (.own (.lst es))) (h3:fa s1=some (.ok [.d d] s2)) (h4:s2.s[i]?=some (.own (.lst ds))) (hl:ds.length<16000000):rP f fa pP st=some (.ok (.d .non) ⟨s2.s.set i (.own (.lst (ds++[d]))),s2.h⟩):=by
 unfold rP
 rw[iw h1]
 have e1:bK s1 (.w i)=some (.lst es):=by unfold bK;simp only[h2]
 have e2:bK s2 (.w i)=some (.lst ds):=by unfold bK;simp only[h4]
 have:rA s1 (.w i)=true:=by unfold rA;rw[e1]
 rw[a0d this,iw h3]
 simp only[pP,e2,Qw,hl,a0W,a0k,b0b,qP]
theorem aaZ {j:Int} {m:Nat} (h1:f st=some (.ok (.w i) s1)) (h2:g s1=some (.ok (.d (.int j)) s2)) (h3:s2.s[i]?=some (.own (.lst ds))) (hm:ixN ds.length j=some m):gS f g (.d d) st=some (.ok () ⟨s2.s.set i (.own (.lst (ds.set m d))),s2.h⟩):=by
 unfold gS
 rw[iw h1,iw h2]
 have e2:bK s2 (.w i)=some (.lst ds):=by unfold bK;simp only[h3]
 rw[e2]
 simp only[qY,hm,a0k,b0b,qP]
theorem YX {F:Fn} {h2:List Ob} (h:fa st=some (.ok rs s1)) (hw:rs.all iD=true) (hF:F rs s1.h=some (.ret (.d d),h2)):lE F fa st=some (.ok (.d d) ⟨s1.s,h2⟩):=by
 unfold lE
 rw[iw h]
 unfold qQ
 rw[a0d hw,hF]
theorem at_of {α:Type} {xs:List α} {i:Int} {x:α} (h0:0≤i) (h:xs[i.toNat]?=some x):atI xs i=some x:=by
 have e:i=((i.toNat:Nat):Int):=by omega
 rw[e];exact atI_nat h
theorem YZ {i:Int} (h:atI ds i=some d):dI st (.d (.lst ds)) (.d (.int i))=some (.d d):=by rw[aad,h];rfl
theorem Y0 {ns:List Int} {i j:Int} (h:atI ns i=some j):dI st (.d (.dB ns)) (.d (.int i))=some (.d (.int j)):=by rw[aac,h];rfl
theorem Y4 {s:Str} {i:Int} {c:Nat} (hs:s.length≤16000000) (h:atI s.cps.toList i=some c):dI st (.d (.str s)) (.d (.int i))=some (.d (.str ⟨#[c]⟩)):=by rw[aae hs,h];rfl
theorem aa0 {it:M Wk} {e:M R} {vs:List Nat} {xs:List R} (h:it st=some (.ok ⟨xs,d8⟩ s1)) (hl:xs.length≤16000000) (hc:iJ d8 k t e vs ⟨eX s1.s vs,s1.h⟩ xs=some ds):nZ it k t e vs st=some (.ok (.lst ds) ⟨eX s1.s vs,s1.h⟩):=by
 unfold nZ;rw[h];simp only[hl,a0W,hc];rfl
theorem Y5 {s:Str} {ss:List Str} (h1:f st=some (.ok (.d (.str s)) s1)) (h2:g s1=some (.ok r s2)) (h3:dM s2 r=some (ss.map .str)) (hl:(ss.map (·.length)).sum+ss.length*s.length≤16777216):tM f g st=some (.ok (.d (.str (Txt.join s ss))) s2):=by
 unfold tM
 rw[iw h1]
 simp only[]
 rw[iw h2,h3]
 simp only[a0k,Xh,hl,a0W]
end
end AL
namespace TY
open PySem L2 DL AL PyProof.Rows
abbrev En:=List (Nat×Option Sv)
def lk:En→Nat→Option Sv
 | [],_=>none
 | (j,v)::p,i=>bif Nat.beq j i then v else lk p i
theorem sV {p:En} {i j:Nat} {v:Option Sv}:lk ((j,v)::p) i=if j=i then v else lk p i:=by
 show (bif Nat.beq j i then v else lk p i)=_
 by_cases e:j=i
 ·subst e;simp
 ·have:Nat.beq j i=false:=by
   cases q:Nat.beq j i
   ·rfl
   ·exact absurd (Nat.eq_of_beq_eq_true q) e
  rw[this,a0j e];rfl
structure cC (n:Nat) (p:En) (s:List Sv):Prop where
 len:s.length=n
 get:∀i v,lk p i=some v→s[i]?=some v
section
variable {n i j:Nat} {p q p1 p2 p3:En} {s:List Sv} {v w:Sv} {ex:List Nat}
theorem cC.set (m:cC n p s) (hi:Nat.blt i n=true) (v:Sv):cC n ((i,some v)::p) (s.set i v):=⟨by rw[List.length_set];exact m.len,fun j w e=>by
 have hi:i<n:=a0B (Nat.lt_succ_self _) (Nat.le_of_ble_eq_true hi)
 rw[sV] at e
 rw[a0g]
 split at e
 ·rename_i q;cases e;rw[a0d q,a0d (by rw[m.len];exact hi)]
 ·rename_i q;rw[a0j q];exact m.get j w e⟩
def gj (ex:List Nat) (q p:En):Prop:=∀i v,i∉ex→lk q i=some v→lk p i=some v
theorem jo:gj ex p p:=fun _ _ _ h=>h
theorem gK (h:lk p i=some v) (k:gj (i::ex) q p):gj ex ((i,some v)::q) p:=fun j w hj e=>by
 rw[sV] at e
 split at e
 ·rename_i z;cases e;rw[← z];exact h
 ·rename_i z;exact k j w (fun hm=>(a0c.mp hm).elim (fun e=>z e.symm) hj) e
theorem gQ (k:gj (i::ex) q p):gj ex ((i,none)::q) p:=fun j w hj e=>by
 rw[sV] at e
 split at e
 ·cases e
 ·rename_i z;exact k j w (fun hm=>(a0c.mp hm).elim (fun e=>z e.symm) hj) e
theorem sS {x:Option Sv} (h:ex.contains i=true) (k:gj ex q p):gj ex q ((i,x)::p):=fun j w hj e=>by
 rw[sV,a0j]
 ·exact k j w hj e
 ·intro z;subst z;exact hj (by simpa using h)
theorem cC.sub (m:cC n p s) (h:gj [] q p):cC n q s:=⟨m.len,fun i v e=>m.get i v (h i v (by simp) e)⟩
def EV {α:Type} (n:Nat) (p:En) (h:List Ob) (e:M α) (r:α) (u:List Sv→List Sv) (p':En) (h':List Ob):Prop:=∀s,cC n p s→e ⟨s,h⟩=some (.ok r ⟨u s,h'⟩)∧cC n p' (u s)
abbrev EP {α:Type} (n:Nat) (p:En) (h:List Ob) (e:M α) (r:α):Prop:=EV n p h e r id p h
def KV (n:Nat) (p:En) (h:List Ob) (k:K2) (x y z:R):Prop:=∀s,cC n p s→k ⟨s,h⟩ x y=some z
variable {α β γ ρ:Type} {h h1 h2 h3:List Ob} {f g e:M R} {fa ga:M (List R)} {x y z r:R} {rs:List R} {u u1 u2 u3:List Sv→List Sv} {k l:K2} {d:D} {ds es:List D} {o:Ob} {b b1 b2:Bool} {t t1 t2:M Bool}
theorem aH (e:lk p i=some (.v r)):EV n p h (eV i) r id p h:=fun s m=>⟨e_V (m.get i _ e),m⟩
theorem aa1 (e:lk p i=some (.own o)):EV n p h (eV i) (.w i) id p h:=fun s m=>⟨Kv (m.get i _ e),m⟩
theorem aR:EV n p h (eC d) (.d d) id p h:=fun s m=>⟨rfl,m⟩
theorem aU:EV n p h aN [] id p h:=fun s m=>⟨rfl,m⟩
theorem aF (hf:EV n p h f r u p1 h1) (hg:EV n p1 h1 ga rs u1 p2 h2):EV n p h (aC f ga) (r::rs) (fun s=>u1 (u s)) p2 h2:=fun s m=>⟨Rj (hf s m).1 (hg _ (hf s m).2).1,(hg _ (hf s m).2).2⟩
theorem aP (hf:EV n p h f x u p1 h1) (hg:EV n p1 h1 g y u1 p2 h2) (hk:KV n p2 h2 k x y z):EV n p h (eB k f g) z (fun s=>u1 (u s)) p2 h2:=fun s m=>⟨e_B (hf s m).1 (hg _ (hf s m).2).1 (hk _ (hg _ (hf s m).2).2),(hg _ (hf s m).2).2⟩
theorem pK {f:M α} {a:α} {c:β} {k:ST→α→Option β} (hf:EV n p h f a u p1 h1) (hk:∀s,cC n p1 s→k ⟨s,h1⟩ a=some c):EV n p h (M.of f k) c u p1 h1:=fun s m=>⟨pX (hf s m).1 (hk _ (hf s m).2),(hf s m).2⟩
theorem cZ (hf:EV n p h fa rs u p1 h1) (hd:d7 rs=some ds) (hl:Nat.ble rs.length 16000000=true):EV n p h (dh fa) (.lst ds) u p1 h1:=fun s m=>⟨aag (hf s m).1 hd (Nat.le_of_ble_eq_true hl),(hf s m).2⟩
theorem fj {f:M Ob} (hf:EV n p h f o u p1 h1) (hd:iI o=some d):EV n p h (dG f) (.d d) u p1 h1:=fun s m=>⟨aaY (hf s m).1 hd,(hf s m).2⟩
theorem Ow (e:lk p i=some (.own o)) (hi:Nat.blt i n=true) (hd:iI o=some d):EV n p h (pQ i) (.d d) (fun s=>s.set i (.v (.d d))) ((i,some (.v (.d d)))::p) h:=fun s m=>⟨aah (m.get i _ e) hd,m.set hi _⟩
theorem ev_call {F:Fn} (hf:EV n p h fa rs u p1 h1) (hw:rs.all iD=true) (hF:F rs h1=some (.ret (.d d),h2)):EV n p h (lE F fa) (.d d) u p1 h2:=fun s m=>⟨YX (hf s m).1 hw hF,(hf s m).2⟩
theorem fM (hf:EV n p h f (.d (.bl b)) u p1 h1):EV n p h (tF f) b u p1 h1:=fun s m=>⟨t_F (hf s m).1,(hf s m).2⟩
theorem Ja (hf:EV n p h f r u p1 h1) (ht:∀s,cC n p1 s→ql ⟨s,h1⟩ r=some b):EV n p h (tR f) b u p1 h1:=fun s m=>⟨t_R (hf s m).1 (ht _ (hf s m).2),(hf s m).2⟩
theorem Ox (hf:EV n p h t b u p1 h1):EV n p h (qp t) (!b) u p1 h1:=fun s m=>⟨YT (hf s m).1,(hf s m).2⟩
theorem qM (hf:EV n p h t b u p1 h1) (hg:EV n p1 h1 t1 b1 id p1 h1):EV n p h (qm t t1) (b || b1) u p1 h1:=fun s m=>⟨YW (hf s m).1 (hg _ (hf s m).2).1,(hf s m).2⟩
def EO {α β:Type} (n:Nat) (p:En) (h:List Ob) (e:M α) (V:β→α) (t:Option β):Prop:=∀c,t=some c→EV n p h e (V c) id p h
theorem Oz {V:β→α} {e:M α} {o:Option γ} {t:γ→Option β} (H:∀a,o=some a→EO n p h e V (t a)):EO n p h e V (o.bind t):=fun c hc=>by
 cases ho:o with
 | none=>rw[ho] at hc;cases hc
 | some a=>rw[ho] at hc;exact H a ho c hc
theorem eo_some {V:β→α} {e:M α} {c:β} (H:EV n p h e (V c) id p h):EO n p h e V (some c):=fun c' hc=>by cases hc;exact H
end
theorem Va (k:Nat) {ex:List Nat} {q p:En} (h:(p.take k).all (fun x=>ex.contains x.1)=true) (s:gj ex q (p.drop k)):gj ex q p:=by
 have key:∀l:En,l.all (fun x=>ex.contains x.1)=true→gj ex q (l++p.drop k):=by
  intro l
  induction l with
  | nil=>exact fun _=>s
  | cons x l ih=>
   intro hl
   rw[b0m,a0r] at hl
   exact sS hl.1 (ih hl.2)
 have:=key _ h
 rwa [List.take_append_drop] at this
theorem vK (k:Nat) {ex:List Nat} {p q:En} (h:(p.take k).all (fun x=>ex.contains x.1)=true) (e:q=p.drop k):gj ex q p:=by
 subst e
 exact Va k h jo
theorem gM {n:Nat} {s:List Sv} {p:En} (h:p=(List.range n).map fun i=>(i,s[i]?)) (hn:s.length=n):cC n p s:=by
 subst h
 refine⟨hn,fun j w e=>?_⟩
 have key:∀(l:List Nat) (w:Sv),lk (l.map fun i=>(i,s[i]?)) j=some w→s[j]?=some w:=by
  intro l
  induction l with
  | nil=>intro w h;cases h
  | cons i l ih=>
   intro w h
   rw[a0F,sV] at h
   split at h
   ·rename_i z;rw[← z];exact h
   ·exact ih w h
 exact key _ w e
inductive EC where
 | BadTable|NoOperation|NoCell|BadName|BadNumber|BadClient|BadRun|Over|TooLarge|BadStep|BadRow
 deriving DecidableEq
structure CL where
 OrderError:Addr
 BadTable:Addr
 NoOperation:Addr
 NoCell:Addr
 BadName:Addr
 BadNumber:Addr
 BadClient:Addr
 BadRun:Addr
 Over:Addr
 TooLarge:Addr
 BadStep:Addr
 BadRow:Addr
 Table:Addr
 Kind:Addr
 Shown:Addr
 Raised:Addr
 Emptied:Addr
 Counter:Addr
 Full:Addr
 Memory:Addr
 Operation:Addr
 Alone:Addr
 Build:Addr
 Space:Addr
 Desk:Addr
 Call:Addr
 Fixer:Addr
 Spoiler:Addr
 Verdict:Addr
 AtOnce:Addr
 Afterwards:Addr
 Never:Addr
 Repair:Addr
 Standing:Addr
 w:World
 has:List EC
def CL.at (c:CL):EC→Addr
 | .BadTable=>c.BadTable|.NoOperation=>c.NoOperation|.NoCell=>c.NoCell|.BadName=>c.BadName|.BadNumber=>c.BadNumber|.BadClient=>c.BadClient
 | .BadRun=>c.BadRun|.Over=>c.Over|.TooLarge=>c.TooLarge|.BadStep=>c.BadStep|.BadRow=>c.BadRow
def EC.fs:EC→List Str
 | .BadTable=>["name"]|.NoOperation=>["name"]|.NoCell=>["name"]|.BadName=>["name"]|.BadNumber=>["number"]|.BadClient=>["caller"]
 | .BadRun=>["at"]|.Over=>["caller"]|.TooLarge=>["bound"]|.BadStep=>["name","at"]|.BadRow=>["row"]
def CL.who (c:CL) (C:Addr):Option EC:=c.has.find? fun e=>decide (c.at e=C)
def CL.m (c:CL) (X:EC):Addr→Option Bool:=fun C=>(c.who C).map fun e=>decide (e=X)
def CL.sub (c:CL):Addr→Addr→Option Bool:=fun D C=>if C=c.OrderError then(c.who D).map fun _=>true else none
structure CL.Ok (c:CL):Prop where
 inj:∀e∈c.has,∀e'∈c.has,c.at e=c.at e'→e=e'
theorem CL.Ok.who {c:CL} (ok:c.Ok) {e:EC} (h:e∈c.has):c.who (c.at e)=some e:=by
 unfold CL.who
 cases q:c.has.find? fun e'=>decide (c.at e'=c.at e) with
 | none=>have:=List.find?_eq_none.mp q e h;simp at this
 | some e'=>
  have h1:=List.mem_of_find?_eq_some q
  have h2:=List.find?_some q
  rw[ok.inj e' h1 e h (by simpa using h2)]
structure Err where
 c:EC
 ds:List D
def Err.xd (c:CL) (e:Err):XD:=⟨c.at e.c,e.c.fs,e.ds⟩
def gY {α β:Type} (a:α) (t:α→β):β:=t a
inductive Ct (α ρ:Type) where
 | nx (a:α)|bk (a:α)|rt (v:ρ)
def J {ρ:Type} (Fin:ρ→Rs→Prop) (n:Nat) (b:S) (p:En) (h:List Ob) (t:Option ρ):Prop:=∀s,cC n p s→∀v,t=some v→∃r,b ⟨s,h⟩=some r∧Fin v r
def isX:Rs→Bool
 | .rt _ _=>true|.rn _ _=>true|.ex _ _=>true|_=>false
def isN:Rs→Bool
 | .nx _=>true|_=>false
def wI {ρ:Type} (out:ρ→Ot×List Ob) (v:ρ) (r:Rs):Prop:=endF r=some (out v)
def rG {α:Type} (n:Nat) (P:α→En) (hp:α→List Ob) (a:α) (r:Rs):Prop:=∃s,cC n (P a) s∧r=.nx ⟨s,hp a⟩
def wJ {α:Type} (n:Nat) (P:α→En) (hp:α→List Ob) (a:α) (r:Rs):Prop:=∃s,cC n (P a) s∧(r=.nx ⟨s,hp a⟩∨r=.ct ⟨s,hp a⟩)
def JD {α ρ:Type} (n:Nat) (P:α→En) (hp:α→List Ob) (Fin:ρ→Rs→Prop):Ct α ρ→Rs→Prop
 | .nx a,r=>wJ n P hp a r
 | .bk a,r=>∃s,cC n (P a) s∧r=.bk ⟨s,hp a⟩
 | .rt v,r=>Fin v r∧isX r=true
def QL {α ρ:Type} (n:Nat) (P:α→En) (hp:α→List Ob) (Fin:ρ→Rs→Prop):Ct α ρ→Rs→Prop
 | .nx a,r=>rG n P hp a r
 | .bk _,_=>False
 | .rt v,r=>Fin v r∧isN r=false
section
variable {n i j:Nat} {p q p1 p2 p3:En} {s:List Sv} {w:Sv} {ex:List Nat} {α β γ ρ ι:Type} {h h1 h2 h3:List Ob} {f g e:M R} {fa ga:M (List R)} {x y z r:R} {rs:List R} {u u1 u2 u3:List Sv→List Sv} {d:D} {ds es:List D} {o:Ob} {b b1 b2:Bool} {tt:M Bool} {Fin:ρ→Rs→Prop} {A A2 B:S} {v:ρ} {t t1 t2:Option ρ}
theorem eE {o:Option γ} {t:γ→Option ρ} (H:∀a,o=some a→J Fin n B p h (t a)):J Fin n B p h (o.bind t):=fun s m v e=>by
 cases ho:o with
 | none=>rw[ho] at e;cases e
 | some a=>rw[ho] at e;exact H a ho s m v e
theorem jX (H:J Fin n B p h t):J Fin n (aq aM B) p h t:=H
theorem seq_assoc {a b c:S}:aq (aq a b) c=aq a (aq b c):=by
 funext st;unfold aq
 cases a st with
 | none=>rfl
 | some r=>cases r<;>rfl
theorem eU (H:J Fin n (aq A (aq A2 B)) p h t):J Fin n (aq (aq A A2) B) p h t:=by rw[seq_assoc];exact H
theorem tQ (hw:iD r=true) {st:ST}:gN i r st=some (.ok () ⟨st.s.set i (.v r),st.h⟩):=by
 cases r with
 | d x=>rfl
 | o n=>rfl
 | w i=>cases hw
theorem jt {st s1:ST} {r:Rs} (h1:A st=some (.nx s1)) (h2:B s1=some r):aq A B st=some r:=by rw[YK h1,h2]
theorem uH {V:α→R} {a:α} {t:α→Option ρ} (H:EV n p h e (V a) u p1 h1) (hi:Nat.blt i n=true) (hw:iD (V a)=true) (K:∀x,J Fin n B ((i,some (.v (V x)))::p1) h1 (t x)):J Fin n (aq (cV e (gN i)) B) p h (gY a t):=fun s m v ev=>by
 obtain⟨r,hr,hf⟩:=K a _ ((H s m).2.set hi _) v ev
 exact⟨r,jt (wH (H s m).1 (tQ hw)) hr,hf⟩
theorem iy (H:EV n p h e r u p1 h1) (hi:Nat.blt i n=true) (hw:iD r=true) (K:J Fin n B ((i,some (.v r))::p1) h1 t):J Fin n (aq (cV e (gN i)) B) p h t:=fun s m v ev=>by
 obtain⟨r,hr,hf⟩:=K _ ((H s m).2.set hi _) v ev
 exact⟨r,jt (wH (H s m).1 (tQ hw)) hr,hf⟩
theorem Ii {o:Ob} {f:M Ob} (H:EV n p h f o u p1 h1) (hi:Nat.blt i n=true) (K:J Fin n B ((i,some (.own o))::p1) h1 t):J Fin n (aq (oZ i f) B) p h t:=fun s m v ev=>by
 obtain⟨r,hr,hf⟩:=K _ ((H s m).2.set hi _) v ev
 exact⟨r,jt (aaf (H s m).1) hr,hf⟩
theorem Ij (K:∀s,cC n p s→Fin v (.nx ⟨s,h⟩)):J Fin n aM p h (some v):=fun s m v' ev=>by cases ev;exact⟨_,rfl,K s m⟩
theorem v8 (H:EV n p h e r u p1 h1) (K:∀s,cC n p1 s→Fin v (.rt r ⟨s,h1⟩)):J Fin n (aq (iG e) B) p h (some v):=fun s m v' ev=>by
 cases ev;exact⟨_,by rw[YL (s_ret (H s m).1)],K _ (H s m).2⟩
noncomputable def cW (x:D) (v:ρ):Option ρ:=open Classical in if fW x then some v else none
theorem OD {x:D} (hx:fW x):cW x v=some v:=by unfold cW;rw[a0d hx]
theorem nW {C:Addr} {nm:Str} {x:D} (H:EV n p h fa [.d x] u p1 h1) (K:∀s,cC n p1 s→Fin v (.ex ⟨C,[nm],[x]⟩ ⟨s,h1⟩)):J Fin n (aq (iY C nm fa) B) p h (cW x v):=fun s m v' ev=>by
 unfold cW at ev
 split at ev
 ·rename_i hx
  cases ev
  have:iY C nm fa ⟨s,h⟩=some (.ex ⟨C,[nm],[x]⟩ ⟨u s,h1⟩):=by unfold iY;simp only[(H s m).1,hx,a0W]
  exact⟨_,by rw[vW this],K _ (H s m).2⟩
 ·cases ev
theorem jG (H:EV n p h tt b u p1 h1) (K1:J Fin n (aq A B) p1 h1 t1) (K2:J Fin n (aq A2 B) p1 h1 t2):J Fin n (aq (bL tt A A2) B) p h (if b=true then t1 else t2):=fun s m v ev=>by
 have e1:aq (bL tt A A2) B ⟨s,h⟩=if b=true then aq A B ⟨u s,h1⟩ else aq A2 B ⟨u s,h1⟩:=by
  show (match bL tt A A2 ⟨s,h⟩ with|some (.nx st')=>B st'|o=>o)=_
  rw[JC (H s m).1]
  cases b<;>rfl
 rw[e1]
 cases b with
 | true=>exact K1 _ (H s m).2 v ev
 | false=>exact K2 _ (H s m).2 v ev
theorem Jb {pre:α→En} {hp:α→List Ob} {t:α→Option ρ} {o1 o2:Option α} (H:EV n p h tt b u p1 h1) (K1:J (rG n (fun a=>pre a++p1) hp) n A p1 h1 o1) (K2:J (rG n (fun a=>pre a++p1) hp) n A2 p1 h1 o2) (K:∀a,J Fin n B (pre a++p1) (hp a) (t a)):J Fin n (aq (bL tt A A2) B) p h ((if b=true then o1 else o2).bind t):=fun s m v ev=>by
 cases b with
 | true=>
  rw[a0d rfl] at ev
  cases ho:o1 with
  | none=>rw[ho] at ev;cases ev
  | some a=>
   rw[ho] at ev
   obtain⟨_,e1,s1,m1,rfl⟩:=K1 _ (H s m).2 a ho
   obtain⟨r,e2,hf⟩:=K a s1 m1 v ev
   exact⟨r,jt (by rw[aaS (H s m).1];exact e1) e2,hf⟩
 | false=>
  rw[a0j (by simp)] at ev
  cases ho:o2 with
  | none=>rw[ho] at ev;cases ev
  | some a=>
   rw[ho] at ev
   obtain⟨_,e1,s1,m1,rfl⟩:=K2 _ (H s m).2 a ho
   obtain⟨r,e2,hf⟩:=K a s1 m1 v ev
   exact⟨r,jt (by rw[aaT (H s m).1];exact e1) e2,hf⟩
theorem Jc {pre:α→En} {hp:α→List Ob} {t:α→Option ρ} {o1 o2:α} (H:EV n p h tt b u p1 h1) (K1:J (rG n (fun a=>pre a++p1) hp) n A p1 h1 (some o1)) (K2:J (rG n (fun a=>pre a++p1) hp) n A2 p1 h1 (some o2)) (K:∀a,J Fin n B (pre a++p1) (hp a) (t a)):J Fin n (aq (bL tt A A2) B) p h (gY (if b=true then o1 else o2) t):=by
 have:=Jb H K1 K2 K
 have e:((if b=true then some o1 else some o2).bind t)=gY (if b=true then o1 else o2) t:=by cases b<;>rfl
 rw[← e];exact this
def Jd (o:Option (Ct α ρ)) (t:α→Option ρ):Option ρ:=match o with
 | some (.nx a)=>t a
 | some (.bk a)=>t a
 | some (.rt v)=>some v
 | none=>none
theorem Wi {P:α→En} {hp:α→List Ob} {t:α→Option ρ} {o:Option (Ct α ρ)} {C:S} (K1:J (QL n P hp Fin) n C p h o) (K:∀a,J Fin n B (P a) (hp a) (t a)):J Fin n (aq C B) p h (Jd o t):=fun s m v ev=>by
 cases ho:o with
 | none=>rw[ho] at ev;cases ev
 | some c=>
  rw[ho] at ev
  obtain⟨r,e1,hf⟩:=K1 s m c ho
  cases c with
  | nx a=>
   obtain⟨s1,m1,rfl⟩:=hf
   obtain⟨r,e2,hf⟩:=K a s1 m1 v ev
   exact⟨r,jt e1 e2,hf⟩
  | bk a=>exact hf.elim
  | rt w=>
   cases ev
   refine⟨r,?_,hf.1⟩
   show (match C ⟨s,h⟩ with|some (.nx st')=>B st'|o=>o)=_
   rw[e1]
   have:=hf.2
   cases r<;>first|cases this;done|rfl
theorem mH {P:α→En} {hp:α→List Ob} {a:α} (hs:gj [] (P a) p) (he:hp a=h):J (rG n P hp) n aM p h (some a):=Ij fun s m=>⟨s,m.sub hs,by rw[he]⟩
theorem NK {P:α→En} {hp:α→List Ob} {a:α} (hs:gj [] (P a) p) (he:hp a=h):J (wJ n P hp) n aM p h (some a):=Ij fun s m=>⟨s,m.sub hs,.inl (by rw[he])⟩
theorem Xr {P:α→En} {hp:α→List Ob} {a:α} (hs:gj [] (P a) p) (he:hp a=h):J (JD n P hp Fin) n aM p h (some (.nx a)):=Ij fun s m=>⟨s,m.sub hs,.inl (by rw[he])⟩
def jY (f:ι→α→Option α):List ι→α→Option α
 | [],a=>some a
 | y::ys,a=>(f y a).bind (jY f ys)
def pY (f:ι→α→Option (Ct α ρ)):List ι→α→Option (Ct α ρ)
 | [],a=>some (.nx a)
 | y::ys,a=>match f y a with
  | some (.nx a)=>pY f ys a
  | some (.bk a)=>some (.nx a)
  | some (.rt v)=>some (.rt v)
  | none=>none
def TG (n:Nat) (k:G) (φ:ι→R) (tg:ι→En):Prop:=∀y h s p,cC n p s→∃s',k (φ y) ⟨s,h⟩=some (.ok () ⟨s',h⟩)∧cC n (tg y++p) s'
theorem JF {φ:ι→R} (hi:Nat.blt i n=true) (hw:∀y,iD (φ y)=true):TG n (gN i) φ (fun y=>[(i,some (.v (φ y)))]):=fun y h s p m=>⟨_,tQ (hw y),m.set hi _⟩
theorem L_ {k:G} {st s1:ST} {rs:List R} (hk:k r st=some (.ok () s1)) {res:Rs} (hb:B s1=some res):forL d8 k B (r::rs) st=match res with
  | .nx s=>forL d8 k B rs s
  | .ct s=>forL d8 k B rs s
  | .bk s=>some (.nx s)
  | o=>some o:=by
 conv=>lhs;unfold forL
 rw[a0d (show d8 st from trivial),hk]
 simp only[hb]
 cases res<;>rfl
theorem MP {P:α→En} {hp:α→List Ob} {φ:ι→R} {tg:ι→En} {k:G} {f:ι→α→Option α} (hk:TG n k φ tg) (hb:∀y a,J (wJ n P hp) n A (tg y++P a) (hp a) (f y a)):∀(ys:List ι) (a a':α) (s:List Sv),jY f ys a=some a'→cC n (P a) s→∃s',forL d8 k A (ys.map φ) ⟨s,hp a⟩=some (.nx ⟨s',hp a'⟩)∧cC n (P a') s'
 | [],a,a',s,e,m=>by cases e;exact⟨s,MN,m⟩
 | y::ys,a,a',s,e,m=>by
  obtain⟨a1,e1,e2⟩:=a0a.mp e
  obtain⟨s1,k1,m1⟩:=hk y (hp a) s _ m
  obtain⟨r,r1,s2,m2,hr⟩:=hb y a s1 m1 a1 e1
  obtain⟨s',h1,h2⟩:=MP hk hb ys a1 a' s2 e2 m2
  refine⟨s',?_,h2⟩
  rw[a0F,L_ k1 r1]
  rcases hr with rfl|rfl<;>exact h1
theorem M4 {P:α→En} {hp:α→List Ob} {φ:ι→R} {tg:ι→En} {k:G} {f:ι→α→Option (Ct α ρ)} (hk:TG n k φ tg) (hb:∀y a,J (JD n P hp Fin) n A (tg y++P a) (hp a) (f y a)):∀(ys:List ι) (a:α) (c:Ct α ρ) (s:List Sv),pY f ys a=some c→cC n (P a) s→∃r,forL d8 k A (ys.map φ) ⟨s,hp a⟩=some r∧QL n P hp Fin c r
 | [],a,c,s,e,m=>by cases e;exact⟨_,MN,s,m,rfl⟩
 | y::ys,a,c,s,e,m=>by
  obtain⟨s1,k1,m1⟩:=hk y (hp a) s _ m
  unfold pY at e
  cases hf:f y a with
  | none=>rw[hf] at e;cases e
  | some c1=>
   rw[hf] at e
   obtain⟨r,r1,hr⟩:=hb y a s1 m1 c1 hf
   rw[a0F,L_ k1 r1]
   cases c1 with
   | nx a1=>
    obtain⟨s2,m2,hr⟩:=hr
    obtain⟨r2,h1,h2⟩:=M4 hk hb ys a1 c s2 e m2
    refine⟨r2,?_,h2⟩
    rcases hr with rfl|rfl<;>exact h1
   | bk a1=>
    obtain⟨s2,m2,rfl⟩:=hr
    cases e
    exact⟨_,rfl,s2,m2,rfl⟩
   | rt v=>
    cases e
    refine⟨r,?_,hr.1,?_⟩
    ·have:=hr.2;cases r<;>first|cases this;done|rfl
    ·have:=hr.2;cases r<;>first|cases this;done|rfl
theorem OJ {it:M Wk} {ys:List ι} {φ:ι→R} {pre:α→En} {hp:α→List Ob} {tg:ι→En} {k:G} {f:ι→α→Option α} {a0:α} {t:α→Option ρ} (H:EV n p h it ⟨ys.map φ,d8⟩ u p1 (hp a0)) (hs:gj [] (pre a0++p1) p1) (hk:TG n k φ tg) (hb:∀y a,J (wJ n (fun a=>pre a++p1) hp) n A (tg y++(pre a++p1)) (hp a) (f y a)) (K:∀a,J Fin n B (pre a++p1) (hp a) (t a)):J Fin n (aq (mU it k A) B) p h ((jY f ys a0).bind t):=fun s m v ev=>by
 obtain⟨a,ha,ev⟩:=a0a.mp ev
 obtain⟨s',h1,h2⟩:=MP (P:=fun a=>pre a++p1) hk hb ys a0 a _ ha ((H s m).2.sub hs)
 obtain⟨r,hr,hf⟩:=K a s' h2 v ev
 exact⟨r,jt (Qc (H s m).1 h1) hr,hf⟩
theorem Y6 {it:M Wk} {ys:List ι} {φ:ι→R} {pre:α→En} {hp:α→List Ob} {tg:ι→En} {k:G} {f:ι→α→Option (Ct α ρ)} {a0:α} {t:α→Option ρ} (H:EV n p h it ⟨ys.map φ,d8⟩ u p1 (hp a0)) (hs:gj [] (pre a0++p1) p1) (hk:TG n k φ tg) (hb:∀y a,J (JD n (fun a=>pre a++p1) hp Fin) n A (tg y++(pre a++p1)) (hp a) (f y a)) (K:∀a,J Fin n B (pre a++p1) (hp a) (t a)):J Fin n (aq (mU it k A) B) p h (Jd (pY f ys a0) t):=
 Wi (P:=fun a=>pre a++p1) (fun s m c ev=>by
  obtain⟨r,h1,h2⟩:=M4 (P:=fun a=>pre a++p1) hk hb ys a0 c _ ev ((H s m).2.sub hs)
  exact⟨r,Qc (H s m).1 h1,h2⟩) K
theorem fn_of {m k:Nat} {args:List R} {out:ρ→Ot×List Ob} (hm:cC m p (o_ m args)) (hl:args.length=k) (H:J (wI out) m B p h t) (e:t=some v):AL.runN k m B args h=some (out v):=by
 obtain⟨r,h1,h2⟩:=H _ hm v e
 exact Qa hl h1 h2
end
section
variable {α β γ δ ε ζ:Type}
abbrev vL (V:α→D) (xs:List α):D:=.lst (xs.map V)
abbrev kS (xs:List (Str×α)):List Key:=xs.map fun x=>.inr x.1
abbrev dV (V:α→D) (xs:List (β×α)):List D:=xs.map fun x=>V x.2
end
section
variable {α β γ ρ ι:Type}
def uI (xs:List α) (x:α):Option (List α):=if xs.length<16000000 then some (xs++[x]) else none
def JG (xs ys:List α):Option (List α):=if xs.length+ys.length≤16000000 then some (xs++ys) else none
def wL (xs:List α) (i:Int) (x:α):Option (List α):=(ixN xs.length i).map fun j=>xs.set j x
def QM [DecidableEq β] (xs:List (β×α)) (k:β) (v:α):List (β×α):=if k∈xs.map (·.1) then xs.map fun x=>if x.1=k then(k,v) else x else xs++[(k,v)]
def rH (i j:Int):Option Int:=if 0<j then some (i%j) else none
def strAt (s:Str) (i:Int):Option Str:=if s.length≤16000000 then(atI s.cps.toList i).map fun c=>⟨#[c]⟩ else none
def rng (lo hi:Int):List Int:=(List.range (hi-lo).toNat).map fun i=>lo+(i:Nat)
def mV (lo hi:Int):Option (List Int):=if (-1000000000≤lo∧lo≤1000000000)∧-1000000000≤hi∧hi≤1000000000 then some (rng lo hi) else none
def v9 (s:Str) (ss:List Str):Option Str:=if (ss.map (·.length)).sum+ss.length*s.length≤16777216 then some (Txt.join s ss) else none
def n_ (x y:D):Option Bool:=if (cX x&&cX y) || (fu x&&fu y) then some (cY x y) else none
def pq (c:ι→Option Bool) (f:ι→Option β):List ι→Option (List β)
 | []=>some []
 | y::ys=>(c y).bind fun b=>if b=true then(f y).bind fun x=>(pq c f ys).map (x::·) else pq c f ys
def qC (c:ι→Option Bool) (f:ι→Option β) (ys:List ι):Option (List β):=if ys.length≤16000000 then pq c f ys else none
end
section
variable {n i j:Nat} {p q p1 p2 p3:En} {s:List Sv} {α β γ ρ ι:Type} {h h1 h2 h3:List Ob} {f g e:M R} {fa ga:M (List R)} {x y z r:R} {rs:List R} {u u1 u2 u3:List Sv→List Sv} {k l:K2} {d:D} {ds es:List D} {o:Ob} {b b1 b2:Bool} {Fin:ρ→Rs→Prop} {A B:S} {V:α→D} {xs ys:List α} {a c:Int}
theorem iz {kk:D→D→Option D} {d1 d2 d3:D} (h:kk d1 d2=some d3):KV n p h1 (aJ kk) (.d d1) (.d d2) (.d d3):=fun _ _=>aaV h
theorem lu:KV n p h fY (.d (.int a)) (.d (.int c)) (.d (.int (a+c))):=fun _ _=>v_add
theorem NP (hc:(decide (-(2 ^ 64)<c)&&decide (c<2 ^ 64))=true):KV n p h (aJ mQ) (.d (.int a)) (.d (.int c)) (.d (.int (a*c))):=iz (YQ (by simpa using hc))
theorem Ho (hc:(decide (-(2 ^ 64)<a)&&decide (a<2 ^ 64))=true):KV n p h (aJ mQ) (.d (.int a)) (.d (.int c)) (.d (.int (a*c))):=iz (YM (by simpa using hc))
theorem mJ (hc:decide (0<c)=true):KV n p h (aJ fX) (.d (.int a)) (.d (.int c)) (.d (.int (a%c))):=iz (v_mod (by simpa using hc))
theorem sW (hc:(decide (0<c)&&decide (c<1073741824))=true):KV n p h (aJ oY) (.d (.int a)) (.d (.int c)) (.d (.int (a/c))):=iz (v_div (by simpa using hc))
theorem vN (hc:(decide (0≤c)&&decide (c≤1000000)&&decide (a.natAbs<2 ^ 64))=true):KV n p h (aJ pO) (.d (.int a)) (.d (.int c)) (.d (.int (a ^ c.toNat))):=iz (v_pow (by simp at hc;omega))
theorem qD {P:Prop} [Decidable P] {v w:α} (h:(if P then some v else none)=some w):P∧v=w:=by
 split at h
 ·cases h;exact⟨by assumption,rfl⟩
 ·cases h
theorem Hq {v:Int} (e:rH a c=some v):KV n p h (aJ fX) (.d (.int a)) (.d (.int c)) (.d (.int v)):=by obtain⟨h1,rfl⟩:=qD e;exact iz (v_mod h1)
theorem aaj:KV n p h (aJ kLt) (.d (.int a)) (.d (.int c)) (.d (.bl (decide (a<c)))):=iz rfl
theorem aak:KV n p h (aJ J8) (.d (.int a)) (.d (.int c)) (.d (.bl (decide (c<a)))):=iz rfl
theorem aal:KV n p h (aJ J9) (.d (.int a)) (.d (.int c)) (.d (.bl (decide (c≤a)))):=iz rfl
theorem ju:KV n p h (aJ (kEq false)) (.d (.int a)) (.d (.int c)) (.d (.bl (decide (a=c)))):=iz (by rw[P_];simp;rfl)
theorem Y7:KV n p h (aJ (kEq true)) (.d (.int a)) (.d (.int c)) (.d (.bl (!decide (a=c)))):=iz (by rw[P_];simp;rfl)
theorem O2 {v:Bool} {d1 d2:D} (e:n_ d1 d2=some v):KV n p h (aJ (kEq true)) (.d d1) (.d d2) (.d (.bl (!v))):=by obtain⟨h1,rfl⟩:=qD e;exact iz (by unfold kEq;rw[a0d h1];rfl)
theorem pH {v:α} (e:atI xs a=some v):KV n p h dI (.d (vL V xs)) (.d (.int a)) (.d (V v)):=fun _ _=>YZ (by rw[Nq,e];rfl)
theorem O4 {ns:List Int} {v:Int} (e:atI ns a=some v):KV n p h dI (.d (.dB ns)) (.d (.int a)) (.d (.int v)):=fun _ _=>Y0 e
theorem O5 {s v:Str} (e:strAt s a=some v):KV n p h dI (.d (.str s)) (.d (.int a)) (.d (.str v)):=fun _ _=>by
 unfold strAt at e
 split at e
 ·rename_i hs
  obtain⟨c,h1,rfl⟩:=a0b.mp e
  exact Y4 hs h1
 ·cases e
theorem aa2 {st:ST} (hw:st.s[i]?=some (.own o)):bK st (.w i)=some o:=by unfold bK;simp only[hw]
end
section
variable {n i j:Nat} {p q p1 p2 p3:En} {s:List Sv} {α β γ ρ ι:Type} {h h1 h2 h3:List Ob} {f g e:M R} {fa ga:M (List R)} {x y z r:R} {rs:List R} {u u1 u2 u3:List Sv→List Sv} {k l:K2} {d:D} {ds es:List D} {o:Ob} {b b1 b2:Bool} {Fin:ρ→Rs→Prop} {A B:S} {V:α→D} {xs ys:List α} {a c:Int}
theorem aam {st:ST} {neg:Bool} (hs:lM st y=some ds) (ha:cX d=true) (hd:ds.all cX=true) (hn:∀s t,¬(snap st y=some (.str t)∧d=.str s)):kIn neg st (.d d) y=some (.d (.bl (if neg then !ds.any (fun z=>cY z d) else ds.any (fun z=>cY z d)))):=by
 have h1:wD neg st (.d d) y=none:=by
  unfold wD aJ
  show ((snap st y).bind fun b=>_)=none
  cases q:snap st y with
  | none=>rfl
  | some b=>
   cases b<;>cases d<;>first|rfl|exact absurd ⟨q,rfl⟩ (hn _ _)
 have h2:wC neg st (.d d) y=some (.d (.bl (if neg then !ds.any (fun z=>cY z d) else ds.any (fun z=>cY z d)))):=by
  unfold wC
  show ((lM st y).bind fun ds=>_)=_
  rw[hs]
  simp only[a0k,ha,hd,Bool.and_self,a0W]
 unfold kIn K2.or
 rw[h1,h2];rfl
theorem aan {ss:List Int} {s:Int}:(ss.map D.int).any (fun z=>cY z (.int s))=decide (s∈ss):=by
 induction ss with
 | nil=>simp
 | cons a l ih=>
  rw[a0F,b0l,ih]
  simp only[cY,a0c,Bool.decide_or]
  congr 1
  by_cases e:a=s
  ·subst e;simp
  ·have:¬s=a:=fun z=>e z.symm
   simp[e,this]
theorem aao {ss:List Int}:(ss.map D.int).all cX=true:=by simp[cX]
theorem Xu {s:Int} {ss:List Int}:KV n p h (kIn false) (.d (.int s)) (.d (vL D.int ss)) (.d (.bl (decide (s∈ss)))):=fun st m=>by rw[aam rfl rfl aao (fun _ _ z=>by cases z.2),aan];rfl
theorem jw (hf:EV n p h fa [.d (.int a)] u p1 h1):EV n p h (M.of fa fP) (.d (.int a)) u p1 h1:=pK hf fun _ _=>rfl
theorem Xv (hf:EV n p h fa [.d (.bl b)] u p1 h1):EV n p h (M.of fa fP) (.d (.int (if b=true then 1 else 0))) u p1 h1:=pK hf fun _ _=>rfl
theorem NQ {ns:List Int} (hf:EV n p h fa [.d (.dB ns)] u p1 h1):EV n p h (M.of fa qZ) (.d (.int (ns.length:Int))) u p1 h1:=pK hf fun _ _=>YS
theorem Wj (hf:EV n p h fa [.d (.lst ds)] u p1 h1):EV n p h (M.of fa kList) (.lst ds) u p1 h1:=pK hf fun _ _=>rfl
theorem Xw (e:JG xs ys=some zs):KV n p h fY (.d (vL V xs)) (.d (vL V ys)) (.d (vL V zs)):=fun s m=>by
 obtain⟨h1,rfl⟩:=qD e
 simp[fY,K2.or,Pg,Ph,IK,Pj,aJ,snap,kI,dM,h1]
theorem Xx {s v:Str} {ss:List Str} (e:v9 s ss=some v) (hf:EV n p h f (.d (.str s)) u p1 h1) (hg:EV n p1 h1 g r u1 p2 h2) (hl:∀s,cC n p2 s→dM ⟨s,h2⟩ r=some (ss.map D.str)):EV n p h (tM f g) (.d (.str v)) (fun s=>u1 (u s)) p2 h2:=fun st m=>by
 obtain⟨h1,rfl⟩:=qD e
 exact⟨Y5 (hf st m).1 (hg _ (hf st m).2).1 (hl _ (hg _ (hf st m).2).2) h1,(hg _ (hf st m).2).2⟩
theorem aa3 (hw:lk p i=some (.own (.lst ds))):∀s,cC n p s→dM ⟨s,h⟩ (.w i)=some ds:=fun s m=>by simp only[dM,aa2 (st:=⟨s,h⟩) (m.get i _ hw)]
theorem NT {lo hi:Int}:(lH lo (hi-lo).toNat).map R.d=(rng lo hi).map fun x=>.d (.int x):=by simp[lH,rng]
theorem sX {v:List Int} (e:mV 0 a=some v) (hf:EV n p h fa [.d (.int a)] u p1 h1):EV n p h (nQ fa) ⟨v.map (fun x=>.d (.int x)),d8⟩ u p1 h1:=by
 obtain⟨h0,rfl⟩:=qD e
 have:=NT (lo:=0) (hi:=a)
 rw[Int.sub_zero] at this
 rw[← this]
 exact fun s m=>⟨aaW (hf s m).1 h0.2,(hf s m).2⟩
theorem Xy {v:List Int} (e:mV a c=some v) (hf:EV n p h fa [.d (.int a),.d (.int c)] u p1 h1):EV n p h (v7 fa) ⟨v.map (fun x=>.d (.int x)),d8⟩ u p1 h1:=by
 obtain⟨h0,rfl⟩:=qD e
 rw[← NT]
 exact fun s m=>⟨aaX (hf s m).1 h0,(hf s m).2⟩
theorem QS:∀s,cC n p s→ql ⟨s,h⟩ (.d (.bl b))=some b:=fun _ _=>rfl
end
section
variable {n i j:Nat} {p q p1 p2 p3:En} {s:List Sv} {α β γ ρ ι:Type} {h h1 h2 h3:List Ob} {f g e:M R} {fa ga:M (List R)} {x y z r:R} {rs:List R} {u u1 u2 u3:List Sv→List Sv} {k l:K2} {d:D} {ds es:List D} {o:Ob} {b b1 b2:Bool} {Fin:ρ→Rs→Prop} {A B:S} {V:α→D} {xs ys:List α} {a c:Int}
theorem Qe {v:α} {t:List α→Option ρ} (hw:lk p i=some (.own (.lst (xs.map V)))) (H:EV n p h e (.d (V v)) u p1 h1) (hw1:lk p1 i=some (.own (.lst (xs.map V)))) (hi:Nat.blt i n=true) (K:∀x,J Fin n B ((i,some (.own (.lst (x.map V))))::p1) h1 (t x)):J Fin n (aq (lD (rP (eV i) (aC e aN) pP)) B) p h ((uI xs v).bind t):=fun s m w ev=>by
 obtain⟨xs',hx,ev⟩:=a0a.mp ev
 obtain⟨hl,rfl⟩:=qD hx
 have e1:=aai (f:=eV i) (fa:=aC e aN) (Kv (m.get i _ hw)) (m.get i _ hw) (Rj (H s m).1 a_N) ((H s m).2.get i _ hw1) (by simpa using hl)
 have e2:xs.map V++[V v]=(xs++[v]).map V:=by simp
 rw[e2] at e1
 obtain⟨r,hr,hf⟩:=K (xs++[v]) _ ((H s m).2.set hi _) w ev
 exact⟨r,jt (s_drop e1) hr,hf⟩
theorem map_set {xs:List α} {m:Nat} {v:α}:(xs.map V).set m (V v)=(xs.set m v).map V:=by
 refine a0K fun j=>?_
 simp only[a0g,a0y,a0P]
 split
 ·split<;>rfl
 ·rfl
theorem Y8 {v:α} {t:List α→Option ρ} (H:EV n p h e (.d (V v)) u p1 h1) (H2:EV n p1 h1 g (.d (.int a)) u1 p2 h2) (hw1:lk p1 i=some (.own (.lst (xs.map V)))) (hw:lk p2 i=some (.own (.lst (xs.map V)))) (hi:Nat.blt i n=true) (K:∀x,J Fin n B ((i,some (.own (.lst (x.map V))))::p2) h2 (t x)):J Fin n (aq (cV e (gS (eV i) g)) B) p h ((wL xs a v).bind t):=fun s m w ev=>by
 obtain⟨xs',hx,ev⟩:=a0a.mp ev
 obtain⟨m',hm,rfl⟩:=a0b.mp hx
 have m1:=(H s m).2
 have m2:=(H2 _ m1).2
 have e1:=aaZ (d:=V v) (f:=eV i) (g:=g) (Kv (m1.get i _ hw1)) (H2 _ m1).1 (m2.get i _ hw) (m:=m') (by rw[a0P];exact hm)
 rw[map_set] at e1
 obtain⟨r,hr,hf⟩:=K (xs.set m' v) _ (m2.set hi _) w ev
 exact⟨r,jt (wH (H s m).1 e1) hr,hf⟩
theorem M5:∀{vs:List Nat} {s:List Sv},(∀v∈vs,s[v]?=some .no)→eX s vs=s
 | [],s,_=>rfl
 | v::vs,s,hv=>by
  unfold eX
  rw[M5 fun w hw=>hv w (a0C _ hw)]
  refine a0K fun j=>?_
  rw[a0g]
  split
  ·rename_i q;subst q
   have:=hv v (a0v ..)
   rw[this]
   split
   ·rfl
   ·rename_i z;rw[a0z (by omega)] at this;cases this
  ·rfl
theorem Wm {s s':List Sv}:∀{vs:List Nat},s'.length=s.length→(∀v∈vs,s[v]?=some .no)→(∀j,j∉vs→s'[j]?=s[j]?)→eX s' vs=s:=by
 intro vs hl hv hs
 have key:∀(vs:List Nat) (t:List Sv) (j:Nat),(eX t vs)[j]?=if j∈vs then(t[j]?).map fun _=>.no else t[j]?:=by
  intro vs
  induction vs with
  | nil=>intro t j;simp[eX]
  | cons v vs ih=>
   intro t j
   unfold eX
   rw[a0g]
   by_cases q:v=j
   ·subst q
    simp only[a0W,a0c,true_or]
    have hl2:(eX t vs).length=t.length:=by
     clear ih
     induction vs with
     | nil=>rfl
     | cons w ws ih=>unfold eX;simp[ih]
    by_cases z:v<t.length
    ·rw[a0d (by rw[hl2];exact z),a0h z];rfl
    ·rw[a0j (by rw[hl2];exact z),a0z (by omega)];rfl
   ·rw[a0j q,ih]
    have:(j∈v::vs)↔j∈vs:=by simp;intro z;exact absurd z.symm q
    simp only[this]
 refine a0K fun j=>?_
 rw[key]
 split
 ·rename_i hm
  rw[hv j hm]
  have:j<s.length:=(a0f.mp (hv j hm)).1
  rw[a0h (by omega)];rfl
 ·rename_i hm;exact hs j hm
def Kw (n:Nat) (vs:List Nat) (k:G) (φ:ι→R) (tg:ι→En):Prop:=∀y h s p,cC n p s→∃s',k (φ y) ⟨s,h⟩=some (.ok () ⟨s',h⟩)∧cC n (tg y++p) s'∧s'.length=s.length∧∀j,j∉vs→s'[j]?=s[j]?
theorem Je {φ:ι→R} (hi:Nat.blt i n=true) (hw:∀y,iD (φ y)=true):Kw n [i] (gN i) φ (fun y=>[(i,some (.v (φ y)))]):=fun y h s p m=>⟨_,tQ (hw y),m.set hi _,by simp,fun j hj=>by rw[List.getElem?_set_ne];simpa using fun z:i=j=>hj (by simp[z])⟩
theorem Ik {vs:List Nat} {k:G} {φ:ι→R} {tg:ι→En} {t:M Bool} {W:β→D} {cc:ι→Option Bool} {ff:ι→Option β} (hv:∀v∈vs,lk p v=some .no) (hk:Kw n vs k φ tg) (hc:∀y,EO n (tg y++p) h t (fun x=>x) (cc y)) (hf:∀y,EO n (tg y++p) h e (fun x=>.d (W x)) (ff y)) {s:List Sv} (m:cC n p s):∀(ys:List ι) (zs:List β),pq cc ff ys=some zs→iJ d8 k t e vs ⟨s,h⟩ (ys.map φ)=some (zs.map W)
 | [],zs,hz=>by cases hz;rw[List.map_nil];unfold iJ;rw[a0d (show d8 _ from trivial)];rfl
 | y::ys,zs,hz=>by
  unfold pq at hz
  obtain⟨bb,hb,hz⟩:=a0a.mp hz
  obtain⟨s',k1,k2,k3,k4⟩:=hk y h s p m
  have e1:(⟨eX s' vs,h⟩:ST)=⟨s,h⟩:=by rw[Wm k3 (fun v hm=>m.get v _ (hv v hm)) k4]
  have e2:=(hc y bb hb s' k2).1
  rw[a0F]
  conv=>lhs;unfold iJ
  rw[a0d (show d8 _ from trivial),k1]
  simp only[]
  rw[a0d e1,e2]
  simp only[id]
  cases bb with
  | true=>
   rw[a0d rfl] at hz
   obtain⟨w,hw,hz⟩:=a0a.mp hz
   obtain⟨ws,hws,rfl⟩:=a0b.mp hz
   have e3:=(hf y w hw s' k2).1
   simp only[id] at e3
   simp only[a0W,e3,Ik hv hk hc hf m ys ws hws]
   rfl
  | false=>
   rw[a0j (by simp)] at hz
   simp only[a0W,Ik hv hk hc hf m ys zs hz]
theorem Jf {it:M Wk} {vs:List Nat} {k:G} {φ:ι→R} {tg:ι→En} {t:M Bool} {W:β→D} {cc:ι→Option Bool} {ff:ι→Option β} {ys:List ι} {zs:List β} (hz:qC cc ff ys=some zs) (H:EV n p h it ⟨ys.map φ,d8⟩ id p h) (hv:∀v∈vs,lk p v=some .no) (hk:Kw n vs k φ tg) (hc:∀y,EO n (tg y++p) h t (fun x=>x) (cc y)) (hf:∀y,EO n (tg y++p) h e (fun x=>.d (W x)) (ff y)):EV n p h (nZ it k t e vs) (.lst (zs.map W)) id p h:=fun s m=>by
 have hl:ys.length≤16000000∧pq cc ff ys=some zs:=by
  unfold qC at hz
  split at hz
  ·exact⟨by assumption,hz⟩
  ·cases hz
 have ew:eX s vs=s:=M5 fun v hm=>m.get v _ (hv v hm)
 have:=aa0 (st:=⟨s,h⟩) (s1:=⟨s,h⟩) (k:=k) (t:=t) (e:=e) (vs:=vs) (ds:=zs.map W) (H s m).1 (by rw[a0P];exact hl.1) (by simp only[ew];exact Ik hv hk hc hf m ys zs hl.2)
 simp only[ew] at this
 exact⟨this,m⟩
theorem vs1 (h1:lk p i=some .no):∀v∈[i],lk p v=some .no:=fun v hv=>by rw[a0n.mp hv];exact h1
theorem vs2 (h1:lk p i=some .no) (h2:lk p j=some .no):∀v∈[i,j],lk p v=some .no:=fun v hv=>by
 rcases a0c.mp hv with rfl|hv
 ·exact h1
 ·rw[a0n.mp hv];exact h2
theorem vs3 {k:Nat} (h1:lk p i=some .no) (h2:lk p j=some .no) (h3:lk p k=some .no):∀v∈[i,j,k],lk p v=some .no:=fun v hv=>by
 rcases a0c.mp hv with rfl|hv
 ·exact h1
 ·exact vs2 h2 h3 v hv
theorem Il:EO n p h (M.ret true) (fun x=>x) (some true):=eo_some fun s m=>⟨rfl,m⟩
def outD (V:α→D) (h:List Ob) (v:α):Ot×List Ob:=(.ret (.d (V v)),h)
def QT (c:CL) (V:α→D) (h:List Ob):Except Err α→Ot×List Ob
 | .ok v=>(.ret (.d (V v)),h)
 | .error e=>(.exc (e.xd c),h)
end
section
variable {n i j:Nat} {p q p1 p2 px:En} {s:List Sv} {α β γ ρ ι:Type} {h h1 h2 h3:List Ob} {f g e:M R} {fa ga:M (List R)} {x y z r:R} {rs:List R} {u u1 u2 u3:List Sv→List Sv} {d:D} {ds es:List D} {o:Ob} {b b1 b2:Bool} {Fin:ρ→Rs→Prop} {A B:S} {V:α→D} {xs ys:List α} {a c:Int} {cl:CL}
theorem aap {C a' dd:Addr} {fs:List Str} {nm:Str} {v:D} (e:lk p i=some (.v (.d (.exc a' C dd fs es)))) (hl:(fs.zip es).lookup nm=some v):EV n p h (Kh a' C dd nm (eV i)) (.d v) id p h:=pK (aH e) fun _ _=>by simp[hl]
theorem jV {nm:Str} {fs:List Str} {v:D} (e:es[0]?=some v):((nm::fs).zip es).lookup nm=some v:=by
 cases es with
 | nil=>cases e
 | cons x xs=>cases e;simp[List.lookup]
theorem aaq {nm Rm:Str} {fs:List Str} {v:D} (hn:(nm == Rm)=false) (e:es[1]?=some v):((Rm::nm::fs).zip es).lookup nm=some v:=by
 cases es with
 | nil=>cases e
 | cons x xs=>
  simp only[a0I,List.lookup,hn]
  exact jV (by simpa using e)
end
section
variable {n i j:Nat} {p q p1 p2 px:En} {s:List Sv} {α β γ ρ ι:Type} {h h0 h1 h2 h3 tl:List Ob} {f g e fo fv:M R} {fa ga:M (List R)} {x y z r:R} {rs xs:List R} {u u1 u2 u3:List Sv→List Sv} {d:D} {ds es:List D} {o:Ob} {b b1 b2:Bool} {Fin:ρ→Rs→Prop} {A B:S} {V:α→D} {a c:Int} {cl:CL} {t:Option ρ} {v:ρ}
theorem hget {ob:Ob}:(h++ob::tl)[h.length]?=some ob:=by rw[List.getElem?_append_right (Nat.le_refl _),Nat.sub_self];rfl
structure oF where
 base:Int
 numbers:List (Str×Int)
structure Jg (cl:CL) (h:List Ob) (n m:Nat) (r:oF):Prop where
 o:h[n]?=some (.ins cl.Memory ["base","numbers"] [.d (.int r.base),.o m])
 d:h[m]?=some (.bO (kS r.numbers) (dV D.int r.numbers))∨h[m]?=some (.lO (kS r.numbers) (dV D.int r.numbers))
variable {k m:Nat} {M:oF}
theorem Jg.inV (H:Jg cl h k m M) {s:List Sv}:AL.inV ⟨s,h⟩ (.o k)=some (cl.Memory,(["base","numbers"]:List Str),[R.d (.int M.base),R.o m]):=by unfold AL.inV;simp only[bK,H.o]
end
end TY
set_option maxHeartbeats 2000000
namespace TY
open PySem L2 DL AL PyProof.Rows
section
variable {n i j k m:Nat} {p q p1 p2 px:En} {s:List Sv} {α β γ ρ ι:Type} {h h0 h1 h2 h3 tl:List Ob} {f g e fo fv:M R} {fa ga:M (List R)} {x y z r:R} {rs xs:List R} {u u1 u2 u3:List Sv→List Sv} {d:D} {ds es:List D} {o:Ob} {b b1 b2:Bool} {Fin:ρ→Rs→Prop} {A B:S} {V:α→D} {a c:Int} {cl:CL} {t:Option ρ} {v:ρ} {Y Y':oF}
structure mW (cl:CL) (h:List Ob) (n m:Nat) (r:oF):Prop where
 o:h[n]?=some (.ins cl.Memory ["base","numbers"] [.d (.int r.base),.o m])
 d:h[m]?=some (.bO (kS r.numbers) (dV D.int r.numbers))
theorem mW.at (H:mW cl h k m Y):Jg cl h k m Y:=⟨H.o,.inl H.d⟩
theorem mW.app (H:mW cl h k m Y):mW cl (h++tl) k m Y:=⟨by rw[a0s (a0f.mp H.o).1];exact H.o,by rw[a0s (a0f.mp H.d).1];exact H.d⟩
theorem mW.ne (H:mW cl h k m Y):k≠m:=fun z=>by have:=H.o;rw[z,H.d] at this;cases this
def oF.put (Y:oF) (s:Str) (v:Int):oF:=⟨Y.base,QM Y.numbers s v⟩
def JH (h:List Ob) (m:Nat) (Y:oF):List Ob:=h.set m (.bO (kS Y.numbers) (dV D.int Y.numbers))
theorem mW.put (H:mW cl h k m Y) (hb:Y'.base=Y.base):mW cl (JH h m Y') k m Y':=⟨by unfold JH;rw[List.getElem?_set_ne (fun z=>H.ne z.symm),hb];exact H.o,by unfold JH;rw[List.getElem?_set_self (a0f.mp H.d).1]⟩
def QV (h:List Ob) (out:ρ→Ot×List Ob) (v:ρ) (r:Rs):Prop:=∃h',endF r=some ((out v).1,h')∧h'.take h.length=h
theorem Y9 {mm kk:Nat} {args:List R} {out:ρ→Ot×List Ob} (hm:cC mm p (o_ mm args)) (hl:args.length=kk) (ho:∀v,(out v).2=h∧∀x,(out v).1≠.ret (.o x)∧∀b,(out v).1≠.ret (.n b)) (H:J (QV h out) mm B p h t) (e:t=some v):pW (AL.runN kk mm B) args h=some (out v):=by
 obtain⟨r,h1,h',h2,h3⟩:=H _ hm v e
 have hr:=Qa (n:=kk) (m:=mm) hl h1 h2
 obtain⟨ho1,ho2⟩:=ho v
 unfold pW
 rw[hr]
 cases hv:out v with
 | mk o hh=>
  rw[hv] at ho1 ho2
  have ho1:hh=h:=ho1
  subst ho1
  cases o with
  | exc x=>simp only[h3,a0W]
  | ret w=>
   cases w with
   | d x=>simp only[h3,a0W]
   | o y=>exact absurd rfl (ho2 y).1
   | n y=>exact absurd rfl ((ho2 0).2 y)
theorem Xz {V:α→D}:∀v,(outD V h v).2=h∧∀x,(outD V h v).1≠.ret (.o x)∧∀b,(outD V h v).1≠.ret (.n b):=fun v=>⟨rfl,fun x=>⟨(fun z=>by cases z),(fun b z=>by cases z)⟩⟩
end
end TY
set_option maxHeartbeats 2000000
namespace TY
open PySem L2 DL AL PyProof.Rows
end TY
set_option maxHeartbeats 2000000
namespace TY
open PySem L2 DL AL PyProof.Rows
noncomputable def vA (c:CL):S:=(aq (cV (eC (.int 0)) (gN 3))
 (aq (bL (tF (eB (aJ kLt) (eV 1) (M.of (aC (eV 0) aN) qZ))) (aq (cV (M.of (aC (eB dI (eV 0) (eV 1)) aN) fP) (gN 3))
 aM) aM)
 (aq (cV (eB (aJ J9) (eV 3) (eB (aJ pO) (eC (.int 10)) (eC (.int 18)))) (gN 4))
 (aq (cV (eB dI (dG (dh (aC (eB fY (eV 3) (eB (aJ mQ) (eC (.int 7919)) (eV 1))) (aC (eB (aJ wA) (eV 3) (eB (aJ pO) (eC (.int 10)) (eC (.int 18)))) aN)))) (M.of (aC (eV 4) aN) fP)) (gN 5))
 (aq (oZ 6 (dh aN))
 (aq (mU (nQ (aC (eV 2) aN)) (gN 7) (aq (bL (qp (tR (eV 4))) (aq (cV (eB (aJ fX) (M.of (aC (eB fY (eB fY (eB (aJ mQ) (eV 5) (eC (.int 48271))) (eB (aJ mQ) (eC (.int 11)) (eV 7))) (eC (.int 7))) aN) fP) (eC (.int 2147483647))) (gN 5))
 (aq (cV (eB (aJ fX) (M.of (aC (eB fY (eB fY (eB (aJ mQ) (eV 5) (eC (.int 69621))) (eB (aJ mQ) (eC (.int 5)) (eV 7))) (eC (.int 3))) aN) fP) (eC (.int 2147483647))) (gN 5))
 aM)) aM)
 (aq (lD (rP (eV 6) (aC (eB (aJ fX) (M.of (aC (eV 5) aN) fP) (eC (.int 10000000))) aN) pP))
 (aq (bL (tR (eV 4)) (aq (cV (eB (aJ oY) (eV 5) (eC (.int 10000000))) (gN 5))
 aM) aM)
 aM))))
 (aq (iG (pQ 6))
 aM)))))))
@[irreducible] noncomputable def qH (c:CL):Fn:=(runN 3 8 (vA c))
theorem KR (c:CL):qH c=(runN 3 8 (vA c)):=by unfold qH;rfl
noncomputable def pD (script:List Int) (k:Int) (many:Int):Option (List Int):=
 (if (decide (k<(script.length:Int)))=true then(atI script k).bind fun v=>
 some v else some (0:Int)).bind fun cell=>
 gY (decide (((10:Int) ^ (18:Int).toNat)≤cell)) fun great=>
 (atI [cell+((7919:Int)*k),cell-((10:Int) ^ (18:Int).toNat)] (if great=true then(1:Int) else 0)).bind fun left=>
 (mV (0:Int) many).bind fun r=>
 (jY (fun at_ s_=>
 gY (if (!great)=true then((((((((s_.1*(48271:Int))+((11:Int)*at_))+(7:Int))%(2147483647:Int))*(69621:Int))+((5:Int)*at_))+(3:Int))%(2147483647:Int)) else s_.1) fun pN=>
 (uI s_.2 (pN%(10000000:Int))).bind fun fU=>
 gY (if great=true then(pN/(10000000:Int)) else pN) fun tU=>
 some (tU,fU)) r (left,([]:List Int))).bind fun s_1=>
 some s_1.2
theorem TJ {c:CL} {script:List Int} {k:Int} {many:Int} {h:List Ob} {v:List Int}  (e:pD script k many=some v):qH c [.d (D.dB script),.d (D.int k),.d (D.int many)] h=some (outD (vL D.int) h v):=by
 rw[KR]
 exact fn_of (p:=[(0,some (.v (.d (D.dB script)))),(1,some (.v (.d (D.int k)))),(2,some (.v (.d (D.int many)))),(3,some .no),(4,some .no),(5,some .no),(6,some .no),(7,some .no)]) (gM rfl rfl) rfl  (show J (wI (outD (vL D.int) h)) 8 (vA c) _ h (pD script k many) from
 iy aR rfl rfl (Jb (α:=Int) (pre:=fun cell=>[(3,some (.v (.d (D.int cell))))]) (hp:=fun cell=>h) (fM (aP (aH rfl) (NQ (aF (aH rfl) aU)) aaj)) (eE fun v uP=>
 iy (jw (aF (aP (aH rfl) (aH rfl) (O4 uP)) aU)) rfl rfl (mH (gK rfl (sS rfl jo)) rfl)) (mH (gK rfl jo) rfl) fun cell=>
 uH (V:=fun x=>.d (D.bl x)) (aP (aH rfl) (aP aR aR (vN rfl)) aal) rfl rfl fun great=>
 eE fun left Y_=>
 iy (aP (fj (cZ (aF (aP (aH rfl) (aP aR (aH rfl) (Ho rfl)) lu) (aF (aP (aH rfl) (aP aR aR (vN rfl)) (iz rfl)) aU)) rfl rfl) rfl) (Xv (aF (aH rfl) aU)) (pH (V:=D.int) Y_)) rfl rfl (Ii (cZ aU rfl rfl) rfl (eE fun r uQ=>
 OJ (α:=Int×(List Int)) (pre:=fun s_=>[(5,some (.v (.d (D.int s_.1)))),(6,some (.own (.lst (s_.2.map D.int)))),(7,none)]) (hp:=fun s_=>h) (a0:=(left,([]:List Int))) (sX uQ (aF (aH rfl) aU)) (gK rfl (gK rfl (gQ jo))) (JF rfl (fun _=>rfl)) (fun at_ s_=>
 Jc (α:=Int) (pre:=fun pN=>[(5,some (.v (.d (D.int pN))))]) (hp:=fun pN=>h) (Ox (Ja (aH rfl) QS)) (iy (aP (jw (aF (aP (aP (aP (aH rfl) aR (NP rfl)) (aP aR (aH rfl) (Ho rfl)) lu) aR lu) aU)) aR (mJ rfl)) rfl rfl (iy (aP (jw (aF (aP (aP (aP (aH rfl) aR (NP rfl)) (aP aR (aH rfl) (Ho rfl)) lu) aR lu) aU)) aR (mJ rfl)) rfl rfl (mH (gK rfl (vK 2 rfl rfl)) rfl))) (mH (gK rfl jo) rfl) fun pN=>
 Qe (V:=D.int) rfl (aP (jw (aF (aH rfl) aU)) aR (mJ rfl)) rfl rfl fun fU=>
 Jc (α:=Int) (pre:=fun tU=>[(5,some (.v (.d (D.int tU))))]) (hp:=fun tU=>h) (Ja (aH rfl) QS) (iy (aP (aH rfl) aR (sW rfl)) rfl rfl (mH (gK rfl (sS rfl jo)) rfl)) (mH (gK rfl jo) rfl) fun tU=>
 NK (gK rfl (gK rfl (gQ (vK 7 rfl rfl)))) rfl) fun s_1=>
 v8 (Ow rfl rfl rfl) fun s m=>rfl)))) e
noncomputable def vh (c:CL):S:=(aq (cV (eC (.str "abcdefghijklmnopqrstuvwxyz")) (gN 2))
 (aq (cV (eB fY (eC (.int 1)) (eB (aJ fX) (eB (aJ oY) (M.of (aC (eV 0) aN) fP) (eC (.int 2))) (eC (.int 8)))) (gN 3))
 (aq (oZ 4 (dh aN))
 (aq (mU (nQ (aC (eV 1) aN)) (gN 5) (aq (cV (eV 3) (gN 6))
 (aq (bL (tF (eB (aJ (kEq false)) (eB (aJ fX) (M.of (aC (eV 0) aN) fP) (eC (.int 2))) (eC (.int 1)))) (aq (cV (eB fY (eC (.int 1)) (eB (aJ fX) (eB fY (eV 3) (eV 5)) (eC (.int 8)))) (gN 6))
 aM) aM)
 (aq (oZ 7 (nZ (nQ (aC (eV 6) aN)) (gN 9) (M.ret true) (eB dI (eV 2) (eB (aJ fX) (M.of (aC (eB fY (eB (aJ oY) (eV 0) (eC (.int 7))) (eV 9)) aN) fP) (eC (.int 26)))) [9]))
 (aq (cV (eB (aJ fX) (eB (aJ fX) (M.of (aC (eB (aJ oY) (eV 0) (eC (.int 16))) aN) fP) (eV 3)) (eV 6)) (gN 8))
 (aq (cV (eB dI (eV 2) (eB (aJ fX) (M.of (aC (eB fY (eB (aJ oY) (eV 0) (eC (.int 128))) (eV 5)) aN) fP) (eC (.int 26)))) (gS (eV 7) (eV 8)))
 (aq (lD (rP (eV 4) (aC (tM (eC (.str "")) (eV 7)) aN) pP))
 aM)))))))
 (aq (iG (pQ 4))
 aM)))))
@[irreducible] noncomputable def qF (c:CL):Fn:=(runN 2 10 (vh c))
theorem KD (c:CL):qF c=(runN 2 10 (vh c)):=by unfold qF;rfl
noncomputable def qG (number:Int) (many:Int):Option (List Str):=
 gY ((1:Int)+((number/(2:Int))%(8:Int))) fun size=>
 (mV (0:Int) many).bind fun r=>
 (jY (fun k rZ=>
 gY (if (decide ((number%(2:Int))=(1:Int)))=true then((1:Int)+((size+k)%(8:Int))) else size) fun length=>
 (mV (0:Int) length).bind fun r1=>
 (qC (fun at_=>some true) (fun at_=>(strAt ("abcdefghijklmnopqrstuvwxyz":Str) (((number/(7:Int))+at_)%(26:Int))).bind fun v=>some v) r1).bind fun name=>
 (rH (number/(16:Int)) size).bind fun v1=>
 (rH v1 length).bind fun spot=>
 (strAt ("abcdefghijklmnopqrstuvwxyz":Str) (((number/(128:Int))+k)%(26:Int))).bind fun v2=>
 (wL name spot v2).bind fun name1=>
 (v9 ("":Str) name1).bind fun v3=>
 (uI rZ v3).bind fun Lf=>
 some Lf) r ([]:List Str)).bind fun Lg=>
 some Lg
theorem Sd {c:CL} {number:Int} {many:Int} {h:List Ob} {v:List Str}  (e:qG number many=some v):qF c [.d (D.int number),.d (D.int many)] h=some (outD (vL D.str) h v):=by
 rw[KD]
 exact fn_of (p:=[(0,some (.v (.d (D.int number)))),(1,some (.v (.d (D.int many)))),(2,some .no),(3,some .no),(4,some .no),(5,some .no),(6,some .no),(7,some .no),(8,some .no),(9,some .no)]) (gM rfl rfl) rfl  (show J (wI (outD (vL D.str) h)) 10 (vh c) _ h (qG number many) from
 iy aR rfl rfl (uH (V:=fun x=>.d (D.int x)) (aP aR (aP (aP (jw (aF (aH rfl) aU)) aR (sW rfl)) aR (mJ rfl)) lu) rfl rfl fun size=>
 Ii (cZ aU rfl rfl) rfl (eE fun r uQ=>
 OJ (α:=(List Str)) (pre:=fun rZ=>[(4,some (.own (.lst (rZ.map D.str)))),(5,none),(6,none),(7,none),(8,none)]) (hp:=fun rZ=>h) (a0:=([]:List Str)) (sX uQ (aF (aH rfl) aU)) (gK rfl (gQ (gQ (gQ (gQ jo))))) (JF rfl (fun _=>rfl)) (fun k rZ=>
 iy (aH rfl) rfl rfl (Jc (α:=Int) (pre:=fun length=>[(6,some (.v (.d (D.int length))))]) (hp:=fun length=>h) (fM (aP (aP (jw (aF (aH rfl) aU)) aR (mJ rfl)) aR ju)) (iy (aP aR (aP (aP (aH rfl) (aH rfl) lu) aR (mJ rfl)) lu) rfl rfl (mH (gK rfl (sS rfl jo)) rfl)) (mH (gK rfl jo) rfl) fun length=>
 eE fun r1 JK=>
 eE fun name Im=>
 Ii (Jf (W:=D.str) Im (sX JK (aF (aH rfl) aU)) (vs1 rfl) (Je rfl (fun _=>rfl)) (fun at_=>Il) (fun at_=>(Oz fun v uP=>(eo_some (aP (aH rfl) (aP (jw (aF (aP (aP (aH rfl) aR (sW rfl)) (aH rfl) lu) aU)) aR (mJ rfl)) (O5 uP)))))) rfl (eE fun v1 JL=>
 eE fun spot Za=>
 iy (aP (aP (jw (aF (aP (aH rfl) aR (sW rfl)) aU)) (aH rfl) (Hq JL)) (aH rfl) (Hq Za)) rfl rfl (eE fun v2 wM=>
 Y8 (V:=D.str) (aP (aH rfl) (aP (jw (aF (aP (aP (aH rfl) aR (sW rfl)) (aH rfl) lu) aU)) aR (mJ rfl)) (O5 wM)) (aH rfl) rfl rfl rfl fun name1=>
 eE fun v3 JM=>
 Qe (V:=D.str) rfl (Xx JM aR (aa1 rfl) (aa3 rfl)) rfl rfl fun Lf=>
 NK (gK rfl (gQ (gQ (gQ (gQ (vK 12 rfl rfl)))))) rfl)))) fun Lg=>
 v8 (Ow rfl rfl rfl) fun s m=>rfl))) e
section
variable {K:PySem.W.Frag}
def tV (K:PySem.W.Frag):Sp:=fun vs H Q _=>∃(a:Addr) (ns:List Int),vs=[.ref a]∧SqL K H a (ns.map V.int)∧ns.length≤63∧∀H2,Q (.bl true) H2
theorem Wn (H:Hp):ao K ⟨H,H,[]⟩ ⟨[],[]⟩ [] H [] H [] where
 keep:=fun a o h _=>h
 eB:=Ex.refl _
 bH:=Ex.refl _
 ap:=fun a h1 h2=>absurd h1 h2
 pre:=bM.refl _
 hl:=rfl
 len:=rfl
 val:=fun i r h=>by simp at h
 obj:=fun n b h=>by simp at h
 own:=fun i b h=>by simp at h
 inj:=List.nodup_nil
 new:=fun a h=>by simp at h
 dsl:=fun i j b c a h=>by simp at h
 tmp:=fun p h=>by simp at h
theorem Zb {F:Fn} (hF:∀ns:List Int,ns.length≤63→∃h',F [.d (.dB ns)] []=some (.ret (.d (.bl true)),h')) (vs:List V) (H:Hp) (Q:VK) (E:XK) (h:tV K vs H Q E):dH K F vs H Q E:=by
 obtain⟨a,ns,rfl,hS,hl,hQ⟩:=h
 obtain⟨h',e⟩:=hF ns hl
 refine⟨H,[],[.d (.dB ns)],[],_,Wn H,.cons (show Rp K H (.dB ns) (.ref a) by unfold Rp;exact⟨a,rfl,hS⟩) .nil,e,?_⟩
 intro v H2 ⟨Hb,ι,C⟩
 have hv:v=.bl true:=C.tmp (rt K [] (.d (.bl true)) v) (by simp)
 rw[hv];exact hQ H2
theorem Zd {P:Program} {w:World} {mg:Str→Option Value} {base:Heap} {k:Nat} {f:Addr} {fd:FuncData} {ps:List Str} {F:Fn} (h:FnOk P w K mg base (L2.CX P w) k f fd ps (dH K F)) (hF:∀ns:List Int,ns.length≤63→∃h',F [.d (.dB ns)] []=some (.ret (.d (.bl true)),h')):FnOk P w K mg base (L2.CX P w) k f fd ps (tV K):=h.imp (Zb hF)
theorem Wq {c:CL} (h:(c.has.map c.at).Nodup):c.Ok:=⟨fun e h1 e' h2 he=>by
 have key:∀l:List EC,(l.map c.at).Nodup→e∈l→e'∈l→e=e':=by
  intro l
  induction l with
  | nil=>intro _ h;simp at h
  | cons x l ih=>
   intro hn m1 m2
   rw[a0F,List.nodup_cons] at hn
   rcases a0c.mp m1 with rfl|m1
   ·rcases a0c.mp m2 with rfl|m2
    ·rfl
    ·exact absurd (a0N.mpr ⟨e',m2,he.symm⟩) hn.1
   ·rcases a0c.mp m2 with q|m2
    ·subst q;exact absurd (a0N.mpr ⟨e,‹e∈l›,he⟩) hn.1
    ·exact ih hn.2 m1 m2
 exact key _ h h1 h2⟩
theorem aar {l:PySem.W.OpenLaw} {q:Program} {loose:List Str} {XP:(Str→Option Value)→Heap→Prop} {YP:World→Heap→Prop} {d:DefRec} {K:Params→PySem.W.Frag} {k:Nat} {x:Str} (hk:Room k callerA) (hn:l.most=some 63) (hdf:d.params.defaults=[])
  (hY:∀(w:World) (h:Heap),YP w h→(K w.params).In h)
  (F:∀(w:World) (mg:Str→Option Value) (fa:Addr) (h:Heap),(K w.params).In h→h.Ns mainGlobals mg→mg d.name=some (.ref fa)→
   ∃fd:FuncData,(∀(s:Shared) (u:Value),BindsTo s fd ⟨[u],[]⟩ [(x,u)])∧∀base:Heap,(K w.params).In base→base.Ns mainGlobals mg→FnOk l.prog w (K w.params) mg base (L2.CX l.prog w) k fa fd [x] (tV (K w.params))) :
  PySem.W.WalkO q loose XP YP l.row.toRowW d [] (fun f vs=>PySem.call f vs):=
 L2.walk_of (n:=63) (k:=k) (x:=x) (CX:=fun w=>L2.CX l.prog w) (sp:=fun w=>tV (K w.params)) hn (by decide) hdf hk hY F
  (fun w H a ns hl _ hS=>⟨a,ns,rfl,hS,hl,fun _=>rfl⟩)
  fun _ _ _ _ _ ⟨_,_,_,_,_,_,_,_,_,_,_,_,z⟩=>z
end
end TY
namespace TY
open PySem PySem.W L2 PyProof.Rows
end TY
namespace TY
open PySem L2 DL AL PyProof.Rows
section
variable {n i j:Nat} {p q p1 p2 px:En} {α β γ ρ ι:Type} {h h1 h2:List Ob} {f g e:M R} {fa:M (List R)} {x y z r:R} {u u1:List Sv→List Sv} {d v:D} {ds:List D} {Fin:ρ→Rs→Prop} {A B:S} {a:Int} {ps:List (Str×Int)}
noncomputable def pZ (x:D) (i:Int) (v:ρ):Option ρ:=open Classical in if fW x∧fW (.int i) then some v else none
theorem XC {x:D} {i:Int} {v:ρ} (h1:fW x) (h2:fW (.int i)):pZ x i v=some v:=by unfold pZ;rw[a0d ⟨h1,h2⟩]
theorem aas {C:Addr} {n1 n2:Str} {x:D} {i:Int} {v:ρ} (H:EV n p h fa [.d x,.d (.int i)] u p1 h1) (K:∀s,cC n p1 s→Fin v (.ex ⟨C,[n1,n2],[x,.int i]⟩ ⟨s,h1⟩)):J Fin n (aq (rE C n1 n2 fa) B) p h (pZ x i v):=fun s m v' ev=>by
 unfold pZ at ev
 split at ev
 ·rename_i hx
  cases ev
  have:rE C n1 n2 fa ⟨s,h⟩=some (.ex ⟨C,[n1,n2],[x,.int i]⟩ ⟨u s,h1⟩):=by unfold rE;simp only[(H s m).1,hx,and_self,a0W]
  exact⟨_,by rw[vW this],K _ (H s m).2⟩
 ·cases ev
theorem nu (k:Key):keyD (kD k)=some k:=by cases k<;>rfl
end
end TY
namespace AL
open PySem L2 DL PyProof.Rows
end AL
namespace TY
open PySem L2 DL AL PyProof.Rows
def Rk (h:List Ob) (r:R) (k:Str) (x:R):Prop:=∀s,dI ⟨s,h⟩ r (.d (.str k))=some x
section
variable {α β γ ι ρ:Type}
theorem NZ {xs:List α} {x:α} (h:xs.length<16000000):uI xs x=some (xs++[x]):=a0d h
theorem XF {xs ys:List α} (h:xs.length+ys.length≤16000000):JG xs ys=some (xs++ys):=a0d h
theorem Hr {i j:Int} (h:0<j):rH i j=some (i%j):=a0d h
theorem vO {lo hi:Int} (h:(-1000000000≤lo∧lo≤1000000000)∧-1000000000≤hi∧hi≤1000000000):mV lo hi=some (rng lo hi):=a0d h
theorem aa4 (n:Nat):rng 0 (n:Int)=(List.range n).map fun(i:Nat)=>(i:Int):=by unfold rng;simp
theorem Qg {n:Nat} (h:n≤1000000000):mV 0 (n:Int)=some ((List.range n).map fun(i:Nat)=>(i:Int)):=by rw[vO (by omega),aa4]
theorem vP {lo hi:Int}:(rng lo hi).length=(hi-lo).toNat:=by simp[rng]
theorem N5 {lo hi x:Int}:x∈rng lo hi↔lo≤x∧x<hi:=by
 unfold rng
 simp only[a0N,List.mem_range]
 constructor
 ·rintro⟨i,h,rfl⟩;omega
 ·intro h;exact⟨(x-lo).toNat,by omega,by omega⟩
theorem Wr {f:ι→α→Option α} {a:α}:jY f [] a=some a:=rfl
theorem Ma {f:ι→α→Option α} {y:ι} {ys:List ι} {a:α}:jY f (y::ys) a=(f y a).bind (jY f ys):=rfl
theorem Ws {f:ι→α→Option α} (I:List ι→α→Prop) {ys:List ι} {a:α} (h0:I [] a) (hs:∀done y rest b,ys=done++y::rest→I done b→∃b',f y b=some b'∧I (done++[y]) b'):∃b,jY f ys a=some b∧I ys b:=by
 have key:∀(rest done:List ι) (b:α),ys=done++rest→I done b→∃b',jY f rest b=some b'∧I ys b':=by
  intro rest
  induction rest with
  | nil=>intro done b e hb;rw[a0U] at e;subst e;exact⟨b,rfl,hb⟩
  | cons y rest ih=>
   intro done b e hb
   obtain⟨b1,h1,h2⟩:=hs done y rest b e hb
   obtain⟨b2,h3,h4⟩:=ih (done++[y]) b1 (by rw[e];simp) h2
   exact⟨b2,by rw[Ma,h1];exact h3,h4⟩
 exact key ys [] a rfl h0
theorem M6 {f:ι→List α→Option (List α)} {g:ι→α}:∀{ys:List ι} {acc:List α},acc.length+ys.length≤16000000→(∀y∈ys,∀acc:List α,acc.length<16000000→f y acc=some (acc++[g y]))→jY f ys acc=some (acc++ys.map g)
 | [],acc,_,_=>by simp[Wr]
 | y::ys,acc,hl,h=>by
  simp only[a0Y] at hl
  rw[Ma,h y (by simp) acc (by omega)]
  show jY f ys (acc++[g y])=_
  rw[M6 (by simp;omega) fun z hz b=>h z (by simp[hz]) b];simp
theorem M7 {c:ι→Option Bool} {f:ι→Option β} {g:ι→β}:∀{ys:List ι},(∀y∈ys,c y=some true)→(∀y∈ys,f y=some (g y))→pq c f ys=some (ys.map g)
 | [],_,_=>rfl
 | y::ys,hc,hf=>by
  unfold pq
  rw[hc y (by simp),hf y (by simp)]
  simp only[a0k,a0W,M7 (ys:=ys) (fun z hz=>hc z (by simp[hz])) fun z hz=>hf z (by simp[hz])];rfl
theorem N6 {c:ι→Option Bool} {f:ι→Option β} {g:ι→β} {ys:List ι} (hl:ys.length≤16000000) (hc:∀y∈ys,c y=some true) (hf:∀y∈ys,f y=some (g y)):qC c f ys=some (ys.map g):=by unfold qC;rw[a0d hl];exact M7 hc hf
end
theorem Qh {α:Type} {xs:List α} {i:Nat}:atI xs (i:Int)=xs[i]?:=by
 cases h:xs[i]? with
 | some x=>exact at_of (by omega) (by simpa using h)
 | none=>
  have:xs.length≤i:=List.getElem?_eq_none_iff.mp h
  unfold atI ixN
  rw[a0d (by omega),a0j (by omega)];rfl
def wN (f:Nat→Int) (n:Nat):List Int:=(List.range n).map f
theorem Hu {f:Nat→Int} {n:Nat} {i:Int} (h0:0≤i) (h1:i<n):atI (wN f n) i=some (f i.toNat):=at_of h0 (by unfold wN;rw[a0y,List.getElem?_range (by omega)];rfl)
def Drawn (f:Nat→Int):Prop:=∀i,0≤f i∧f i<10000000
theorem Wt (sc:List Int) (k many:Nat) (hm:many≤100000):∃f,Drawn f∧pD sc (k:Int) (many:Int)=some (wN f many):=by
 suffices ∃ws:List Int,ws.length=many∧(∀w∈ws,0≤w∧w<10000000)∧pD sc (k:Int) (many:Int)=some ws by
  obtain⟨ws,h1,h2,h3⟩:=this
  refine⟨fun i=>ws.getD i 0,fun i=>?_,?_⟩
  ·show 0≤ws.getD i 0∧ws.getD i 0<10000000
   rw[List.getD_eq_getElem?_getD]
   cases q:ws[i]? with
   | none=>exact⟨by decide,by decide⟩
   | some w=>exact h2 w (a0u q)
  ·rw[h3]
   congr 1
   refine a0K fun i=>?_
   unfold wN
   rw[a0y]
   by_cases hi:i<many
   ·rw[List.getElem?_range hi,a0h (by omega)]
    simp[List.getD_eq_getElem?_getD,a0h (show i<ws.length by omega)]
   ·rw[a0z (by omega),a0z (by simp;omega)];rfl
 unfold pD
 have hcell:∃cell,(if (decide ((k:Int)<(sc.length:Int)))=true then(atI sc (k:Int)).bind fun v=>some v else some (0:Int))=some cell:=by
  by_cases hk:k<sc.length
  ·rw[a0d (by simpa using hk)]
   exact⟨sc[k],by rw[Qh,a0h hk];rfl⟩
  ·exact⟨0,by rw[a0j (by simpa using hk)]⟩
 obtain⟨cell,hc⟩:=hcell
 rw[hc]
 simp only[a0k,gY]
 have hl:∃left,atI [cell+((7919:Int)*k),cell-((10:Int) ^ (18:Int).toNat)] (if (decide (((10:Int) ^ (18:Int).toNat)≤cell))=true then(1:Int) else 0)=some left:=by
  split
  ·exact⟨_,rfl⟩
  ·exact⟨_,rfl⟩
 obtain⟨left,hl⟩:=hl
 rw[hl,Qg (by omega)]
 simp only[a0k]
 obtain⟨b,h1,h2⟩:=Ws (f:=fun at_ (s_:Int×List Int)=>(uI s_.2 ((if (!decide (((10:Int) ^ (18:Int).toNat)≤cell))=true then(((((((s_.1*(48271:Int))+((11:Int)*at_))+(7:Int))%(2147483647:Int))*(69621:Int))+((5:Int)*at_))+(3:Int))%(2147483647:Int) else s_.1)%(10000000:Int))).bind fun fU=>some ((if (decide (((10:Int) ^ (18:Int).toNat)≤cell))=true then(if (!decide (((10:Int) ^ (18:Int).toNat)≤cell))=true then(((((((s_.1*(48271:Int))+((11:Int)*at_))+(7:Int))%(2147483647:Int))*(69621:Int))+((5:Int)*at_))+(3:Int))%(2147483647:Int) else s_.1)/(10000000:Int) else(if (!decide (((10:Int) ^ (18:Int).toNat)≤cell))=true then(((((((s_.1*(48271:Int))+((11:Int)*at_))+(7:Int))%(2147483647:Int))*(69621:Int))+((5:Int)*at_))+(3:Int))%(2147483647:Int) else s_.1)),fU)) (ys:=(List.range many).map fun(i:Nat)=>(i:Int)) (a:=(left,([]:List Int))) (fun done b=>b.2.length=done.length∧∀w∈b.2,0≤w∧w<10000000) ⟨rfl,by simp⟩ (by
  intro done y rest b e hb
  have hd:done.length<16000000:=by have:=congrArg List.length e;simp at this;omega
  refine⟨_,by rw[NZ (by rw[hb.1];exact hd)];rfl,?_,?_⟩
  ·simp[hb.1]
  ·intro w hw
   simp only[List.mem_append,a0n] at hw
   rcases hw with hw|rfl
   ·exact hb.2 w hw
   ·omega)
 rw[h1]
 exact⟨b.2,by rw[h2.1];simp,h2.2,rfl⟩
theorem Mf (j:Int):strAt ("abcdefghijklmnopqrstuvwxyz":Str) (j%26)=some ⟨#[nY j]⟩:=by
 unfold strAt
 rw[a0d (by trivial)]
 have:atI (Str.ofString "abcdefghijklmnopqrstuvwxyz").cps.toList (j%26)=some (nY j):=Tt (Int.emod_nonneg _ (by omega)) (Int.emod_lt_of_pos _ (by omega))
 rw[this];rfl
theorem Ze {n:Nat} {i:Int} (h0:0≤i) (h1:i<n):ixN n i=some i.toNat:=by unfold ixN;rw[a0d h0,a0d h1]
theorem N7:∀l:List Nat,((l.map fun c=>(⟨#[c]⟩:Str)).map (·.length)).sum=l.length
 | []=>rfl
 | c::l=>by simp only[a0F,List.sum_cons,N7 l,a0Y];show 1+_=_;omega
theorem TQ (n:Int) (many:Nat) (hm:many≤100000):qG n (many:Int)=some (Oj n many):=by
 unfold qG
 simp only[gY]
 rw[Qg (by omega)]
 simp only[a0k]
 rw[M6 (g:=fun k=>nm n k) (by simp;omega) ?_]
 ·simp only[a0k,List.nil_append,b0s];rfl
 ·intro k hk acc hacc
  have hl:=Ft n k
  have hs:=Lq n
  have e0:(if (decide ((n%(2:Int))=(1:Int)))=true then(1:Int)+(((1:Int)+((n/(2:Int))%(8:Int))+k)%(8:Int)) else(1:Int)+((n/(2:Int))%(8:Int)))=iW n k:=by
   unfold iW nD
   by_cases q:n%2=1<;>simp[q]
  rw[e0,vO (by omega)]
  simp only[a0k]
  rw[N6 (g:=fun a=>(⟨#[nY (n/7+a)]⟩:Str)) (by rw[vP];omega) (fun _ _=>rfl) (fun a _=>by rw[Mf];rfl)]
  simp only[a0k]
  have e1:(1:Int)+n/2%8=nD n:=rfl
  rw[e1,Hr (by omega)]
  simp only[a0k]
  rw[Hr (by omega),Mf]
  simp only[a0k]
  have hsp:=Tv n k
  have e2:n/16%nD n%iW n k=sY n k:=rfl
  rw[e2]
  have e3:wL ((rng 0 (iW n k)).map fun a=>(⟨#[nY (n/7+a)]⟩:Str)) (sY n k) ⟨#[nY (n/128+k)]⟩=some ((j_ n k).map fun c=>(⟨#[c]⟩:Str)):=by
   unfold wL
   rw[Ze hsp.1 (by simp[vP];omega)]
   simp only[b0b]
   congr 1
   have:((rng 0 (iW n k)).map fun a=>(⟨#[nY (n/7+a)]⟩:Str))=(qK n k).map fun c=>(⟨#[c]⟩:Str):=by
    unfold qK rng
    simp only[b0s,Int.sub_zero]
    refine List.map_congr_left fun a _=>?_
    simp
   rw[this]
   unfold j_
   rw[List.map_set]
  rw[e3]
  simp only[a0k]
  have e4:v9 ("":Str) ((j_ n k).map fun c=>(⟨#[c]⟩:Str))=some (nm n k):=by
   unfold v9
   have h8:(j_ n k).length≤8:=by rw[La];omega
   rw[a0d (by
    rw[N7]
    have:(("":Str).length)=0:=by decide +kernel
    rw[this];simp;omega)]
   congr 1
   exact Tz _
  rw[e4]
  simp only[a0k]
  rw[NZ hacc]
  rfl
theorem Zf (n k:Int):(nm n k).length≤16000000∧fW (.str (nm n k)):=by
 have h:=Ft n k
 have hl:=Yp n k
 have hr:=PySem.StrLaws.reprText_len (nm n k) (fun c hc=>by
  rw[Ol] at hc
  have:=Ld hc
  rw[vm,a0N] at this
  obtain⟨a,ha,rfl⟩:=this
  have:=List.mem_range.mp ha
  omega)
 exact⟨by omega,by show (reprText _).length≤1000000;omega⟩
theorem Wu (n k:Int):PyData.strOk (nm n k)=true:=by
 unfold PyData.strOk
 rw[← Array.all_toList,Ol,List.all_eq_true]
 intro c hc
 have h:=Ld hc
 rw[vm,a0N] at h
 obtain⟨a,ha,rfl⟩:=h
 have:=List.mem_range.mp ha
 simp;omega
mutual
theorem M8:∀d:D,bf d=true→cY d d=true
 | .non,_=>by simp[cY]
 | .bl _,_=>by simp[cY]
 | .int _,_=>by simp[cY]
 | .str _,_=>by simp[cY]
 | .lst xs,h=>by unfold cY;exact Fv xs (by unfold bf at h;exact h)
 | .tup xs,h=>by unfold cY;exact Fv xs (by unfold bf at h;exact h)
 | .dB _,h=>by simp[bf] at h
 | .ref _,h=>by simp[bf] at h
 | .ty _,h=>by simp[bf] at h
 | .bO _ _,h=>by simp[bf] at h
 | .dct _ _,h=>by simp[bf] at h
 | .ins _ _ _,h=>by simp[bf] at h
 | .exc _ _ _ _ _,h=>by simp[bf] at h
theorem Fv:∀ds:List D,fL ds=true→lJ ds ds=true
 | [],_=>by simp[lJ]
 | d::ds,h=>by
  unfold fL at h
  rw[a0r] at h
  unfold lJ
  rw[M8 d h.1,Fv ds h.2];rfl
end
def Cm (n:Nat) (d:D):Prop:=bf d=true∧dep d≤n
theorem Cm.ok {n:Nat} {d:D} (h:Cm n d) (hn:n≤64):fu d=true:=by unfold fu;rw[h.1,Bool.true_and,decide_eq_true_eq];exact a0D h.2 hn
theorem O6 {n:Nat} {i:Int}:Cm n (.int i):=⟨by simp[bf],by simp[dep]⟩
theorem Zg {n:Nat} {s:Str} (h:PyData.strOk s=true):Cm n (.str s):=⟨by simpa [bf] using h,by simp[dep]⟩
theorem Ky {n:Nat}:∀{ds:List D},(∀d∈ds,Cm n d)→fL ds=true∧nU ds≤n
 | [],_=>⟨by simp[fL],by simp[nU]⟩
 | d::ds,h=>by
  have h1:=h d (by simp)
  have h2:=Ky (ds:=ds) fun e he=>h e (by simp[he])
  exact⟨by unfold fL;rw[h1.1,h2.1];rfl,by unfold nU;exact Nat.max_le.mpr ⟨h1.2,h2.2⟩⟩
theorem Io {n:Nat} {ds:List D} (h:∀d∈ds,Cm n d):Cm (n+1) (.lst ds):=⟨by unfold bf;exact(Ky h).1,by unfold dep;have:=(Ky h).2;omega⟩
theorem Cm.mono {n m:Nat} {d:D} (h:Cm n d) (hm:n≤m):Cm m d:=⟨h.1,a0D h.2 hm⟩
theorem M9 {n:Nat} {d:D} (h:Cm n d) (hn:n≤64):n_ d d=some true:=by
 unfold n_
 rw[a0d (by rw[h.ok hn];simp),M8 d h.1]
end TY
set_option maxHeartbeats 2000000
namespace TY
open PySem L2 DL AL PyProof.Rows
abbrev Pt:=Int ⊕ Str
inductive Gd where
 | no|short (gs:List D)|full (l sg:Str) (w:List Pt)
inductive St where
 | read (l c:Str) (g:Gd)|write (c:Str) (w:List Pt) (g:Gd)|swap (l c:Str) (w:List Pt) (g:Gd)|cas (l c:Str) (o w:List Pt) (g:Gd)|give (w:List Pt) (g:Gd)
def St.g:St→Gd
 | .read _ _ g=>g|.write _ _ g=>g|.swap _ _ _ g=>g|.cas _ _ _ _ g=>g|.give _ g=>g
def Gd.ws:Gd→List (List Pt)
 | .full _ _ w=>[w]
 | _=>[]
def Gd.ls:Gd→List Str
 | .full l _ _=>[l]
 | _=>[]
def St.own:St→List (List Pt)
 | .read _ _ _=>[]|.write _ w _=>[w]|.swap _ _ w _=>[w]|.cas _ _ o w _=>[o,w]|.give w _=>[w]
def St.ws (s:St):List (List Pt):=s.own++s.g.ws
def ptN (w:List Pt):List Str:=w.filterMap fun p=>match p with|.inr s=>some s|.inl _=>none
def St.fst:St→List Str
 | .read l _ _=>[l]|.swap l _ _ _=>[l]|.cas l _ _ _ _=>[l]|_=>[]
def St.ls (s:St):List Str:=s.fst++s.g.ls++s.ws.flatMap ptN
def St.cell:St→Str
 | .read _ c _=>c|.write c _ _=>c|.swap _ c _ _=>c|.cas _ c _ _ _=>c|.give _ _=>""
def St.Zh:St→Bool
 | .give _ _=>true|_=>false
def aa5 (w:List Pt):Bool:=(decide (1≤w.length)&&decide (w.length≤3))&&w.all fun p=>match p with|.inl i=>decide (0≤i)&&decide (i≤9)|.inr _=>true
def aa6:Gd→Bool
 | .no=>true|.short _=>false|.full _ sg _=>decide (sg∈(["=","!","<"]:List Str))
def St.ok (s:St):Bool:=aa6 s.g&&s.ws.all aa5&&s.ls.all Oi&&(s.Zh || Oi s.cell)
end TY
set_option maxHeartbeats 2000000
namespace TY
open PySem L2 DL AL PyProof.Rows
structure rY {κ:Type} (V:κ→D) (dp:Nat):Prop where
 ok:∀a,∃k,dW (V a)=some k∧k.depth≤dp
 inj:∀a b,dW (V a)=dW (V b)→a=b
noncomputable def mZ {κ:Type} (V:κ→D) (a:κ):NestedKey:=(dW (V a)).getD .none
section
variable {α β γ δ ε κ:Type} {V:κ→D} {A:α→D} {B:β→D} {C:γ→D} {E:δ→D} {F:ε→D} {d d1 d2 d3 d4 d5:Nat}
theorem rY.val (h:rY V d) (a:κ):dW (V a)=some (mZ V a):=by
 obtain⟨k,e,_⟩:=h.ok a
 unfold mZ;rw[e];rfl
theorem rY.dep (h:rY V d) (a:κ):(mZ V a).depth≤d:=by
 obtain⟨k,e,l⟩:=h.ok a
 unfold mZ;rw[e];exact l
theorem TV {x:D} {xs:List D}:lG (x::xs)=(dW x).bind fun k=>(lG xs).map (k::·):=by conv=>lhs;unfold lG
theorem Vb:lG []=some []:=by unfold lG;rfl
theorem Zi:NestedKey.depthAll []=0:=by unfold NestedKey.depthAll;rfl
theorem XH {k:NestedKey} {ks:List NestedKey}:NestedKey.depthAll (k::ks)=max k.depth (NestedKey.depthAll ks):=by conv=>lhs;unfold NestedKey.depthAll
theorem rY.all (h:rY V d):∀xs:List κ,lG (xs.map V)=some (xs.map (mZ V))∧NestedKey.depthAll (xs.map (mZ V))≤d
 | []=>⟨Vb,by rw[List.map_nil,Zi];exact Nat.zero_le _⟩
 | x::xs=>by
  obtain⟨h1,h2⟩:=h.all xs
  refine⟨by rw[a0F,TV,h.val,h1];rfl,?_⟩
  rw[a0F,XH]
  exact Nat.max_le.mpr ⟨h.dep x,h2⟩
structure Ro {κ:Type} (V:κ→D):Prop where
 kt:∀a,QD (V a)=some (mZ V a)
 inj:∀a b,mZ V a=mZ V b→a=b
end
section
variable {α β γ ρ:Type} {n i j m:Nat} {p q p1 p2 p3:En} {s:List Sv} {h h1 h2 h3:List Ob} {f:M Ob} {g e fo:M R} {fa:M (List R)} {r:R} {rs:List R} {u u1 u2:List Sv→List Sv} {ds:List D} {V:α→D} {Fin:ρ→Rs→Prop} {B:S} {C:Addr} {fs:List Str} {nm:Str} {F:Fn} {cl:CL}
theorem jP {o:Ob} {v:ρ} (H:EV n p h f o u p1 h1) (K:∀s,cC n p1 s→Fin v (.rn o ⟨s,h1⟩)):J Fin n (aq (jU f) B) p h (some v):=fun s m v' ev=>by
 cases ev
 exact⟨.rn o ⟨u s,h1⟩,by unfold aq jU;rw[(H s m).1],K _ (H s m).2⟩
end
end TY
namespace AL
open PySem L2 DL PyProof.Rows
end AL
namespace TY
open PySem L2 DL AL PyProof.Rows
def JN {ι κ β:Type} [DecidableEq κ] (c:ι→Option Bool) (fk:ι→Option κ) (fv:ι→Option β):List ι→List (κ×β)→Option (List (κ×β))
 | [],a=>some a
 | y::ys,a=>(c y).bind fun b=>if b=true then(fk y).bind fun k=>(fv y).bind fun v=>JN c fk fv ys (QM a k v) else JN c fk fv ys a
def dX {ι κ β:Type} [DecidableEq κ] (c:ι→Option Bool) (fk:ι→Option κ) (fv:ι→Option β) (ys:List ι):Option (List (κ×β)):=if ys.length≤16000000 then JN c fk fv ys [] else none
end TY
set_option maxHeartbeats 1000000
namespace TY
open PySem L2 DL AL PyProof.Rows
section
variable {κ α β ρ ι:Type} [DecidableEq κ] {V:κ→D} {U:α→D} {U':β→D} {w:World} {n i j:Nat} {p q p1 p2:En} {h h1 h2:List Ob} {f g e:M R} {u u1 u2:List Sv→List Sv} {zs:List (κ×β)} {k:κ} {v:α} {Fin:ρ→Rs→Prop} {A B:S} {ds:List D}
theorem Ro.back (hV:Ro V) (a:κ):qu (mZ V a)=V a:=Ou _ _ (Xi (hV.kt a)).1
end
end TY
set_option maxHeartbeats 1000000
namespace DL
open PySem L2 PyProof.Rows
end DL
namespace AL
open PySem L2 DL PyProof.Rows
end AL
namespace TY
open PySem L2 DL AL PyProof.Rows
end TY
namespace AL
open PySem L2 DL PyProof.Rows
end AL
namespace TY
open PySem L2 DL AL PyProof.Rows
section
variable {α β γ ρ ι:Type} {n i j m b:Nat} {p q p1 p2 p3:En} {s:List Sv} {h h1 h2 h3 t:List Ob} {f g e:M R} {fa:M (List R)} {r:R} {rs:List R} {u u1 u2:List Sv→List Sv} {ds:List D} {V:β→D} {Fin:ρ→Rs→Prop} {A B:S} {xss:List (List β)} {k:Int} {v:β} {lkp:ST→Prop}
structure JQ (V:β→D) (h:List Ob) (m b:Nat) (xss:List (List β)):Prop where
 o:h[m]?=some (.cR (Z0 b xss.length))
 l:∀(k:Nat) x,xss[k]?=some x→h[b+k]?=some (.lst (x.map V))
theorem N8 {o:Ob} (e:h[m]?=some o):(h++t)[m]?=some o:=by
 rw[a0s (a0f.mp e).1];exact e
theorem JQ.app (L:JQ V h m b xss):JQ V (h++t) m b xss:=⟨N8 L.o,fun k x e=>N8 (L.l k x e)⟩
end
end TY
set_option maxHeartbeats 1000000
namespace AL
open PySem L2 DL PyProof.Rows
end AL
namespace TY
open PySem L2 DL AL PyProof.Rows
end TY
namespace AL
open PySem L2 DL PyProof.Rows
end AL
namespace L2
open PySem PyProof.Rows
end L2
namespace DL
open PySem L2 PyProof.Rows
end DL
namespace AL
open PySem L2 DL PyProof.Rows
end AL
namespace TY
open PySem L2 DL AL PyProof.Rows
section
variable {α:Type} {V:α→D} {h:List Ob} {n:Nat}
open Classical in
noncomputable def hL (V:α→D) (h:List Ob) (n:Nat):Option (List α):=if e:∃xs:List α,h[n]?=some (.lst (xs.map V)) then some e.choose else none
end
def obO:List Nat→Ob
 | []=>.lst []
 | x::xs=>.cR ((x::xs).map R.o)
open Classical in
noncomputable def hQ (h:List Ob) (n:Nat):Option (List Nat):=if e:∃xs:List Nat,h[n]?=some (obO xs) then some e.choose else none
end TY
namespace TY
open PySem L2 DL AL PyProof.Rows
end TY
set_option maxHeartbeats 2000000
namespace TY
open PySem L2 DL AL PyProof.Rows
end TY
set_option maxHeartbeats 2000000
namespace AL
open PySem L2 DL PyProof.Rows
end AL
set_option maxHeartbeats 2000000
namespace TY
open PySem L2 DL AL PyProof.Rows
end TY
set_option maxHeartbeats 4000000
namespace DL
open PySem L2 PyProof.Rows
end DL
namespace AL
open PySem L2 DL PyProof.Rows
end AL
namespace TY
open PySem L2 DL AL PyProof.Rows
end TY
set_option maxHeartbeats 2000000
namespace TY
open PySem L2 DL AL PyProof.Rows
end TY
set_option maxHeartbeats 2000000
namespace TY
open PySem L2 DL AL PyProof.Rows
end TY
set_option maxHeartbeats 2000000
namespace TY
open PySem L2 DL AL PyProof.Rows
end TY
set_option maxHeartbeats 2000000
namespace TY
open PySem L2 DL AL PyProof.Rows
end TY
set_option maxHeartbeats 2000000
namespace TY
open PySem L2 DL AL PyProof.Rows
instance abF:DecidableEq (Int×Int×Int×Int×List Int):=inferInstance
instance abw:DecidableEq (List (Int×(Int×Int×Int×Int×List Int))):=inferInstance
instance abG:DecidableEq (List Int×List (Int×(Int×Int×Int×Int×List Int))):=inferInstance
end TY
set_option maxHeartbeats 2000000
namespace TY
open PySem L2 DL AL PyProof.Rows
end TY
set_option maxHeartbeats 2000000
namespace TY
open PySem L2 DL AL PyProof.Rows
end TY
set_option maxHeartbeats 2000000
namespace TY
open PySem L2 DL AL PyProof.Rows
end TY
set_option maxHeartbeats 2000000
namespace TY
open PySem L2 DL AL PyProof.Rows
end TY
namespace AL
open PySem L2 DL PyProof.Rows
end AL
namespace TY
open PySem L2 DL AL PyProof.Rows
end TY
set_option maxHeartbeats 1000000
namespace AL
open PySem L2 DL PyProof.Rows
end AL
namespace TY
open PySem L2 DL AL PyProof.Rows
def qN (ns:List Int):Prop:=ns.length≤100∧∀i∈ns,i.natAbs.log2<1920
theorem qN.d {ns:List Int} (h:qN ns):uG (ns.map D.int):=⟨by rw[a0P];exact h.1,fun d hd=>by
 obtain⟨i,hi,rfl⟩:=a0N.mp hd;exact⟨i,rfl,h.2 i hi⟩⟩
noncomputable def qb {ρ:Type} (ns:List Int) (v:ρ):Option ρ:=open Classical in if qN ns then some v else none
theorem XJ {ρ:Type} {ns:List Int} {v:ρ} (h:qN ns):qb ns v=some v:=by unfold qb;rw[a0d h]
section
variable {n:Nat} {p p1:En} {h h1:List Ob} {ρ:Type} {Fin:ρ→Rs→Prop} {v:ρ} {B:S} {fa:M (List R)} {u:List Sv→List Sv} {x:R} {ns:List Int} {m:Nat}
theorem aat {st:ST}:AL.dM st (.d (vL D.int ns))=some (ns.map D.int):=rfl
theorem aau {C:Addr} {nm:Str} (H:EV n p h fa [x] u p1 h1) (hx:∀s,AL.dM ⟨s,h1⟩ x=some (ns.map D.int)) (K:∀s,cC n p1 s→Fin v (.ex ⟨C,[nm],[vL D.int ns]⟩ ⟨s,h1⟩)):J Fin n (aq (rF C nm fa) B) p h (qb ns v):=fun s m v' ev=>by
 unfold qb at ev
 split at ev
 ·rename_i hs
  cases ev
  have:rF C nm fa ⟨s,h⟩=some (.ex ⟨C,[nm],[vL D.int ns]⟩ ⟨u s,h1⟩):=by
   unfold rF;simp only[(H s m).1,hx,hs.d,a0W]
  exact⟨_,by rw[vW this],K _ (H s m).2⟩
 ·cases ev
end
end TY
set_option maxHeartbeats 2000000
namespace TY
open PySem L2 DL AL HX PyProof.Rows
def CL.Jh (c:CL):Prop:=∀e∈[EC.BadTable,EC.NoOperation,EC.NoCell,EC.BadName,EC.BadNumber,EC.BadStep,EC.BadClient,EC.BadRun,EC.BadRow,EC.Over,EC.TooLarge],e∈c.has
def bx (c:CL):List Addr:=[c.BadTable,c.NoOperation,c.NoCell,c.BadName,c.BadNumber,c.BadStep,c.BadClient,c.BadRun,c.BadRow,c.Over,c.TooLarge]
noncomputable def vp (c:CL):S:=(aq (bL (tF (eB (aJ (kEq false)) (eV 0) (eC (.int 0)))) (aq (iY c.BadTable "name" (aC (eV 1) aN))
 aM) aM)
 (aq (bL (tF (eB (aJ (kEq false)) (eV 0) (eC (.int 1)))) (aq (iY c.NoOperation "name" (aC (eV 1) aN))
 aM) aM)
 (aq (bL (tF (eB (aJ (kEq false)) (eV 0) (eC (.int 2)))) (aq (iY c.NoCell "name" (aC (eV 1) aN))
 aM) aM)
 (aq (bL (tF (eB (aJ (kEq false)) (eV 0) (eC (.int 3)))) (aq (iY c.BadName "name" (aC (eV 1) aN))
 aM) aM)
 (aq (bL (tF (eB (aJ (kEq false)) (eV 0) (eC (.int 4)))) (aq (iY c.BadNumber "number" (aC (eV 2) aN))
 aM) aM)
 (aq (bL (tF (eB (aJ (kEq false)) (eV 0) (eC (.int 5)))) (aq (rE c.BadStep "name" "at" (aC (eV 1) (aC (eV 2) aN)))
 aM) aM)
 (aq (bL (tF (eB (aJ (kEq false)) (eV 0) (eC (.int 6)))) (aq (iY c.BadClient "caller" (aC (eV 2) aN))
 aM) aM)
 (aq (bL (tF (eB (aJ (kEq false)) (eV 0) (eC (.int 7)))) (aq (iY c.BadRun "at" (aC (eV 2) aN))
 aM) aM)
 (aq (bL (tF (eB (aJ (kEq false)) (eV 0) (eC (.int 8)))) (aq (rF c.BadRow "row" (aC (dG (M.of (aC (eV 3) aN) kList)) aN))
 aM) aM)
 (aq (bL (tF (eB (aJ (kEq false)) (eV 0) (eC (.int 9)))) (aq (iY c.Over "caller" (aC (eV 2) aN))
 aM) aM)
 (aq (iY c.TooLarge "bound" (aC (eV 2) aN))
 aM)))))))))))
@[irreducible] noncomputable def lY (c:CL):Fn:=(runN 4 4 (vp c))
theorem KJ (c:CL):lY c=(runN 4 4 (vp c)):=by unfold lY;rfl
noncomputable def Cd (c:CL) (a C d:Addr):S:=(aq (bL (tF (eB (kIn false) (eV 1) (dG (dh (aC (eC (.int 0)) (aC (eC (.int 1)) (aC (eC (.int 2)) (aC (eC (.int 3)) aN)))))))) (aq (jU (dh (aC (jW a C [c.BadTable,c.NoOperation,c.NoCell,c.BadName,c.BadStep] d "name" (eV 0)) aN)))
 aM) aM)
 (aq (bL (tF (eB (aJ (kEq false)) (eV 1) (eC (.int 4)))) (aq (jU (dh (aC (jW a C [c.BadNumber] d "number" (eV 0)) aN)))
 aM) aM)
 (aq (bL (tF (eB (aJ (kEq false)) (eV 1) (eC (.int 5)))) (aq (jU (dh (aC (jW a C [c.BadTable,c.NoOperation,c.NoCell,c.BadName,c.BadStep] d "name" (eV 0)) (aC (jW a C [c.BadStep,c.BadRun] d "at" (eV 0)) aN))))
 aM) aM)
 (aq (bL (qm (tF (eB (aJ (kEq false)) (eV 1) (eC (.int 6)))) (tF (eB (aJ (kEq false)) (eV 1) (eC (.int 9))))) (aq (jU (dh (aC (jW a C [c.BadClient,c.Over] d "caller" (eV 0)) aN)))
 aM) aM)
 (aq (bL (tF (eB (aJ (kEq false)) (eV 1) (eC (.int 7)))) (aq (jU (dh (aC (jW a C [c.BadStep,c.BadRun] d "at" (eV 0)) aN)))
 aM) aM)
 (aq (bL (tF (eB (aJ (kEq false)) (eV 1) (eC (.int 8)))) (aq (jU (dh (aC (jW a C [c.BadRow] d "row" (eV 0)) aN)))
 aM) aM)
 (aq (jU (dh (aC (jW a C [c.TooLarge] d "bound" (eV 0)) aN)))
 aM)))))))
@[irreducible] noncomputable def fK (c:CL) (a C d:Addr):Fn:=(runN 2 2 (Cd c a C d))
theorem jN (c:CL) (a C d:Addr):fK c a C d=(runN 2 2 (Cd c a C d)):=by unfold fK;rfl
noncomputable def BX (c:CL) (a C d:Addr):S:=(aq (jU (dh (aC (jE (fV (bx c)) a C d (eV 0) (eC (.ref c.BadTable))) (aC (jE (fV (bx c)) a C d (eV 0) (eC (.ref c.NoOperation))) (aC (jE (fV (bx c)) a C d (eV 0) (eC (.ref c.NoCell))) (aC (jE (fV (bx c)) a C d (eV 0) (eC (.ref c.BadName))) (aC (jE (fV (bx c)) a C d (eV 0) (eC (.ref c.BadNumber))) (aC (jE (fV (bx c)) a C d (eV 0) (eC (.ref c.BadStep))) (aC (jE (fV (bx c)) a C d (eV 0) (eC (.ref c.BadClient))) (aC (jE (fV (bx c)) a C d (eV 0) (eC (.ref c.BadRun))) (aC (jE (fV (bx c)) a C d (eV 0) (eC (.ref c.BadRow))) (aC (jE (fV (bx c)) a C d (eV 0) (eC (.ref c.Over))) (aC (jE (fV (bx c)) a C d (eV 0) (eC (.ref c.TooLarge))) aN)))))))))))))
 aM)
@[irreducible] noncomputable def pC (c:CL) (a C d:Addr):Fn:=(runN 1 1 (BX c a C d))
theorem KC (c:CL) (a C d:Addr):pC c a C d=(runN 1 1 (BX c a C d)):=by unfold pC;rfl
noncomputable abbrev Hv (c:CL):S:=(rC (aq (lD (lE (lY c) (aC (eV 5) (aC (eV 2) (aC (eV 3) (aC (eV 4) aN))))))
 aM) (⟨rW (bx c),(some 9),fun x a d=>(aq (cV (eC (.int 1)) (gN 7))
 (aq (bL (qm (qp (tR (wG (subT (bx c)) a x.C d "ValueError" (eV 9)))) (tF (eB (aJ (kEq true)) (dG (oM (fK c a x.C d) (aC (eV 9) (aC (eV 5) aN)))) (eB dI (eV 6) (eV 5))))) (aq (iG (eC (.bl false)))
 aM) aM)
 (aq (bL (tF (eB (aJ (kEq true)) (dG (oM (pC c a x.C d) (aC (eV 9) aN))) (dG (nZ (nQ (aC (eC (.int 11)) aN)) (gN 8) (M.ret true) (eB (aJ (kEq false)) (eV 8) (eV 5)) [8])))) (aq (iG (eC (.bl false)))
 aM) aM)
 aM)))⟩::[]))
noncomputable def vG (c:CL):S:=(aq (cV (lE (qH c) (aC (eV 0) (aC (eC (.int 0)) (aC (eC (.int 6)) aN)))) (gN 1))
 (aq (cV (eB dI (lE (qF c) (aC (eB dI (eV 1) (eC (.int 0))) (aC (eC (.int 1)) aN))) (eC (.int 0))) (gN 2))
 (aq (cV (eB (aJ wA) (M.of (aC (eB dI (eV 1) (eC (.int 1))) aN) fP) (eC (.int 5000000))) (gN 3))
 (aq (bL (tF (eB (aJ J8) (M.of (aC (eV 0) aN) qZ) (eC (.int 0)))) (aq (cV (eB (aJ wA) (eB (aJ fX) (M.of (aC (eB dI (eV 0) (eC (.int 0))) aN) fP) (eB (aJ pO) (eC (.int 10)) (eC (.int 60)))) (eB (aJ pO) (eC (.int 10)) (eC (.int 59)))) (gN 3))
 aM) aM)
 (aq (cV (dG (nZ (v7 (aC (eC (.int 2)) (aC (eB fY (eC (.int 2)) (eB (aJ fX) (M.of (aC (eB dI (eV 1) (eC (.int 1))) aN) fP) (eC (.int 4)))) aN))) (gN 8) (M.ret true) (eB (aJ fX) (M.of (aC (eB dI (eV 1) (eV 8)) aN) fP) (eC (.int 9))) [8])) (gN 4))
 (aq (mU (nQ (aC (eC (.int 11)) aN)) (gN 5) (aq (cV (dG (dh (aC (dG (dh (aC (eV 2) aN))) (aC (dG (dh (aC (eV 2) aN))) (aC (dG (dh (aC (eV 2) aN))) (aC (dG (dh (aC (eV 2) aN))) (aC (dG (dh (aC (eV 3) aN))) (aC (dG (dh (aC (eV 2) (aC (eV 3) aN)))) (aC (dG (dh (aC (eV 3) aN))) (aC (dG (dh (aC (eV 3) aN))) (aC (dG (dh (aC (eV 4) aN))) (aC (dG (dh (aC (eV 3) aN))) aN)))))))))))) (gN 6))
 (aq (cV (eB fY (eV 6) (dG (dh (aC (dG (dh (aC (eV 3) aN))) aN)))) (gN 6))
 (aq (cV (eC (.int 0)) (gN 7))
 (aq (rC (aq (lD (lE (lY c) (aC (eV 5) (aC (eV 2) (aC (eV 3) (aC (eV 4) aN))))))
 aM) (⟨rW (bx c),(some 9),fun x a d=>(aq (cV (eC (.int 1)) (gN 7))
 (aq (bL (qm (qp (tR (wG (subT (bx c)) a x.C d "ValueError" (eV 9)))) (tF (eB (aJ (kEq true)) (dG (oM (fK c a x.C d) (aC (eV 9) (aC (eV 5) aN)))) (eB dI (eV 6) (eV 5))))) (aq (iG (eC (.bl false)))
 aM) aM)
 (aq (bL (tF (eB (aJ (kEq true)) (dG (oM (pC c a x.C d) (aC (eV 9) aN))) (dG (nZ (nQ (aC (eC (.int 11)) aN)) (gN 8) (M.ret true) (eB (aJ (kEq false)) (eV 8) (eV 5)) [8])))) (aq (iG (eC (.bl false)))
 aM) aM)
 aM)))⟩::[]))
 (aq (bL (tF (eB (aJ (kEq true)) (eV 7) (eC (.int 1)))) (aq (iG (eC (.bl false)))
 aM) aM)
 aM))))))
 (aq (iG (eC (.bl true)))
 aM)))))))
@[irreducible] noncomputable def sH (c:CL):Fn:=pW (runN 1 10 (vG c))
theorem KZ (c:CL):sH c=pW (runN 1 10 (vG c)):=by unfold sH;rfl
noncomputable def bD (at_:Int) (name:Str) (number:Int) (fU:List Int):Option (Except Err D):=
 if (decide (at_=(0:Int)))=true then cW (D.str name) (.error ⟨.BadTable,[(D.str name)]⟩)
 else if (decide (at_=(1:Int)))=true then cW (D.str name) (.error ⟨.NoOperation,[(D.str name)]⟩)
 else if (decide (at_=(2:Int)))=true then cW (D.str name) (.error ⟨.NoCell,[(D.str name)]⟩)
 else if (decide (at_=(3:Int)))=true then cW (D.str name) (.error ⟨.BadName,[(D.str name)]⟩)
 else if (decide (at_=(4:Int)))=true then cW (D.int number) (.error ⟨.BadNumber,[(D.int number)]⟩)
 else if (decide (at_=(5:Int)))=true then pZ (D.str name) number (.error ⟨.BadStep,[(D.str name),.int number]⟩)
 else if (decide (at_=(6:Int)))=true then cW (D.int number) (.error ⟨.BadClient,[(D.int number)]⟩)
 else if (decide (at_=(7:Int)))=true then cW (D.int number) (.error ⟨.BadRun,[(D.int number)]⟩)
 else if (decide (at_=(8:Int)))=true then qb fU (.error ⟨.BadRow,[((vL D.int) fU)]⟩)
 else if (decide (at_=(9:Int)))=true then cW (D.int number) (.error ⟨.Over,[(D.int number)]⟩)
 else cW (D.int number) (.error ⟨.TooLarge,[(D.int number)]⟩)
theorem SN {c:CL} {at_:Int} {name:Str} {number:Int} {fU:List Int} {h:List Ob} {v:Except Err D}  (e:bD at_ name number fU=some v):lY c [.d (D.int at_),.d (D.str name),.d (D.int number),.d ((vL D.int) fU)] h=some (QT c (fun d=>d) h v):=by
 rw[KJ]
 exact fn_of (p:=[(0,some (.v (.d (D.int at_)))),(1,some (.v (.d (D.str name)))),(2,some (.v (.d (D.int number)))),(3,some (.v (.d ((vL D.int) fU))))]) (gM rfl rfl) rfl  (show J (wI (QT c (fun d=>d) h)) 4 (vp c) _ h (bD at_ name number fU) from
 jG (fM (aP (aH rfl) aR ju)) (eU (nW (aF (aH rfl) aU) fun s m=>rfl))
 (jX (jG (fM (aP (aH rfl) aR ju)) (eU (nW (aF (aH rfl) aU) fun s m=>rfl))
 (jX (jG (fM (aP (aH rfl) aR ju)) (eU (nW (aF (aH rfl) aU) fun s m=>rfl))
 (jX (jG (fM (aP (aH rfl) aR ju)) (eU (nW (aF (aH rfl) aU) fun s m=>rfl))
 (jX (jG (fM (aP (aH rfl) aR ju)) (eU (nW (aF (aH rfl) aU) fun s m=>rfl))
 (jX (jG (fM (aP (aH rfl) aR ju)) (eU (aas (aF (aH rfl) (aF (aH rfl) aU)) fun s m=>rfl))
 (jX (jG (fM (aP (aH rfl) aR ju)) (eU (nW (aF (aH rfl) aU) fun s m=>rfl))
 (jX (jG (fM (aP (aH rfl) aR ju)) (eU (nW (aF (aH rfl) aU) fun s m=>rfl))
 (jX (jG (fM (aP (aH rfl) aR ju)) (eU (aau (aF (fj (Wj (aF (aH rfl) aU)) rfl) aU) (fun _=>aat) fun s m=>rfl))
 (jX (jG (fM (aP (aH rfl) aR ju)) (eU (nW (aF (aH rfl) aU) fun s m=>rfl))
 (jX (nW (aF (aH rfl) aU) fun s m=>rfl))))))))))))))))))))) e
open Classical in
noncomputable def uR (at_:Int) (name:Str) (number:Int) (tail:List Int) (F:List D):Option Unit:=if (0≤at_∧at_≤10)∧(bD at_ name number tail).isSome=true∧F=[(D.lst [D.str name]),(D.lst [D.str name]),(D.lst [D.str name]),(D.lst [D.str name]),(D.lst [D.int number]),(D.lst [D.str name,D.int number]),(D.lst [D.int number]),(D.lst [D.int number]),(D.lst [(vL D.int) tail]),(D.lst [D.int number]),(D.lst [D.int number])]∧∀x∈F,n_ x x=some true then some () else none
end TY
namespace AL
open PySem L2 DL PyProof.Rows
theorem bd1 {α:Type} {P:List α→Prop} (h:∀a,P [a]):∀us:List α,us.length=1→P us
 | [a],_=>h a
theorem bd2 {α:Type} {P:List α→Prop} (h:∀a b,P [a,b]):∀us:List α,us.length=2→P us
 | [a,b],_=>h a b
theorem bd3 {α:Type} {P:List α→Prop} (h:∀a b c,P [a,b,c]):∀us:List α,us.length=3→P us
 | [a,b,c],_=>h a b c
theorem bd4 {α:Type} {P:List α→Prop} (h:∀a b c d,P [a,b,c,d]):∀us:List α,us.length=4→P us
 | [a,b,c,d],_=>h a b c d
theorem bd5 {α:Type} {P:List α→Prop} (h:∀a b c d e,P [a,b,c,d,e]):∀us:List α,us.length=5→P us
 | [a,b,c,d,e],_=>h a b c d e
theorem bd6 {α:Type} {P:List α→Prop} (h:∀a b c d e f,P [a,b,c,d,e,f]):∀us:List α,us.length=6→P us
 | [a,b,c,d,e,f],_=>h a b c d e f
theorem bd7 {α:Type} {P:List α→Prop} (h:∀a b c d e f g,P [a,b,c,d,e,f,g]):∀us:List α,us.length=7→P us
 | [a,b,c,d,e,f,g],_=>h a b c d e f g
section
variable (l:PySem.W.OpenLaw) (w:World) {K:PySem.W.Frag} {h:Heap} {mg:Str→Option Value} {nm m qual p cn:Str} {st:Stmt} {C:Addr} {ps:List Str} {k:Nat} {sp:Sp} {P:Program}
def lV (K:PySem.W.Frag) (nm:Str) (st:Stmt):Prop:=∃(f:Addr) (oc:Value) (od:Option Addr) (kV dc pm:Value) (an:Option Addr) (cd ct:Value) (sl:Array (Option Value)),PySem.W.nsIn K mainGlobals nm=some (some (.ref f))∧K.lookup f=some ⟨oc,od,.func (PySem.W.fnOf nm nm (defArgs st) (defBody st) (defScope st) .none kV dc pm an cd ct),sl⟩∧PySem.W.codeIn K cd nm=true∧PySem.W.keepIn K (.ref f)=true
def Rq (K:PySem.W.Frag) (C:Addr) (m qual:Str) (st:Stmt):Prop:=∃(f:Addr) (oc:Value) (od:Option Addr) (kV dc pm:Value) (an:Option Addr) (cd ct:Value) (sl:Array (Option Value)),PySem.W.findIn K (.ref C) m=some (some (.ref f))∧PySem.W.isFn K (.ref f)=true∧K.lookup f=some ⟨oc,od,.func (PySem.W.fnOf m qual (defArgs st) (defBody st) (defScope st) .none kV dc pm an cd ct),sl⟩∧PySem.W.codeIn K cd qual=true∧PySem.W.keepIn K (.ref f)=true
structure Kz (K:PySem.W.Frag) (cn:Str) (C:Addr):Prop where
 a:PySem.W.nsIn K mainGlobals cn=some (some (.ref C))
 pg:PySem.W.plainGet K C Str.empty=true
 hd:PySem.W.hasDictIn K C=true
 po:PySem.W.plainOver K C=true
 sa:PySem.W.findIn K (.ref C) "__setattr__"=some (some (.builtin "object.__setattr__"))
 ms:PySem.W.makesIn K C=true
 kc:PySem.W.keepIn K (.ref C)=true
theorem Kz.cls (c:Kz K cn C):Cls K C:=⟨c.pg,c.hd,c.po,c.sa⟩
def Bd (m qual:Str) (st:Stmt) (ps:List Str):Prop:=∀(kV doc pm:Value) (an:Option Addr) (cdv ct:Value) (us:List Value),us.length=ps.length→bindArgs (PySem.W.fnOf m qual (defArgs st) (defBody st) (defScope st) .none kV doc pm an cdv ct) ⟨us,[]⟩=pure (ps.zip us)
def Ru (l:PySem.W.OpenLaw) (w:World) (K:PySem.W.Frag) (mg:Str→Option Value) (m qual:Str) (st:Stmt) (k:Nat) (ps:List Str) (sp:Sp):Prop:=∀(base:Heap) (f:Addr) (fd:FuncData),gU K m qual st f fd→FnOk l.prog w K mg base (L2.CX l.prog w) k f fd ps sp
theorem lV.cal (X:K.In h) (G:h.Ns mainGlobals mg) (F:lV K nm st) (ok:Ru l w K mg nm nm st k ps sp) (hb:Bd nm nm st ps):∀base,Cal l.prog w K mg base nm ps k sp:=fun base=>by
 obtain⟨f,oc,od,kV,dc,pm,an,cd,ct,sl,h1,h2,h3,h4⟩:=F
 have F:=fun_mk (st:=st) h2 h3 h4
 exact⟨f,_,ok base _ _ (tW F),a0Q X G h1,h4,F.binds hb⟩
theorem Rq.cal (c:Kz K cn C) (F:Rq K C m qual st) (ok:Ru l w K mg m qual st k ps sp) (hb:Bd m qual st ps):∀base,aaE l.prog w K mg base C m ps k sp:=fun base=>by
 obtain⟨f,oc,od,kV,dc,pm,an,cd,ct,sl,h1,h0,h2,h3,h4⟩:=F
 have F:=fun_mk (st:=st) h2 h3 h4
 exact⟨f,_,ok base _ _ (tW F),c.cls,⟨h1,h0,h4⟩,F.binds hb⟩
structure ErF (l:PySem.W.OpenLaw) (K:PySem.W.Frag) (C fI:Addr) (cn qual p:Str) (st:Stmt):Prop where
 gC:PySem.W.nsIn K mainGlobals cn=some (some (.ref C))
 cls:∃nm q N bs bm sn sub ab col dd k0 k1 k2 k3 k5,K.lookup C=some (excClassObj nm q C N bs bm true sn sub ab col dd k0 k1 k2 k3 k5 "ValueError.__new__")∧PySem.HandSPX.refsVE bm=true
 sa:PySem.W.findIn K (.ref C) "__setattr__"=some (some (.builtin "object.__setattr__"))
 ga:PySem.W.findIn K (.ref C) "__getattribute__"=some (some (.builtin "BaseException.__getattribute__"))
 gg:PySem.W.findIn K (.ref C) "__getattr__"=some none
 iC:PySem.W.findIn K (.ref C) "__init__"=some (some (.ref fI))
 tC:PySem.W.typeIn K (.ref fI)=some (.type "function")
 kC:PySem.W.keepIn K (.ref C)=true
 exC:PySem.W.subIn K (.ref C) (.type "BaseException")=some true
 JZ:PySem.W.subIn K (.ref C) (.type "ValueError")=some true
 J5:PySem.W.mroIn K C (.ref C)=some true
 tyC:PySem.W.typeIn K (.ref C)=some (.type "type")
 hdC:PySem.W.hasDictIn K C=true
 sup:PySem.W.ks_superIn K C C "__init__"=some (some (.builtin "ValueError.__init__"))
 lk:∃(oc:Value) (od:Option Addr) (kV doc pm:Value) (an:Option Addr) (cda:Addr) (ct:Value) (cc:Addr) (osl:Array (Option Value)) (ccl:Value) (cdd:Option Addr) (vs:Array Value) (ccs:Array (Option Value)) (file:Str) (tf:Tok) (cl:Value) (cld:Option Addr) (csl:Array (Option Value)),
  K.lookup fI=some ⟨oc,od,.func (PySem.W.ksFn "__init__" qual (L2.defArgs st) (L2.defBody st) (L2.defScope st) .none kV doc pm an (.ref cda) ct cc),osl⟩∧PySem.W.codeIn K (.ref cda) qual=true∧
  K.lookup cda=some ⟨ccl,cdd,.fields vs,ccs⟩∧vs[2]?=some (.str file tf)∧((l.prog.main.file:Str) == file)=true∧K.lookup cc=some ⟨cl,cld,.cell (some (.ref C)),csl⟩
 no:PySem.W.findIn K (.ref C) p=some none
def eZ (l:PySem.W.OpenLaw) (K:PySem.W.Frag) (C:Addr) (cn qual p:Str) (st:Stmt):Prop:=∃fI,ErF l K C fI cn qual p st
theorem eZ.b {l:PySem.W.OpenLaw} (e:eZ l K C cn qual p st):PySem.W.subIn K (.ref C) (.type "BaseException")=some true:=e.elim fun _ e=>e.exC
theorem eZ.hd {l:PySem.W.OpenLaw} (e:eZ l K C cn qual p st):PySem.W.hasDictIn K C=true:=e.elim fun _ e=>e.hdC
theorem eZ.ty {l:PySem.W.OpenLaw} (e:eZ l K C cn qual p st):PySem.W.typeIn K (.ref C)=some (.type "type"):=e.elim fun _ e=>e.tyC
theorem eZ.ga {l:PySem.W.OpenLaw} (e:eZ l K C cn qual p st):PySem.W.findIn K (.ref C) "__getattribute__"=some (some (.builtin "BaseException.__getattribute__")):=e.elim fun _ e=>e.ga
theorem eZ.gg {l:PySem.W.OpenLaw} (e:eZ l K C cn qual p st):PySem.W.findIn K (.ref C) "__getattr__"=some none:=e.elim fun _ e=>e.gg
def mX (st:Stmt) (qual p:Str):Prop:=∃(pre:Str) (cst:Nat) (j1 j2 j3 q1 q2 q3 q4:Pos),bA.kZ st qual [p] [.Constant (.str pre) cst j1,.FormattedValue (.Name p j2) 114 none j3] [.Assign [.Attribute (.Name "self" q1) p q2] (.Name p q3) q4]∧pre.length≤100
theorem eZ.er {l:PySem.W.OpenLaw} (X:K.In h) (G:h.Ns mainGlobals mg) (hB:fG mg) (gG:PySem.W.nsIn K cStatics "thirdparty.any"=some none) (top:(l.prog.main.scope.names.lookup ("super":Str)).isSome=false) (s:mX st qual p) (e:eZ l K C cn qual p st) (h1:(p == ("self":Str))=false:=by decide +kernel) (h2:(p == ("__debug__":Str))=false:=by decide +kernel):bA.dF l.prog K mg cn p C:=by
 obtain⟨fI,e⟩:=e
 obtain⟨pre,cst,j1,j2,j3,q1,q2,q3,q4,S,hp⟩:=s
 exact⟨fI,qual,st,pre,cst,j1,j2,j3,q1,q2,q3,q4,⟨a0Q X G e.gC,e.cls,e.sa,e.ga,e.gg,e.iC,e.tC,e.kC,e.exC,e.JZ,e.J5,e.tyC,e.hdC,e.sup,gG,hB _ (by trivial),top,e.lk⟩,S,h1,h2,e.no,hp⟩
structure Rv (K:PySem.W.Frag):Prop where
 z0:PySem.W.nsIn K mainGlobals "len"=some none
 z1:PySem.W.nsIn K mainGlobals "int"=some none
 z2:PySem.W.nsIn K mainGlobals "range"=some none
 z3:PySem.W.nsIn K mainGlobals "isinstance"=some none
 z4:PySem.W.nsIn K mainGlobals "list"=some none
 z5:PySem.W.nsIn K mainGlobals "tuple"=some none
 z6:PySem.W.nsIn K mainGlobals "enumerate"=some none
 z7:PySem.W.nsIn K mainGlobals "sum"=some none
 z8:PySem.W.nsIn K mainGlobals "any"=some none
 z9:PySem.W.nsIn K mainGlobals "str"=some none
 z10:PySem.W.nsIn K mainGlobals "bool"=some none
 z11:PySem.W.nsIn K mainGlobals "dict"=some none
 z12:PySem.W.nsIn K mainGlobals "super"=some none
 z13:PySem.W.nsIn K mainGlobals "sorted"=some none
 z14:PySem.W.nsIn K mainGlobals "reversed"=some none
 z15:PySem.W.nsIn K mainGlobals "iter"=some none
 z16:PySem.W.nsIn K mainGlobals "abs"=some none
 z17:PySem.W.nsIn K mainGlobals "max"=some none
 z18:PySem.W.nsIn K mainGlobals "min"=some none
 z19:PySem.W.nsIn K mainGlobals "ValueError"=some none
 z20:PySem.W.nsIn K mainGlobals "Exception"=some none
 z21:PySem.W.nsIn K mainGlobals "zip"=some none
 z22:PySem.W.nsIn K mainGlobals "all"=some none
theorem aav (X:K.In h) (G:h.Ns mainGlobals mg) (z:Rv K):fG mg:=by
 intro x hx
 refine PySem.W.mg_none_of X G ?_
 unfold Od at hx
 simp only[a0c,b0k,or_false] at hx
 rcases hx with rfl|rfl|rfl|rfl|rfl|rfl|rfl|rfl|rfl|rfl|rfl|rfl|rfl|rfl|rfl|rfl|rfl|rfl|rfl|rfl|rfl|rfl|rfl
 ·exact z.z0
 ·exact z.z1
 ·exact z.z2
 ·exact z.z3
 ·exact z.z4
 ·exact z.z5
 ·exact z.z6
 ·exact z.z7
 ·exact z.z8
 ·exact z.z9
 ·exact z.z10
 ·exact z.z11
 ·exact z.z12
 ·exact z.z13
 ·exact z.z14
 ·exact z.z15
 ·exact z.z16
 ·exact z.z17
 ·exact z.z18
 ·exact z.z19
 ·exact z.z20
 ·exact z.z21
 ·exact z.z22
end
end AL
namespace AL
open PySem L2 DL AL HX PyProof.Rows
section
variable (l:PySem.W.OpenLaw) (w:World) {K:PySem.W.Frag} {mg:Str→Option Value} {h:Heap} {nm:Str} {st:Stmt} {k:Nat} {ps:List Str} {sp:Sp} {F0:Addr→Addr→Addr→Fn}
theorem lV.aa7 (X:K.In h) (G:h.Ns mainGlobals mg) (F:lV K nm st) (ok:∀(base:Heap) (f:Addr) (fd:FuncData),gU K nm nm st f fd→FnOk l.prog w K mg base (L2N.CX l.prog w) k f fd ps sp) (hb:Bd nm nm st ps):∀base,JB l.prog w K mg base nm ps k sp:=fun base=>by
 obtain⟨f,oc,od,kV,dc,pm,an,cd,ct,sl,h1,h2,h3,h4⟩:=F
 have F:=fun_mk (st:=st) h2 h3 h4
 exact⟨f,_,ok base _ _ (tW F),a0Q X G h1,h4,F.binds hb⟩
theorem lV.QW (X:K.In h) (G:h.Ns mainGlobals mg) (F:lV K nm st) (ok:∀(base:Heap) (f:Addr) (fd:FuncData),gU K nm nm st f fd→∀a C d,pB l.prog w K mg base (L2.CX l.prog w) k f fd ps a C d (dH K (F0 a C d))) (hb:Bd nm nm st ps):∀base,uF l.prog w K mg base nm ps k F0:=fun base=>by
 obtain⟨f,oc,od,kV,dc,pm,an,cd,ct,sl,h1,h2,h3,h4⟩:=F
 have F:=fun_mk (st:=st) h2 h3 h4
 exact⟨f,_,ok base _ _ (tW F),a0Q X G h1,h4,F.binds hb⟩
theorem kit_ty {D:Addr} {b:Bool} (h:PySem.W.subIn K (.ref D) (.type "ValueError")=some b):PySem.W.kitOne K (.ref D) (.type "ValueError")=some b:=by
 unfold PySem.W.kitOne
 rw[a0j (by simp)]
 unfold PySem.W.kitCls
 dsimp only
 rw[a0d (by first|rfl|decide +kernel)]
 exact h
end
end AL
set_option maxHeartbeats 2000000
namespace Z
open PySem L2 DL AL HX TY PyProof.Rows
def gq (i:Nat):Stmt:=PySem.Challenge.pw_orderatonce_k22_errors_family.main.body.getD i (.Pass ⟨0,0,0,0⟩)
end Z
set_option maxHeartbeats 2000000
namespace Z
open PySem L2 DL AL HX TY PyProof.Rows
section
variable {P:Program} {w:World} {K:PySem.W.Frag} {mg:Str→Option Value} {base:Heap} {f:Addr} {fd:FuncData} {c:CL}
abbrev Bp:Stmt:=gq 14
abbrev RM:List Str:=["_law_script","_law_k","_law_many","_law_cell","_law_great","_law_left","_law_row_here","_law_at"]
theorem lZ:FnScope RM ["_law_script","_law_k","_law_many"] (defScope Bp):=(by trivial)
theorem SQ (FA:gU K "_law_row" "_law_row" Bp f fd) (hB:fG mg)  :
  FnOk P w K mg base (L2.CX P w) 1 f fd ["_law_script","_law_k","_law_many"] (dH K (qH c)):=by
 rw[KR]
 exact Km (g:=vA c) FA lZ rfl fun cdv A outer s H bQ hr tk po=>⟨_,(a0e (eG 3 lZ.nd a0q)
 (a0e (b0r (q_lt (pv 1) (Oe K hB (pv 0))) (a0e (eG 3 lZ.nd (iV hB (mK K hr (pv 0) (pv 1))))
 a0o) a0o)
 (a0e (eG 4 lZ.nd (aay (pv 3) (vX a0q a0q)))
 (a0e (eG 5 lZ.nd (mK K hr (a0T (a0i (jO K (pv 3) (tE a0q (pv 1))) (a0i (Ir (pv 3) (vX a0q a0q)) a0x))) (iV hB (pv 4))))
 (a0e (eG 6 lZ.nd (a0T a0x))
 (a0e (ps_for po rfl (vR hB (pv 2)) (rR 7 lZ.nd) (a0e (b0r (pt_not (HW K (pv 4))) (a0e (eG 5 lZ.nd (jx (iV hB (jO K (jO K (tE (pv 5) a0q) (tE a0q (pv 7))) a0q)) a0q))
 (a0e (eG 5 lZ.nd (jx (iV hB (jO K (jO K (tE (pv 5) a0q) (tE a0q (pv 7))) a0q)) a0q))
 a0o)) a0o)
 (a0e (ps_expr (pe_bm PySem.F.plainAttrs_list PySem.F.slot_list_append PySem.F.type_list_append mt_append (pv 6) (a0i (jx (iV hB (pv 5)) a0q) a0x)))
 (a0e (b0r (HW K (pv 4)) (a0e (eG 5 lZ.nd (tG (pv 5) a0q))
 a0o) a0o)
 a0o))))
 (a0e (b0u (pv 6))
 a0o))))))),(aK (d_ aQ d9)
 (aK (dR (dZ (aO x_lt au (gW x_len (aG au aW)))) (aK (d_ (gW iU (aG (aO lK au au) aW)) d9)
 aX) aX)
 (aK (d_ (aO x_ge au (aO vZ aQ aQ)) d9)
 (aK (d_ (aO lK (fB (dJ (aG (aO jR au (aO tH aQ au)) (aG (aO Iz au (aO vZ aQ aQ)) aW)))) (gW iU (aG au aW))) d9)
 (aK (Ig (dJ aW))
 (aK (Ih (sU (aG au aW)) G3 (aK (dR (Om (Ib au)) (aK (d_ (aO jy (gW iU (aG (aO jR (aO jR (aO tH au aQ) (aO tH aQ au)) aQ) aW)) aQ) d9)
 (aK (d_ (aO jy (gW iU (aG (aO jR (aO jR (aO tH au aQ) (aO tH aQ au)) aQ) aW)) aQ) d9)
 aX)) aX)
 (aK (Hg (Qx Pq au (aG (aO jy (gW iU (aG au aW)) aQ) aW)))
 (aK (dR (Ib au) (aK (d_ (aO tK au aQ) d9)
 aX) aX)
 aX))))
 (aK (qL Pr)
 aX)))))))⟩
abbrev vg:Stmt:=gq 15
abbrev KH:List Str:=["_law_number","_law_many","_law_letters","_law_size","_law_names_here","_law_k","_law_length","_law_name","_law_spot","_law_at"]
theorem lW:FnScope KH ["_law_number","_law_many"] (defScope vg):=(by trivial)
theorem RN (FA:gU K "_law_names" "_law_names" vg f fd) (hB:fG mg)  :
  FnOk P w K mg base (L2.CX P w) 1 f fd ["_law_number","_law_many"] (dH K (qF c)):=by
 rw[KD]
 exact Km (g:=vh c) FA lW rfl fun cdv A outer s H bQ hr tk po=>⟨_,(a0e (eG 2 lW.nd pe_str)
 (a0e (eG 3 lW.nd (jO K a0q (jx (tG (iV hB (pv 0)) a0q) a0q)))
 (a0e (eG 4 lW.nd (a0T a0x))
 (a0e (ps_for po rfl (vR hB (pv 1)) (rR 5 lW.nd) (a0e (eG 6 lW.nd (pv 3))
 (a0e (b0r (lA K hr (jx (iV hB (pv 0)) a0q) a0q) (a0e (eG 6 lW.nd (jO K a0q (jx (jO K (pv 3) (pv 5)) a0q)))
 a0o) a0o)
 (a0e (Q_ 7 [("_law_at",9)] lW.nd (vR hB (pv 6)) (blkOk_by (own:=[("_law_at",9)]) (N:=KH) (sc:=defScope vg) (by trivial)) (fun _ _ _ _ _=>(rR 9 lW.nd)) (fun _ _ _ _ _=>pts_nil) (fun _ _ _ _ _=>(mK K hr (pv 2) (jx (iV hB (jO K (tG (pv 0) a0q) (pv 9))) a0q))))
 (a0e (eG 8 lW.nd (jx (jx (iV hB (tG (pv 0) a0q)) (pv 3)) (pv 6)))
 (a0e (ps_asg (mK K hr (pv 2) (jx (iV hB (jO K (tG (pv 0) a0q) (pv 5))) a0q)) (pg_sub (pv 7) (pv 8) (Xa hr)))
 (a0e (ps_expr (pe_bm PySem.F.plainAttrs_list PySem.F.slot_list_append PySem.F.type_list_append mt_append (pv 4) (a0i (pe_join pe_str (pv 7)) a0x)))
 a0o)))))))
 (a0e (b0u (pv 4))
 a0o))))),(aK (d_ Pb d9)
 (aK (d_ (aO jR aQ (aO jy (aO tK (gW iU (aG au aW)) aQ) aQ)) d9)
 (aK (Ig (dJ aW))
 (aK (Ih (sU (aG au aW)) G3 (aK (d_ au d9)
 (aK (dR (dZ (aO x_eq (aO jy (gW iU (aG au aW)) aQ) aQ)) (aK (d_ (aO jR aQ (aO jy (aO jR au au) aQ)) d9)
 aX) aX)
 (aK (Ig (I_ (sU (aG au aW)) (G5 (i:=9) (by decide)) Ie (aO lK au (aO jy (gW iU (aG (aO jR (aO tK au aQ) au) aW)) aQ))))
 (aK (d_ (aO jy (aO jy (gW iU (aG (aO tK au aQ) aW)) au) au) d9)
 (aK (d_ (aO lK au (aO jy (gW iU (aG (aO jR (aO tK au aQ) au) aW)) aQ)) (Yv au au))
 (aK (Hg (Qx Pq au (aG (Yy Pb au) aW)))
 aX)))))))
 (aK (qL Pr)
 aX)))))⟩
abbrev Bc:Stmt:=gq 16
abbrev RD:List Str:=["_law_at","_law_name","_law_number","_law_row_here"]
theorem Sh:FnScope RD ["_law_at","_law_name","_law_number","_law_row_here"] (defScope Bc):=(by trivial)
theorem Sq (FA:gU K "_law_raise" "_law_raise" Bc f fd) (hB:fG mg) (mj:bA.dF P K mg "BadTable" "name" c.BadTable) (lX:bA.dF P K mg "NoOperation" "name" c.NoOperation) (mF:bA.dF P K mg "NoCell" "name" c.NoCell) (mD:bA.dF P K mg "BadName" "name" c.BadName) (ou:bA.dF P K mg "BadNumber" "number" c.BadNumber) (iK:bA.jM P K mg "BadStep" "name" "at" c.BadStep) (oA:bA.dF P K mg "BadClient" "caller" c.BadClient) (mG:bA.dF P K mg "BadRun" "at" c.BadRun) (oG:bA.lU P K mg "BadRow" "row" c.BadRow) (oN:bA.dF P K mg "Over" "caller" c.Over) (oE:bA.dF P K mg "TooLarge" "bound" c.TooLarge) :
  FnOk P w K mg base (L2N.CX P w) 3 f fd ["_law_at","_law_name","_law_number","_law_row_here"] (dH K (lY c)):=by
 rw[KJ]
 exact aaR (g:=vp c) FA Sh rfl fun cdv A outer s H bQ hr tk=>⟨_,(a0e (b0r (lA K hr (pv 0) a0q) (a0e (nj rfl mj hr (by decide) tk (pv 1))
 a0o) a0o)
 (a0e (b0r (lA K hr (pv 0) a0q) (a0e (nj rfl lX hr (by decide) tk (pv 1))
 a0o) a0o)
 (a0e (b0r (lA K hr (pv 0) a0q) (a0e (nj rfl mF hr (by decide) tk (pv 1))
 a0o) a0o)
 (a0e (b0r (lA K hr (pv 0) a0q) (a0e (nj rfl mD hr (by decide) tk (pv 1))
 a0o) a0o)
 (a0e (b0r (lA K hr (pv 0) a0q) (a0e (nj rfl ou hr (by decide) tk (pv 2))
 a0o) a0o)
 (a0e (b0r (lA K hr (pv 0) a0q) (a0e (U7 rfl iK hr (by decide) tk (pv 1) (pv 2))
 a0o) a0o)
 (a0e (b0r (lA K hr (pv 0) a0q) (a0e (nj rfl oA hr (by decide) tk (pv 2))
 a0o) a0o)
 (a0e (b0r (lA K hr (pv 0) a0q) (a0e (nj rfl mG hr (by decide) tk (pv 2))
 a0o) a0o)
 (a0e (b0r (lA K hr (pv 0) a0q) (a0e (U8 rfl oG hr (by decide) tk (VP K hB (pv 3)))
 a0o) a0o)
 (a0e (b0r (lA K hr (pv 0) a0q) (a0e (nj rfl oN hr (by decide) tk (pv 2))
 a0o) a0o)
 (a0e (nj rfl oE hr (by decide) tk (pv 2))
 a0o))))))))))),(aK (dR (dZ (aO x_eq au aQ)) (aK (nq (aG au aW))
 aX) aX)
 (aK (dR (dZ (aO x_eq au aQ)) (aK (nq (aG au aW))
 aX) aX)
 (aK (dR (dZ (aO x_eq au aQ)) (aK (nq (aG au aW))
 aX) aX)
 (aK (dR (dZ (aO x_eq au aQ)) (aK (nq (aG au aW))
 aX) aX)
 (aK (dR (dZ (aO x_eq au aQ)) (aK (nq (aG au aW))
 aX) aX)
 (aK (dR (dZ (aO x_eq au aQ)) (aK (U4 (aG au (aG au aW)))
 aX) aX)
 (aK (dR (dZ (aO x_eq au aQ)) (aK (nq (aG au aW))
 aX) aX)
 (aK (dR (dZ (aO x_eq au aQ)) (aK (nq (aG au aW))
 aX) aX)
 (aK (dR (dZ (aO x_eq au aQ)) (aK (U6 (aG (fB (ZS W9 (aG au aW))) aW))
 aX) aX)
 (aK (dR (dZ (aO x_eq au aQ)) (aK (nq (aG au aW))
 aX) aX)
 (aK (nq (aG au aW))
 aX)))))))))))⟩
abbrev Ak:Stmt:=gq 18
abbrev Rz:List Str:=["_law_e","_law_at"]
theorem RP:FnScope Rz ["_law_e","_law_at"] (defScope Ak):=(by trivial)
theorem RQ {a C d:Addr} (FA:gU K "_law_fields" "_law_fields" Ak f fd) (hB:fG mg) (mj:bA.dF P K mg "BadTable" "name" c.BadTable) (lX:bA.dF P K mg "NoOperation" "name" c.NoOperation) (mF:bA.dF P K mg "NoCell" "name" c.NoCell) (mD:bA.dF P K mg "BadName" "name" c.BadName) (iK:bA.jM P K mg "BadStep" "name" "at" c.BadStep) (ou:bA.dF P K mg "BadNumber" "number" c.BadNumber) (mG:bA.dF P K mg "BadRun" "at" c.BadRun) (oA:bA.dF P K mg "BadClient" "caller" c.BadClient) (oN:bA.dF P K mg "Over" "caller" c.Over) (oG:bA.lU P K mg "BadRow" "row" c.BadRow) (oE:bA.dF P K mg "TooLarge" "bound" c.TooLarge) :
  pB P w K mg base (L2.CX P w) 1 f fd ["_law_e","_law_at"] a C d (dH K (fK c a C d)):=by
 rw[jN]
 exact QH (g:=Cd c a C d) FA RP rfl fun cdv A outer s H bQ p hr hp ht=>⟨_,(a0e (b0r (Z7 K (Wh hr) (pv 1) (a0T (a0i a0q (a0i a0q (a0i a0q (a0i a0q a0x)))))) (a0e (b0u (a0T (a0i (oK (ak ⟨mj.xf,mj.no⟩ (ak ⟨lX.xf,lX.no⟩ (ak ⟨mF.xf,mF.no⟩ (ak ⟨mD.xf,mD.no⟩ (ak ⟨iK.xf,iK.no⟩ eO))))) hp ht (pv 0)) a0x)))
 a0o) a0o)
 (a0e (b0r (qR K (qJ hr) (pv 1) a0q) (a0e (b0u (a0T (a0i (oK (ak ⟨ou.xf,ou.no⟩ eO) hp ht (pv 0)) a0x)))
 a0o) a0o)
 (a0e (b0r (qR K (qJ hr) (pv 1) a0q) (a0e (b0u (a0T (a0i (oK (ak ⟨mj.xf,mj.no⟩ (ak ⟨lX.xf,lX.no⟩ (ak ⟨mF.xf,mF.no⟩ (ak ⟨mD.xf,mD.no⟩ (ak ⟨iK.xf,iK.no⟩ eO))))) hp ht (pv 0)) (a0i (oK (ak ⟨iK.xf,iK.Q9⟩ (ak ⟨mG.xf,mG.no⟩ eO)) hp ht (pv 0)) a0x))))
 a0o) a0o)
 (a0e (b0r (PW.pt (pw_or (qR K (qJ hr) (pv 1) a0q) (pw_or1 (qR K (qJ hr) (pv 1) a0q)))) (a0e (b0u (a0T (a0i (oK (ak ⟨oA.xf,oA.no⟩ (ak ⟨oN.xf,oN.no⟩ eO)) hp ht (pv 0)) a0x)))
 a0o) a0o)
 (a0e (b0r (qR K (qJ hr) (pv 1) a0q) (a0e (b0u (a0T (a0i (oK (ak ⟨iK.xf,iK.Q9⟩ (ak ⟨mG.xf,mG.no⟩ eO)) hp ht (pv 0)) a0x)))
 a0o) a0o)
 (a0e (b0r (qR K (qJ hr) (pv 1) a0q) (a0e (b0u (a0T (a0i (oK (ak ⟨oG.xf,oG.no⟩ eO) hp ht (pv 0)) a0x)))
 a0o) a0o)
 (a0e (b0u (a0T (a0i (oK (ak ⟨oE.xf,oE.no⟩ eO) hp ht (pv 0)) a0x)))
 a0o))))))),(aK (dR (dZ (aO aaJ au (fB (dJ (aG aQ (aG aQ (aG aQ (aG aQ aW)))))))) (aK (oH (dJ (aG (oV au) aW)))
 aX) aX)
 (aK (dR (dZ (aO x_eq au aQ)) (aK (oH (dJ (aG (oV au) aW)))
 aX) aX)
 (aK (dR (dZ (aO x_eq au aQ)) (aK (oH (dJ (aG (oV au) (aG (oV au) aW))))
 aX) aX)
 (aK (dR (Pk (dZ (aO x_eq au aQ)) (dZ (aO x_eq au aQ))) (aK (oH (dJ (aG (oV au) aW)))
 aX) aX)
 (aK (dR (dZ (aO x_eq au aQ)) (aK (oH (dJ (aG (oV au) aW)))
 aX) aX)
 (aK (dR (dZ (aO x_eq au aQ)) (aK (oH (dJ (aG (oV au) aW)))
 aX) aX)
 (aK (oH (dJ (aG (oV au) aW)))
 aX)))))))⟩
abbrev zP:Stmt:=gq 17
abbrev Rw:List Str:=["_law_e"]
theorem RG:FnScope Rw ["_law_e"] (defScope zP):=(by trivial)
theorem RJ {a C d:Addr} (FA:gU K "_law_classes" "_law_classes" zP f fd) (hB:fG mg) (DR:mg "BadTable"=some (.ref c.BadTable)) (BZ:mg "NoOperation"=some (.ref c.NoOperation)) (G6:mg "NoCell"=some (.ref c.NoCell)) (Fw:mg "BadName"=some (.ref c.BadName)) (C_:mg "BadNumber"=some (.ref c.BadNumber)) (Fx:mg "BadStep"=some (.ref c.BadStep)) (Dc:mg "BadClient"=some (.ref c.BadClient)) (G7:mg "BadRun"=some (.ref c.BadRun)) (G8:mg "BadRow"=some (.ref c.BadRow)) (Ip:mg "Over"=some (.ref c.Over)) (DW:mg "TooLarge"=some (.ref c.TooLarge)) (gR:(∀D C b,fV (bx c) D C=some b→eY K D∧PySem.W.kitOne K (.ref D) (.ref C)=some b)∧∀D b,subT (bx c) D "ValueError"=some b→eY K D∧PySem.W.kitOne K (.ref D) (.type "ValueError")=some b) :
  pB P w K mg base (L2.CX P w) 1 f fd ["_law_e"] a C d (dH K (pC c a C d)):=by
 rw[KC]
 exact QH (g:=BX c a C d) FA RG rfl fun cdv A outer s H bQ p hr hp ht=>⟨_,(a0e (b0u (a0T (a0i (lg K hp ht hB (pv 0) (kY DR)) (a0i (lg K hp ht hB (pv 0) (kY BZ)) (a0i (lg K hp ht hB (pv 0) (kY G6)) (a0i (lg K hp ht hB (pv 0) (kY Fw)) (a0i (lg K hp ht hB (pv 0) (kY C_)) (a0i (lg K hp ht hB (pv 0) (kY Fx)) (a0i (lg K hp ht hB (pv 0) (kY Dc)) (a0i (lg K hp ht hB (pv 0) (kY G7)) (a0i (lg K hp ht hB (pv 0) (kY G8)) (a0i (lg K hp ht hB (pv 0) (kY Ip)) (a0i (lg K hp ht hB (pv 0) (kY DW)) a0x)))))))))))))
 a0o),(aK (oH (dJ (aG (lF gR.1 au lC) (aG (lF gR.1 au lC) (aG (lF gR.1 au lC) (aG (lF gR.1 au lC) (aG (lF gR.1 au lC) (aG (lF gR.1 au lC) (aG (lF gR.1 au lC) (aG (lF gR.1 au lC) (aG (lF gR.1 au lC) (aG (lF gR.1 au lC) (aG (lF gR.1 au lC) aW)))))))))))))
 aX)⟩
abbrev oh:Stmt:=gq 19
abbrev Ce:List Str:=["_law_script","_law_row_here","_law_name","_law_number","_law_tail","_law_at","_law_fields_here","_law_caught","_law_k","_law_e"]
theorem h_:FnScope Ce ["_law_script"] (defScope oh):=(by trivial)
theorem TX (FA:gU K "law" "law" oh f fd) (hB:fG mg) (DY:Cal P w K mg base "_law_row" ["_law_script","_law_k","_law_many"] 1 (dH K (qH c))) (Cg:Cal P w K mg base "_law_names" ["_law_number","_law_many"] 1 (dH K (qF c))) (Ci:JB P w K mg base "_law_raise" ["_law_at","_law_name","_law_number","_law_row_here"] 3 (dH K (lY c))) (Cj:mg "OrderError"=some (.ref c.OrderError)) (B_:uF P w K mg base "_law_fields" ["_law_e","_law_at"] 1 (fK c)) (Bq:uF P w K mg base "_law_classes" ["_law_e"] 1 (pC c)) (Ck:∀C b,rW (bx c) C=some b→PySem.W.exmOne K (.ref C) (.ref c.OrderError)=some b) (gR:(∀D C b,fV (bx c) D C=some b→eY K D∧PySem.W.kitOne K (.ref D) (.ref C)=some b)∧∀D b,subT (bx c) D "ValueError"=some b→eY K D∧PySem.W.kitOne K (.ref D) (.type "ValueError")=some b) :
  FnOk P w K mg base (L2.CX P w) 5 f fd ["_law_script"] (dH K (sH c)):=by
 rw[KZ]
 exact YC (Km (g:=vG c) FA h_ rfl fun cdv A outer s H bQ hr tk po=>⟨_,(a0e (eG 1 h_.nd (Oc DY hr (by decide) tk (a0i (pv 0) (a0i a0q (a0i a0q a0x)))))
 (a0e (eG 2 h_.nd (mK K hr (Oc Cg hr (by decide) tk (a0i (mK K hr (pv 1) a0q) (a0i a0q a0x))) a0q))
 (a0e (eG 3 h_.nd (Ir (iV hB (mK K hr (pv 1) a0q)) a0q))
 (a0e (b0r (aaz (Oe K hB (pv 0)) a0q) (a0e (eG 3 h_.nd (Ir (jx (iV hB (mK K hr (pv 0) a0q)) (vX a0q a0q)) (vX a0q a0q)))
 a0o) a0o)
 (a0e (Q_ 4 [("_law_k",8)] h_.nd (Yo hB a0q (jO K a0q (jx (iV hB (mK K hr (pv 1) a0q)) a0q))) (blkOk_by (own:=[("_law_k",8)]) (N:=Ce) (sc:=defScope oh) (by trivial)) (fun _ _ _ _ _=>(rR 8 h_.nd)) (fun _ _ _ _ _=>pts_nil) (fun _ _ _ _ _=>(jx (iV hB (mK K hr (pv 1) (pv 8))) a0q)))
 (a0e (ps_for po rfl (vR hB a0q) (rR 5 h_.nd) (a0e (eG 6 h_.nd (a0T (a0i (a0T (a0i (pv 2) a0x)) (a0i (a0T (a0i (pv 2) a0x)) (a0i (a0T (a0i (pv 2) a0x)) (a0i (a0T (a0i (pv 2) a0x)) (a0i (a0T (a0i (pv 3) a0x)) (a0i (a0T (a0i (pv 2) (a0i (pv 3) a0x))) (a0i (a0T (a0i (pv 3) a0x)) (a0i (a0T (a0i (pv 3) a0x)) (a0i (a0T (a0i (pv 4) a0x)) (a0i (a0T (a0i (pv 3) a0x)) a0x))))))))))))
 (a0e (eG 6 h_.nd (jO K (pv 6) (a0T (a0i (a0T (a0i (pv 3) a0x)) a0x))))
 (a0e (eG 7 h_.nd a0q)
 (a0e (Xn rfl rfl h_.nd tk (fun _ _ _ tk1 po1=>(a0e (ps_expr (Xo Ci hr (by decide) tk1 (a0i (pv 5) (a0i (pv 2) (a0i (pv 3) (a0i (pv 4) a0x))))))
 a0o))
 (.as (i:=9) ⟨by rfl,by decide,.inl Cj⟩ rfl rfl (fun _ _ _ _ _ hz hf=>(a0e (eG 7 h_.nd a0q)
 (a0e (b0r (PW.pt (pw_or (pt_not (HW K (ZK K hz.zc hf hB (pv 9) (Z9 hB)))) (pw_or1 (PB K hr.units (Ny K B_ hr (by decide) hz hf (a0i (pv 9) (a0i (pv 5) a0x))) (Z8 K (Wg hr) (pv 6) (pv 5)))))) (a0e (b0u pe_bl)
 a0o) a0o)
 (a0e (b0r (PB K hr.units (Ny K Bq hr (by decide) hz hf (a0i (pv 9) a0x)) (YF (own:=[("_law_k",8)]) (U_ hz hf) a0v h_.nd (YJ hB a0q) (blkOk_by (own:=[("_law_k",8)]) (N:=Ce) (sc:=defScope oh) (by trivial)) (fun _ _ _ _ _=>(rR 8 h_.nd)) (fun _ _ _ _ _=>pts_nil) (fun _ _ _ _ _=>(Z4 K hr.units (pv 8) (pv 5))))) (a0e (b0u pe_bl)
 a0o) a0o)
 a0o)))) .nil))
 (a0e (b0r (ZD K hr (pv 7) a0q) (a0e (b0u pe_bl)
 a0o) a0o)
 a0o))))))
 (a0e (b0u pe_bl)
 a0o))))))),(aK (d_ (x_call (aG au (aG aQ (aG aQ aW)))) d9)
 (aK (d_ (aO lK (x_call (aG (aO lK au aQ) (aG aQ aW))) aQ) d9)
 (aK (d_ (aO Iz (gW iU (aG (aO lK au aQ) aW)) aQ) d9)
 (aK (dR (dZ (aO aaI (gW x_len (aG au aW)) aQ)) (aK (d_ (aO Iz (aO jy (gW iU (aG (aO lK au aQ) aW)) (aO vZ aQ aQ)) (aO vZ aQ aQ)) d9)
 aX) aX)
 (aK (d_ (fB (I_ (Xf (aG aQ (aG (aO jR aQ (aO jy (gW iU (aG (aO lK au aQ) aW)) aQ)) aW))) (G5 (i:=8) (by decide)) Ie (aO jy (gW iU (aG (aO lK au au) aW)) aQ))) d9)
 (aK (Ih (sU (aG aQ aW)) G3 (aK (d_ (fB (dJ (aG (fB (dJ (aG au aW))) (aG (fB (dJ (aG au aW))) (aG (fB (dJ (aG au aW))) (aG (fB (dJ (aG au aW))) (aG (fB (dJ (aG au aW))) (aG (fB (dJ (aG au (aG au aW)))) (aG (fB (dJ (aG au aW))) (aG (fB (dJ (aG au aW))) (aG (fB (dJ (aG au aW))) (aG (fB (dJ (aG au aW))) aW)))))))))))) d9)
 (aK (d_ (aO jR au (fB (dJ (aG (fB (dJ (aG au aW))) aW)))) d9)
 (aK (d_ aQ d9)
 (aK (Yx (fun _=>(aK (Hg (x_call (aG au (aG au (aG au (aG au aW))))))
 aX)) (.cons ⟨Ck,rfl,fun x a d=>(by dsimp only;exact(aK (d_ aQ d9)
 (aK (dR (Pk (Om (Ib (Z_ gR.2 au))) (dZ (aO Jt (fB (Nz (aG au (aG au aW)))) (aO lK au au)))) (aK (qL wz)
 aX) aX)
 (aK (dR (dZ (aO Jt (fB (Nz (aG au aW))) (fB (I_ (sU (aG aQ aW)) (G5 (i:=8) (by decide)) Ie (aO x_eq au au))))) (aK (qL wz)
 aX) aX)
 aX))))⟩ .nil))
 (aK (dR (dZ (aO Jt au aQ)) (aK (qL wz)
 aX) aX)
 aX))))))
 (aK (qL wz)
 aX)))))))⟩)
end
end Z
set_option maxHeartbeats 2000000
namespace TY
open PySem L2 DL AL HX PyProof.Rows
section
variable {ρ:Type} {Fin:ρ→Rs→Prop} {n i:Nat} {p p1:En} {h h1:List Ob} {A B:S} {tt:M Bool} {t:Option ρ} {u:List Sv→List Sv} {C a d:Addr} {fs:List Str} {es ds:List D} {L Cs:List Addr} {fa:M (List R)} {rs:List R} {o:Ob}
theorem O7:J Fin n B p h (none:Option ρ):=fun s m v e=>nomatch e
theorem jF (H:EV n p h tt false id p h) (K:J Fin n B p h t):J Fin n (aq (bL tt A aM) B) p h t:=jG (b:=false) (t1:=none) H O7 (jX K)
theorem jT (H:EV n p h tt true id p h) (K:J Fin n (aq A B) p h t):J Fin n (aq (bL tt A aM) B) p h t:=jG (b:=true) (t2:=none) H K O7
theorem jQ {nm:Str} {v:D} (hC:C∈Cs) (e:lk p i=some (.v (.d (.exc a C d fs es)))) (hl:(fs.zip es).lookup nm=some v):EV n p h (jW a C Cs d nm (eV i)) (.d v) id p h:=by
 unfold jW;rw[a0d hC];exact aap e hl
theorem j9 {B:Addr} (hC:C∈L) (hB:B∈L) (e:lk p i=some (.v (.d (.exc a C d fs es)))):EV n p h (jE (fV L) a C d (eV i) (eC (.ref B))) (.d (.bl (decide (C=B)))) id p h:=pK (aF (aH e) (aF aR aU)) fun _ _=>by
 have:fV L C B=some (decide (C=B)):=a0d ⟨hC,hB⟩
 simp[this]
theorem Wv {T:String} (hC:C∈L) (e:lk p i=some (.v (.d (.exc a C d fs es)))):EV n p h (wG (subT L) a C d T (eV i)) (.d (.bl true)) id p h:=pK (aF (aH e) (aF aR aU)) fun _ _=>by
 have:subT L C T=some true:=a0d hC
 simp[this]
theorem Mg {F:Fn} (hf:EV n p h fa rs id p h) (hw:rs.all iD=true) (hF:F rs h=some (.ret (.n o),h)):EV n p h (oM F fa) o id p h:=fun s m=>⟨by
 unfold oM
 rw[iw (hf s m).1]
 unfold rN tL
 rw[a0d hw]
 dsimp only
 rw[show F rs (ST.h ⟨id s,h⟩)=_ from hF],m⟩
end
theorem Vc {F:Fn} {rs:List R} {h h1:List Ob} {x:XD} {s:List Sv} (hw:rs.all iD=true) (hF:F rs h=some (.exc x,h1)):qQ F rs ⟨s,h⟩=some (.ex x ⟨s,h1⟩):=by
 unfold qQ
 rw[a0d hw]
 dsimp only
 rw[hF]
theorem Zj {m:Addr→Option Bool} {i:Nat} {g:XD→Addr→Addr→S} {r:List Hd} {x:XD} {st:ST} (h:m x.C=some true):hdl (⟨m,some i,g⟩::r) x st=pU (fun a d st=>(g x a d ⟨st.s.set i (.v (.d (.exc a x.C d x.fs x.ds))),st.h⟩).map (Jx i)) st:=by
 unfold hdl
 dsimp only
 rw[h]
def F22 (name:Str) (number:Int) (tail:List Int):List D:=[(D.lst [D.str name]),(D.lst [D.str name]),(D.lst [D.str name]),(D.lst [D.str name]),(D.lst [D.int number]),(D.lst [D.str name,D.int number]),(D.lst [D.int number]),(D.lst [D.int number]),(D.lst [(vL D.int) tail]),(D.lst [D.int number]),(D.lst [D.int number])]
theorem dw {n:Nat} {p:En} {h:List Ob} {a c:Int} {b:Bool} (i:Nat) (e:lk p i=some (.v (.d (.int a)))) (hb:decide (a=c)=b):EV n p h (tF (eB (aJ (kEq false)) (eV i) (eC (.int c)))) b id p h:=by
 rw[← hb]
 exact fM (aP (aH e) aR ju)
theorem in4 {n:Nat} {p:En} {h:List Ob} {a:Int} {b:Bool} (i:Nat) (e:lk p i=some (.v (.d (.int a)))) (hb:decide (a∈[(0:Int),1,2,3])=b):EV n p h (tF (eB (kIn false) (eV i) (dG (dh (aC (eC (.int 0)) (aC (eC (.int 1)) (aC (eC (.int 2)) (aC (eC (.int 3)) aN)))))))) b id p h:=by
 rw[← hb]
 exact fM (aP (aH e) (fj (cZ (aF aR (aF aR (aF aR (aF aR aU)))) rfl rfl) rfl) (Xu (ss:=[0,1,2,3])))
theorem N_ (c:CL):c.BadTable∈bx c∧c.NoOperation∈bx c∧c.NoCell∈bx c∧c.BadName∈bx c∧c.BadNumber∈bx c∧c.BadStep∈bx c∧c.BadClient∈bx c∧c.BadRun∈bx c∧c.BadRow∈bx c∧c.Over∈bx c∧c.TooLarge∈bx c:=by
 unfold bx;simp
theorem Vd {c:CL} {a C d:Addr} {fs:List Str} {es:List D} {h:List Ob} (hC:C∈bx c):pC c a C d [.d (.exc a C d fs es)] h=some (.ret (.n (.lst ((bx c).map fun B=>D.bl (decide (C=B))))),h):=by
 obtain⟨m0,m1,m2,m3,m4,m5,m6,m7,m8,m9,m10⟩:=N_ c
 rw[KC]
 refine fn_of (p:=[(0,some (.v (.d (.exc a C d fs es))))]) (out:=fun(_:Unit)=>((.ret (.n (.lst ((bx c).map fun B=>D.bl (decide (C=B))))):Ot),h)) (gM rfl rfl) rfl (v:=()) (t:=some ()) ?_ rfl
 exact jP (cZ (aF (j9 hC m0 rfl) (aF (j9 hC m1 rfl) (aF (j9 hC m2 rfl) (aF (j9 hC m3 rfl) (aF (j9 hC m4 rfl) (aF (j9 hC m5 rfl) (aF (j9 hC m6 rfl) (aF (j9 hC m7 rfl) (aF (j9 hC m8 rfl) (aF (j9 hC m9 rfl) (aF (j9 hC m10 rfl) aU))))))))))) rfl rfl) fun s m=>rfl
theorem Ww {c:CL} {a d:Addr} {h:List Ob} {name:Str} {number:Int} {tail:List Int}:fK c a c.BadTable d [.d (.exc a c.BadTable d (EC.fs .BadTable) [D.str name]),.d (.int 0)] h=some (.ret (.n (.lst [D.str name])),h):=by
 rw[jN]
 exact fn_of (p:=[(0,some (.v (.d (.exc a c.BadTable d (EC.fs .BadTable) [D.str name])))),(1,some (.v (.d (.int 0))))]) (out:=fun(_:Unit)=>((.ret (.n (.lst [D.str name])):Ot),h)) (gM rfl rfl) rfl (v:=()) (t:=some ()) (jT (in4 1 rfl (by decide)) (eU (jP (cZ (aF (jQ (by simp) rfl (jV rfl)) aU) rfl rfl) fun s m=>rfl))) rfl
theorem Wx {c:CL} {a d:Addr} {h:List Ob} {name:Str} {number:Int} {tail:List Int}:fK c a c.NoOperation d [.d (.exc a c.NoOperation d (EC.fs .NoOperation) [D.str name]),.d (.int 1)] h=some (.ret (.n (.lst [D.str name])),h):=by
 rw[jN]
 exact fn_of (p:=[(0,some (.v (.d (.exc a c.NoOperation d (EC.fs .NoOperation) [D.str name])))),(1,some (.v (.d (.int 1))))]) (out:=fun(_:Unit)=>((.ret (.n (.lst [D.str name])):Ot),h)) (gM rfl rfl) rfl (v:=()) (t:=some ()) (jT (in4 1 rfl (by decide)) (eU (jP (cZ (aF (jQ (by simp) rfl (jV rfl)) aU) rfl rfl) fun s m=>rfl))) rfl
theorem Wy {c:CL} {a d:Addr} {h:List Ob} {name:Str} {number:Int} {tail:List Int}:fK c a c.NoCell d [.d (.exc a c.NoCell d (EC.fs .NoCell) [D.str name]),.d (.int 2)] h=some (.ret (.n (.lst [D.str name])),h):=by
 rw[jN]
 exact fn_of (p:=[(0,some (.v (.d (.exc a c.NoCell d (EC.fs .NoCell) [D.str name])))),(1,some (.v (.d (.int 2))))]) (out:=fun(_:Unit)=>((.ret (.n (.lst [D.str name])):Ot),h)) (gM rfl rfl) rfl (v:=()) (t:=some ()) (jT (in4 1 rfl (by decide)) (eU (jP (cZ (aF (jQ (by simp) rfl (jV rfl)) aU) rfl rfl) fun s m=>rfl))) rfl
theorem Wz {c:CL} {a d:Addr} {h:List Ob} {name:Str} {number:Int} {tail:List Int}:fK c a c.BadName d [.d (.exc a c.BadName d (EC.fs .BadName) [D.str name]),.d (.int 3)] h=some (.ret (.n (.lst [D.str name])),h):=by
 rw[jN]
 exact fn_of (p:=[(0,some (.v (.d (.exc a c.BadName d (EC.fs .BadName) [D.str name])))),(1,some (.v (.d (.int 3))))]) (out:=fun(_:Unit)=>((.ret (.n (.lst [D.str name])):Ot),h)) (gM rfl rfl) rfl (v:=()) (t:=some ()) (jT (in4 1 rfl (by decide)) (eU (jP (cZ (aF (jQ (by simp) rfl (jV rfl)) aU) rfl rfl) fun s m=>rfl))) rfl
theorem WD {c:CL} {a d:Addr} {h:List Ob} {name:Str} {number:Int} {tail:List Int}:fK c a c.BadNumber d [.d (.exc a c.BadNumber d (EC.fs .BadNumber) [D.int number]),.d (.int 4)] h=some (.ret (.n (.lst [D.int number])),h):=by
 rw[jN]
 exact fn_of (p:=[(0,some (.v (.d (.exc a c.BadNumber d (EC.fs .BadNumber) [D.int number])))),(1,some (.v (.d (.int 4))))]) (out:=fun(_:Unit)=>((.ret (.n (.lst [D.int number])):Ot),h)) (gM rfl rfl) rfl (v:=()) (t:=some ()) (jF (in4 1 rfl (by decide)) (jT (dw 1 rfl (by decide)) (eU (jP (cZ (aF (jQ (by simp) rfl (jV rfl)) aU) rfl rfl) fun s m=>rfl)))) rfl
theorem WK {c:CL} {a d:Addr} {h:List Ob} {name:Str} {number:Int} {tail:List Int}:fK c a c.BadStep d [.d (.exc a c.BadStep d (EC.fs .BadStep) [D.str name,D.int number]),.d (.int 5)] h=some (.ret (.n (.lst [D.str name,D.int number])),h):=by
 rw[jN]
 exact fn_of (p:=[(0,some (.v (.d (.exc a c.BadStep d (EC.fs .BadStep) [D.str name,D.int number])))),(1,some (.v (.d (.int 5))))]) (out:=fun(_:Unit)=>((.ret (.n (.lst [D.str name,D.int number])):Ot),h)) (gM rfl rfl) rfl (v:=()) (t:=some ()) (jF (in4 1 rfl (by decide)) (jF (dw 1 rfl (by decide)) (jT (dw 1 rfl (by decide)) (eU (jP (cZ (aF (jQ (by simp) rfl (jV rfl)) (aF (jQ (by simp) rfl (aaq rfl rfl)) aU)) rfl rfl) fun s m=>rfl))))) rfl
theorem WL {c:CL} {a d:Addr} {h:List Ob} {name:Str} {number:Int} {tail:List Int}:fK c a c.BadClient d [.d (.exc a c.BadClient d (EC.fs .BadClient) [D.int number]),.d (.int 6)] h=some (.ret (.n (.lst [D.int number])),h):=by
 rw[jN]
 exact fn_of (p:=[(0,some (.v (.d (.exc a c.BadClient d (EC.fs .BadClient) [D.int number])))),(1,some (.v (.d (.int 6))))]) (out:=fun(_:Unit)=>((.ret (.n (.lst [D.int number])):Ot),h)) (gM rfl rfl) rfl (v:=()) (t:=some ()) (jF (in4 1 rfl (by decide)) (jF (dw 1 rfl (by decide)) (jF (dw 1 rfl (by decide)) (jT (qM (dw 1 rfl (b:=true) (by decide)) (dw 1 rfl (b:=false) (by decide))) (eU (jP (cZ (aF (jQ (by simp) rfl (jV rfl)) aU) rfl rfl) fun s m=>rfl)))))) rfl
theorem WM {c:CL} {a d:Addr} {h:List Ob} {name:Str} {number:Int} {tail:List Int}:fK c a c.BadRun d [.d (.exc a c.BadRun d (EC.fs .BadRun) [D.int number]),.d (.int 7)] h=some (.ret (.n (.lst [D.int number])),h):=by
 rw[jN]
 exact fn_of (p:=[(0,some (.v (.d (.exc a c.BadRun d (EC.fs .BadRun) [D.int number])))),(1,some (.v (.d (.int 7))))]) (out:=fun(_:Unit)=>((.ret (.n (.lst [D.int number])):Ot),h)) (gM rfl rfl) rfl (v:=()) (t:=some ()) (jF (in4 1 rfl (by decide)) (jF (dw 1 rfl (by decide)) (jF (dw 1 rfl (by decide)) (jF (qM (dw 1 rfl (b:=false) (by decide)) (dw 1 rfl (b:=false) (by decide))) (jT (dw 1 rfl (by decide)) (eU (jP (cZ (aF (jQ (by simp) rfl (jV rfl)) aU) rfl rfl) fun s m=>rfl))))))) rfl
theorem WQ {c:CL} {a d:Addr} {h:List Ob} {name:Str} {number:Int} {tail:List Int}:fK c a c.BadRow d [.d (.exc a c.BadRow d (EC.fs .BadRow) [(vL D.int) tail]),.d (.int 8)] h=some (.ret (.n (.lst [(vL D.int) tail])),h):=by
 rw[jN]
 exact fn_of (p:=[(0,some (.v (.d (.exc a c.BadRow d (EC.fs .BadRow) [(vL D.int) tail])))),(1,some (.v (.d (.int 8))))]) (out:=fun(_:Unit)=>((.ret (.n (.lst [(vL D.int) tail])):Ot),h)) (gM rfl rfl) rfl (v:=()) (t:=some ()) (jF (in4 1 rfl (by decide)) (jF (dw 1 rfl (by decide)) (jF (dw 1 rfl (by decide)) (jF (qM (dw 1 rfl (b:=false) (by decide)) (dw 1 rfl (b:=false) (by decide))) (jF (dw 1 rfl (by decide)) (jT (dw 1 rfl (by decide)) (eU (jP (cZ (aF (jQ (by simp) rfl (jV rfl)) aU) rfl rfl) fun s m=>rfl)))))))) rfl
theorem WR {c:CL} {a d:Addr} {h:List Ob} {name:Str} {number:Int} {tail:List Int}:fK c a c.Over d [.d (.exc a c.Over d (EC.fs .Over) [D.int number]),.d (.int 9)] h=some (.ret (.n (.lst [D.int number])),h):=by
 rw[jN]
 exact fn_of (p:=[(0,some (.v (.d (.exc a c.Over d (EC.fs .Over) [D.int number])))),(1,some (.v (.d (.int 9))))]) (out:=fun(_:Unit)=>((.ret (.n (.lst [D.int number])):Ot),h)) (gM rfl rfl) rfl (v:=()) (t:=some ()) (jF (in4 1 rfl (by decide)) (jF (dw 1 rfl (by decide)) (jF (dw 1 rfl (by decide)) (jT (qM (dw 1 rfl (b:=false) (by decide)) (dw 1 rfl (b:=true) (by decide))) (eU (jP (cZ (aF (jQ (by simp) rfl (jV rfl)) aU) rfl rfl) fun s m=>rfl)))))) rfl
theorem Ve {c:CL} {a d:Addr} {h:List Ob} {name:Str} {number:Int} {tail:List Int}:fK c a c.TooLarge d [.d (.exc a c.TooLarge d (EC.fs .TooLarge) [D.int number]),.d (.int 10)] h=some (.ret (.n (.lst [D.int number])),h):=by
 rw[jN]
 exact fn_of (p:=[(0,some (.v (.d (.exc a c.TooLarge d (EC.fs .TooLarge) [D.int number])))),(1,some (.v (.d (.int 10))))]) (out:=fun(_:Unit)=>((.ret (.n (.lst [D.int number])):Ot),h)) (gM rfl rfl) rfl (v:=()) (t:=some ()) (jF (in4 1 rfl (by decide)) (jF (dw 1 rfl (by decide)) (jF (dw 1 rfl (by decide)) (jF (qM (dw 1 rfl (b:=false) (by decide)) (dw 1 rfl (b:=false) (by decide))) (jF (dw 1 rfl (by decide)) (jF (dw 1 rfl (by decide)) (jP (cZ (aF (jQ (by simp) rfl (jV rfl)) aU) rfl rfl) fun s m=>rfl))))))) rfl
theorem Zk:mV (0:Int) (11:Int)=some [0,1,2,3,4,5,6,7,8,9,10]:=by decide +kernel
theorem kE {c:CL} {at_ number:Int} {name:Str} {tail:List Int} {p:En} {h:List Ob} {s:List Sv} {X:EC} {ds fl:List D} (m:cC 10 p s)
  (l2:lk p 2=some (.v (.d (D.str name)))) (l3:lk p 3=some (.v (.d (D.int number)))) (l4:lk p 4=some (.v (.d ((vL D.int) tail)))) (l5:lk p 5=some (.v (.d (D.int at_)))) (l6:lk p 6=some (.v (.d ((vL (fun d=>d)) (F22 name number tail))))) (l8:lk p 8=some .no) (l9:lk p 9=some .no)
  (hr:bD at_ name number tail=some (.error ⟨X,ds⟩)) (hL:c.at X∈bx c) (hf:∀a d,fK c a (c.at X) d [.d (.exc a (c.at X) d X.fs ds),.d (.int at_)] h=some (.ret (.n (.lst fl)),h))
  (hi:atI (F22 name number tail) at_=some (D.lst fl)) (he:n_ (.lst fl) (.lst fl)=some true)
  (hb:(bx c).map (fun B=>D.bl (decide (c.at X=B)))=[0,1,2,3,4,5,6,7,8,9,10].map fun k:Int=>D.bl (decide (k=at_)))
  (hq:n_ (.lst ([0,1,2,3,4,5,6,7,8,9,10].map fun k:Int=>D.bl (decide (k=at_)))) (.lst ([0,1,2,3,4,5,6,7,8,9,10].map fun k:Int=>D.bl (decide (k=at_))))=some true) :
  Hv c ⟨s,h⟩=some (.nx ⟨(s.set 7 (.v (.d (.int 1)))).set 9 .no,h⟩):=by
 have hF:lY c [.d (D.int at_),.d (D.str name),.d (D.int number),.d ((vL D.int) tail)] h=some (.exc ⟨c.at X,X.fs,ds⟩,h):=SN hr
 have e1:(aq (lD (lE (lY c) (aC (eV 5) (aC (eV 2) (aC (eV 3) (aC (eV 4) aN)))))) aM) ⟨s,h⟩=some (.ex ⟨c.at X,X.fs,ds⟩ ⟨s,h⟩):=by
  have e0:=(aF (aH (h:=h) l5) (aF (aH l2) (aF (aH l3) (aF (aH l4) aU))) s m).1
  have e2:lE (lY c) (aC (eV 5) (aC (eV 2) (aC (eV 3) (aC (eV 4) aN)))) ⟨s,h⟩=some (.ex ⟨c.at X,X.fs,ds⟩ ⟨s,h⟩):=by
   unfold lE
   rw[iw e0]
   exact Vc rfl hF
  refine vW ?_
  unfold lD
  rw[e2]
 show rC _ _ ⟨s,h⟩=_
 unfold rC
 rw[e1]
 dsimp only
 refine(Zj (show rW (bx c) (XD.C ⟨c.at X,X.fs,ds⟩)=some true from a0d hL)).trans (Xg fun a d=>?_)
 have m9:=m.set (i:=9) rfl (.v (.d (.exc a (c.at X) d X.fs ds)))
 generalize hp9:((9,some (.v (.d (.exc a (c.at X) d X.fs ds))))::p:En)=p9 at m9
 have k9:lk p9 9=some (.v (.d (.exc a (c.at X) d X.fs ds))):=by rw[← hp9];rfl
 have q5:lk p9 5=some (.v (.d (D.int at_))):=by rw[← hp9];exact l5
 have q6:lk p9 6=some (.v (.d ((vL (fun d=>d)) (F22 name number tail)))):=by rw[← hp9];exact l6
 have q8:lk p9 8=some .no:=by rw[← hp9];exact l8
 have m7:=m9.set (i:=7) rfl (.v (.d (.int 1)))
 generalize wW:((7,some (.v (.d (.int 1))))::p9:En)=p7 at m7
 have r9:lk p7 9=some (.v (.d (.exc a (c.at X) d X.fs ds))):=by rw[← wW];exact k9
 have r5:lk p7 5=some (.v (.d (D.int at_))):=by rw[← wW];exact q5
 have r6:lk p7 6=some (.v (.d ((vL (fun d=>d)) (F22 name number tail)))):=by rw[← wW];exact q6
 have r8:lk p7 8=some .no:=by rw[← wW];exact q8
 have t1:=(qM (Ox (Ja (Wv (n:=10) (h:=h) (T:="ValueError") hL r9) (fun _ _=>rfl) (b:=true))) (fM (aP (fj (Mg (aF (aH r9) (aF (aH r5) aU)) rfl (hf a d)) rfl) (aP (aH r6) (aH r5) (pH (V:=fun d=>d) hi)) (O2 he))) _ m7).1
 have hz:qC (fun _:Int=>some true) (fun k:Int=>some (decide (k=at_))) [0,1,2,3,4,5,6,7,8,9,10]=some ([0,1,2,3,4,5,6,7,8,9,10].map fun k:Int=>decide (k=at_)):=rfl
 have hbe:n_ (.lst ((bx c).map fun B=>D.bl (decide (c.at X=B)))) (vL D.bl ([0,1,2,3,4,5,6,7,8,9,10].map fun k:Int=>decide (k=at_)))=some true:=by
  have e2:vL D.bl ([0,1,2,3,4,5,6,7,8,9,10].map fun k:Int=>decide (k=at_))=.lst ([0,1,2,3,4,5,6,7,8,9,10].map fun k:Int=>D.bl (decide (k=at_))):=by
   show D.lst (([0,1,2,3,4,5,6,7,8,9,10].map fun k:Int=>decide (k=at_)).map D.bl)=_
   rw[b0s];rfl
  rw[e2,hb]
  exact hq
 have t2:=(fM (aP (fj (Mg (aF (aH (h:=h) r9) aU) rfl (Vd hL)) rfl) (fj (Jf (W:=D.bl) hz (sX Zk (aF aR aU)) (vs1 r8) (Je rfl (fun _=>rfl)) (fun k=>Il) (fun k=>eo_some (aP (aH (i:=8) rfl) (aH (i:=5) (show lk ([(8,_)]++p7) 5=_ from r5)) ju))) rfl) (O2 hbe)) _ m7).1
 have s1:cV (eC (.int 1)) (gN 7) ⟨s.set 9 (.v (.d (.exc a (c.at X) d X.fs ds))),h⟩=some (.nx ⟨(s.set 9 (.v (.d (.exc a (c.at X) d X.fs ds)))).set 7 (.v (.d (.int 1))),h⟩):=wH rfl (tQ rfl)
 have e3:=jt s1 (jt ((JC t1 (a:=aq (iG (eC (D.bl false))) aM) (b:=aM)).trans rfl) (jt (B:=aM) ((JC t2 (a:=aq (iG (eC (D.bl false))) aM) (b:=aM)).trans rfl) rfl))
 refine(congrArg (Option.map (Jx 9)) e3).trans ?_
 show some (Rs.nx ⟨((s.set 9 _).set 7 _).set 9 .no,h⟩)=_
 rw[List.set_comm _ _ (by decide:(9:Nat)≠7),List.set_set]
def Ji:List EC:=[.BadTable,.NoOperation,.NoCell,.BadName,.BadNumber,.BadStep,.BadClient,.BadRun,.BadRow,.Over,.TooLarge]
theorem kJ {c:CL} (ok:c.Ok) (hA:c.Jh) {X:EC} (hX:X∈Ji):(bx c).map (fun B=>D.bl (decide (c.at X=B)))=Ji.map fun Y=>D.bl (decide (X=Y)):=by
 rw[show bx c=Ji.map c.at from rfl,b0s]
 refine List.map_congr_left fun Y hY=>?_
 show D.bl (decide (c.at X=c.at Y))=_
 by_cases e:X=Y
 ·subst e;simp
 ·rw[b0q e,b0q fun z=>e (ok.inj _ (hA _ hX) _ (hA _ hY) z)]
theorem XM {name:Str} {number:Int} {tail:List Int} (h:(bD 0 name number tail).isSome=true):bD 0 name number tail=some (.error ⟨.BadTable,[D.str name]⟩):=by
 have e:bD 0 name number tail=cW (D.str name) (.error ⟨.BadTable,[D.str name]⟩):=by unfold bD;rfl
 rw[e] at h ⊢
 unfold cW at h ⊢
 split at h
 ·rename_i q;rw[a0d q]
 ·cases h
theorem XQ {name:Str} {number:Int} {tail:List Int} (h:(bD 1 name number tail).isSome=true):bD 1 name number tail=some (.error ⟨.NoOperation,[D.str name]⟩):=by
 have e:bD 1 name number tail=cW (D.str name) (.error ⟨.NoOperation,[D.str name]⟩):=by unfold bD;rfl
 rw[e] at h ⊢
 unfold cW at h ⊢
 split at h
 ·rename_i q;rw[a0d q]
 ·cases h
theorem XR {name:Str} {number:Int} {tail:List Int} (h:(bD 2 name number tail).isSome=true):bD 2 name number tail=some (.error ⟨.NoCell,[D.str name]⟩):=by
 have e:bD 2 name number tail=cW (D.str name) (.error ⟨.NoCell,[D.str name]⟩):=by unfold bD;rfl
 rw[e] at h ⊢
 unfold cW at h ⊢
 split at h
 ·rename_i q;rw[a0d q]
 ·cases h
theorem X4 {name:Str} {number:Int} {tail:List Int} (h:(bD 3 name number tail).isSome=true):bD 3 name number tail=some (.error ⟨.BadName,[D.str name]⟩):=by
 have e:bD 3 name number tail=cW (D.str name) (.error ⟨.BadName,[D.str name]⟩):=by unfold bD;rfl
 rw[e] at h ⊢
 unfold cW at h ⊢
 split at h
 ·rename_i q;rw[a0d q]
 ·cases h
theorem X5 {name:Str} {number:Int} {tail:List Int} (h:(bD 4 name number tail).isSome=true):bD 4 name number tail=some (.error ⟨.BadNumber,[D.int number]⟩):=by
 have e:bD 4 name number tail=cW (D.int number) (.error ⟨.BadNumber,[D.int number]⟩):=by unfold bD;rfl
 rw[e] at h ⊢
 unfold cW at h ⊢
 split at h
 ·rename_i q;rw[a0d q]
 ·cases h
theorem X6 {name:Str} {number:Int} {tail:List Int} (h:(bD 5 name number tail).isSome=true):bD 5 name number tail=some (.error ⟨.BadStep,[D.str name,D.int number]⟩):=by
 have e:bD 5 name number tail=pZ (D.str name) number (.error ⟨.BadStep,[D.str name,D.int number]⟩):=by unfold bD;rfl
 rw[e] at h ⊢
 unfold pZ at h ⊢
 split at h
 ·rename_i q;rw[a0d q]
 ·cases h
theorem X7 {name:Str} {number:Int} {tail:List Int} (h:(bD 6 name number tail).isSome=true):bD 6 name number tail=some (.error ⟨.BadClient,[D.int number]⟩):=by
 have e:bD 6 name number tail=cW (D.int number) (.error ⟨.BadClient,[D.int number]⟩):=by unfold bD;rfl
 rw[e] at h ⊢
 unfold cW at h ⊢
 split at h
 ·rename_i q;rw[a0d q]
 ·cases h
theorem X8 {name:Str} {number:Int} {tail:List Int} (h:(bD 7 name number tail).isSome=true):bD 7 name number tail=some (.error ⟨.BadRun,[D.int number]⟩):=by
 have e:bD 7 name number tail=cW (D.int number) (.error ⟨.BadRun,[D.int number]⟩):=by unfold bD;rfl
 rw[e] at h ⊢
 unfold cW at h ⊢
 split at h
 ·rename_i q;rw[a0d q]
 ·cases h
theorem X_ {name:Str} {number:Int} {tail:List Int} (h:(bD 8 name number tail).isSome=true):bD 8 name number tail=some (.error ⟨.BadRow,[(vL D.int) tail]⟩):=by
 have e:bD 8 name number tail=qb tail (.error ⟨.BadRow,[(vL D.int) tail]⟩):=by unfold bD;rfl
 rw[e] at h ⊢
 unfold qb at h ⊢
 split at h
 ·rename_i q;rw[a0d q]
 ·cases h
theorem Yb {name:Str} {number:Int} {tail:List Int} (h:(bD 9 name number tail).isSome=true):bD 9 name number tail=some (.error ⟨.Over,[D.int number]⟩):=by
 have e:bD 9 name number tail=cW (D.int number) (.error ⟨.Over,[D.int number]⟩):=by unfold bD;rfl
 rw[e] at h ⊢
 unfold cW at h ⊢
 split at h
 ·rename_i q;rw[a0d q]
 ·cases h
theorem WT {name:Str} {number:Int} {tail:List Int} (h:(bD 10 name number tail).isSome=true):bD 10 name number tail=some (.error ⟨.TooLarge,[D.int number]⟩):=by
 have e:bD 10 name number tail=cW (D.int number) (.error ⟨.TooLarge,[D.int number]⟩):=by unfold bD;rfl
 rw[e] at h ⊢
 unfold cW at h ⊢
 split at h
 ·rename_i q;rw[a0d q]
 ·cases h
theorem Yc {ρ:Type} {Fin:ρ→Rs→Prop} {p:En} {h:List Ob} {B:S} {t:Option ρ} {c:CL} (ok:c.Ok) (hA:c.Jh) {at_ number:Int} {name:Str} {tail:List Int} {F:List D} {u:Unit}
  (l2:lk p 2=some (.v (.d (D.str name)))) (l3:lk p 3=some (.v (.d (D.int number)))) (l4:lk p 4=some (.v (.d ((vL D.int) tail)))) (l5:lk p 5=some (.v (.d (D.int at_)))) (l6:lk p 6=some (.v (.d ((vL (fun d=>d)) F)))) (l7:lk p 7=some (.v (.d (.int 0)))) (l8:lk p 8=some .no) (l9:lk p 9=some .no)
  (hu:uR at_ name number tail F=some u) (K:J Fin 10 B ((7,some (.v (.d (.int 1))))::p) h t):J Fin 10 (aq (Hv c) B) p h t:=fun s m v ev=>by
 unfold uR at hu
 split at hu
 ·rename_i q
  obtain⟨⟨q0,q1⟩,q2,q3,q4⟩:=q
  subst q3
  have run:Hv c ⟨s,h⟩=some (.nx ⟨(s.set 7 (.v (.d (.int 1)))).set 9 .no,h⟩):=by
   have cs:at_=0∨at_=1∨at_=2∨at_=3∨at_=4∨at_=5∨at_=6∨at_=7∨at_=8∨at_=9∨at_=10:=by omega
   have g:=N_ c
   rcases cs with rfl|rfl|rfl|rfl|rfl|rfl|rfl|rfl|rfl|rfl|rfl
   ·exact kE m l2 l3 l4 l5 l6 l8 l9 (XM q2) (show c.at .BadTable∈bx c from g.1) (fun a d=>Ww (name:=name) (number:=number) (tail:=tail)) rfl (q4 _ (by simp)) ((kJ ok hA (by decide)).trans rfl) rfl
   ·exact kE m l2 l3 l4 l5 l6 l8 l9 (XQ q2) (show c.at .NoOperation∈bx c from g.2.1) (fun a d=>Wx (name:=name) (number:=number) (tail:=tail)) rfl (q4 _ (by simp)) ((kJ ok hA (by decide)).trans rfl) rfl
   ·exact kE m l2 l3 l4 l5 l6 l8 l9 (XR q2) (show c.at .NoCell∈bx c from g.2.2.1) (fun a d=>Wy (name:=name) (number:=number) (tail:=tail)) rfl (q4 _ (by simp)) ((kJ ok hA (by decide)).trans rfl) rfl
   ·exact kE m l2 l3 l4 l5 l6 l8 l9 (X4 q2) (show c.at .BadName∈bx c from g.2.2.2.1) (fun a d=>Wz (name:=name) (number:=number) (tail:=tail)) rfl (q4 _ (by simp)) ((kJ ok hA (by decide)).trans rfl) rfl
   ·exact kE m l2 l3 l4 l5 l6 l8 l9 (X5 q2) (show c.at .BadNumber∈bx c from g.2.2.2.2.1) (fun a d=>WD (name:=name) (number:=number) (tail:=tail)) rfl (q4 _ (by simp)) ((kJ ok hA (by decide)).trans rfl) rfl
   ·exact kE m l2 l3 l4 l5 l6 l8 l9 (X6 q2) (show c.at .BadStep∈bx c from g.2.2.2.2.2.1) (fun a d=>WK (name:=name) (number:=number) (tail:=tail)) rfl (q4 _ (by simp)) ((kJ ok hA (by decide)).trans rfl) rfl
   ·exact kE m l2 l3 l4 l5 l6 l8 l9 (X7 q2) (show c.at .BadClient∈bx c from g.2.2.2.2.2.2.1) (fun a d=>WL (name:=name) (number:=number) (tail:=tail)) rfl (q4 _ (by simp)) ((kJ ok hA (by decide)).trans rfl) rfl
   ·exact kE m l2 l3 l4 l5 l6 l8 l9 (X8 q2) (show c.at .BadRun∈bx c from g.2.2.2.2.2.2.2.1) (fun a d=>WM (name:=name) (number:=number) (tail:=tail)) rfl (q4 _ (by simp)) ((kJ ok hA (by decide)).trans rfl) rfl
   ·exact kE m l2 l3 l4 l5 l6 l8 l9 (X_ q2) (show c.at .BadRow∈bx c from g.2.2.2.2.2.2.2.2.1) (fun a d=>WQ (name:=name) (number:=number) (tail:=tail)) rfl (q4 _ (by simp)) ((kJ ok hA (by decide)).trans rfl) rfl
   ·exact kE m l2 l3 l4 l5 l6 l8 l9 (Yb q2) (show c.at .Over∈bx c from g.2.2.2.2.2.2.2.2.2.1) (fun a d=>WR (name:=name) (number:=number) (tail:=tail)) rfl (q4 _ (by simp)) ((kJ ok hA (by decide)).trans rfl) rfl
   ·exact kE m l2 l3 l4 l5 l6 l8 l9 (WT q2) (show c.at .TooLarge∈bx c from g.2.2.2.2.2.2.2.2.2.2) (fun a d=>Ve (name:=name) (number:=number) (tail:=tail)) rfl (q4 _ (by simp)) ((kJ ok hA (by decide)).trans rfl) rfl
  have m7:=m.set (i:=7) rfl (.v (.d (.int 1)))
  have k9:(s.set 7 (.v (.d (.int 1))))[9]?=some Sv.no:=m7.get 9 _ l9
  have same:(s.set 7 (.v (.d (.int 1)))).set 9 .no=s.set 7 (.v (.d (.int 1))):=by
   obtain⟨hlt,he⟩:=a0f.mp k9
   rw[← he,List.set_getElem_self]
  rw[same] at run
  obtain⟨r,hr,hf⟩:=K _ m7 v ev
  exact⟨r,jt run hr,hf⟩
 ·cases hu
noncomputable def sJ (script:List Int):Option Bool:=
 (pD script (0:Int) (6:Int)).bind fun fU=>
 (atI fU (0:Int)).bind fun v=>
 (qG v (1:Int)).bind fun v1=>
 (atI v1 (0:Int)).bind fun name=>
 (atI fU (1:Int)).bind fun v2=>
 gY (v2-(5000000:Int)) fun number=>
 (if (decide ((0:Int)<(script.length:Int)))=true then(atI script (0:Int)).bind fun v3=>
 (rH v3 ((10:Int) ^ (60:Int).toNat)).bind fun v4=>
 gY (v4-((10:Int) ^ (59:Int).toNat)) fun vQ=>
 some vQ else some number).bind fun kW=>
 (mV (2:Int) ((2:Int)+(v2%(4:Int)))).bind fun r=>
 (qC (fun k=>some true) (fun k=>(atI fU k).bind fun v5=>some (v5%(9:Int))) r).bind fun tail=>
 (mV (0:Int) (11:Int)).bind fun r1=>
 Jd (pY (fun at_ s_=>
 gY [(D.lst [D.str name]),(D.lst [D.str name]),(D.lst [D.str name]),(D.lst [D.str name]),(D.lst [D.int kW]),(D.lst [D.str name,D.int kW]),(D.lst [D.int kW]),(D.lst [D.int kW]),(D.lst [(vL D.int) tail]),(D.lst [D.int kW])] fun Lh=>
 (JG Lh [(D.lst [D.int kW])]).bind fun K6=>
 (uR at_ name kW tail K6).bind fun _u=>
 if (!decide ((1:Int)=(1:Int)))=true then some (.rt false)
 else some (.nx ())) r1 ()) fun s_1=>
 some true
theorem Vf {c:CL} (ok:c.Ok) (hA:c.Jh) {script:List Int} {h:List Ob} {v:Bool}  (e:sJ script=some v):sH c [.d (D.dB script)] h=some (outD D.bl h v):=by
 rw[KZ]
 exact Y9 (p:=[(0,some (.v (.d (D.dB script)))),(1,some .no),(2,some .no),(3,some .no),(4,some .no),(5,some .no),(6,some .no),(7,some .no),(8,some .no),(9,some .no)]) (gM rfl rfl) rfl Xz (show J (QV h (outD D.bl h)) 10 (vG c) _ h (sJ script) from
 eE fun fU T5=>
 iy (ev_call (aF (aH rfl) (aF aR (aF aR aU))) rfl (TJ T5)) rfl rfl (eE fun v uP=>
 eE fun v1 JL=>
 eE fun name Im=>
 iy (aP (ev_call (aF (aP (aH rfl) aR (pH (V:=D.int) uP)) (aF aR aU)) rfl (Sd JL)) aR (pH (V:=D.str) Im)) rfl rfl (eE fun v2 wM=>
 uH (V:=fun x=>.d (D.int x)) (aP (jw (aF (aP (aH rfl) aR (pH (V:=D.int) wM)) aU)) aR (iz rfl)) rfl rfl fun number=>
 Jb (α:=Int) (pre:=fun kW=>[(3,some (.v (.d (D.int kW))))]) (hp:=fun kW=>h) (fM (aP (NQ (aF (aH rfl) aU)) aR aak)) (eE fun v3 JM=>
 eE fun v4 aa8=>
 uH (V:=fun x=>.d (D.int x)) (aP (aP (jw (aF (aP (aH rfl) aR (O4 JM)) aU)) (aP aR aR (vN rfl)) (Hq aa8)) (aP aR aR (vN rfl)) (iz rfl)) rfl rfl fun vQ=>
 mH (gK rfl (sS rfl jo)) rfl) (mH (gK rfl jo) rfl) fun kW=>
 eE fun r uQ=>
 eE fun tail Zm=>
 iy (fj (Jf (W:=D.int) Zm (Xy uQ (aF aR (aF (aP aR (aP (jw (aF (aP (aH rfl) aR (pH (V:=D.int) wM)) aU)) aR (mJ rfl)) lu) aU))) (vs1 rfl) (Je rfl (fun _=>rfl)) (fun k=>Il) (fun k=>(Oz fun v5 aa9=>(eo_some (aP (jw (aF (aP (aH rfl) (aH rfl) (pH (V:=D.int) aa9)) aU)) aR (mJ rfl)))))) rfl) rfl rfl (eE fun r1 JK=>
 Y6 (α:=Unit) (pre:=fun s_=>[(5,none),(6,none),(7,none)]) (hp:=fun s_=>h) (a0:=()) (sX JK (aF aR aU)) (gQ (gQ (gQ jo))) (JF rfl (fun _=>rfl)) (fun at_ s_=>
 uH (V:=fun x=>.d ((vL (fun d=>d)) x)) (fj (cZ (aF (fj (cZ (aF (aH rfl) aU) rfl rfl) rfl) (aF (fj (cZ (aF (aH rfl) aU) rfl rfl) rfl) (aF (fj (cZ (aF (aH rfl) aU) rfl rfl) rfl) (aF (fj (cZ (aF (aH rfl) aU) rfl rfl) rfl) (aF (fj (cZ (aF (aH rfl) aU) rfl rfl) rfl) (aF (fj (cZ (aF (aH rfl) (aF (aH rfl) aU)) rfl rfl) rfl) (aF (fj (cZ (aF (aH rfl) aU) rfl rfl) rfl) (aF (fj (cZ (aF (aH rfl) aU) rfl rfl) rfl) (aF (fj (cZ (aF (aH rfl) aU) rfl rfl) rfl) (aF (fj (cZ (aF (aH rfl) aU) rfl rfl) rfl) aU)))))))))) rfl rfl) rfl) rfl rfl fun Lh=>
 eE fun K6 RK=>
 iy (aP (aH rfl) (fj (cZ (aF (fj (cZ (aF (aH rfl) aU) rfl rfl) rfl) aU) rfl rfl) rfl) (Xw (V:=(fun d=>d)) RK)) rfl rfl (iy aR rfl rfl (eE fun _u hu_=>Yc ok hA rfl rfl rfl rfl rfl rfl rfl rfl hu_ (jG (fM (aP (aH rfl) aR Y7)) (eU (v8 aR fun s m=>⟨⟨_,rfl,by simp⟩,rfl⟩))
 (jX (Xr (gQ (gQ (gQ (vK 8 rfl rfl)))) rfl)))))) fun s_1=>
 v8 aR fun s m=>⟨_,rfl,by simp⟩)))) e
end TY
set_option maxHeartbeats 2000000
local macro_rules | `(tactic| walk_at "fm")=>`(tactic| exact⟨_,_,_,_,_,_,_,_,_,_,by k_is,by k_is,by k_is,by k_is⟩)
local macro_rules | `(tactic| walk_at "mm")=>`(tactic| exact⟨_,_,_,_,_,_,_,_,_,_,by k_is,by k_is,by k_is,by k_is,by k_is⟩)
local macro_rules | `(tactic| walk_at "md")=>`(tactic| exact⟨_,_,_,_,_,_,_,_,_,_,by k_is,by k_is,by k_is,by k_is,by k_is,by k_is⟩)
local macro_rules | `(tactic| walk_at "cm")=>`(tactic| exact⟨by k_is,by k_is,by k_is,by k_is,by k_is,by k_is,by k_is⟩)
local macro_rules | `(tactic| walk_at "em")=>`(tactic| exact⟨_,by k_is,⟨_,_,_,_,_,_,_,_,_,_,_,_,_,_,_,by k_is,by first|rfl|decide +kernel⟩,by k_is,by k_is,by k_is,by k_is,by k_is,by k_is,by k_is,by k_is,by k_is,by k_is,by k_is,by first|with_unfolding_all rfl|skip,⟨_,_,_,_,_,_,_,_,_,_,_,_,_,_,_,_,_,_,_,by k_is,by k_is,by k_is,by first|rfl|k_is,by first|rfl|decide +kernel,by k_is⟩,by k_is⟩)
local macro_rules | `(tactic| walk_at "zm")=>`(tactic| exact⟨by k_is,by k_is,by k_is,by k_is,by k_is,by k_is,by k_is,by k_is,by k_is,by k_is,by k_is,by k_is,by k_is,by k_is,by k_is,by k_is,by k_is,by k_is,by k_is,by k_is,by k_is,by k_is,by k_is⟩)
local macro_rules | `(tactic| walk_at "bd")=>`(tactic| first|exact fun _ _ _ _ _ _=>AL.bd1 fun _=>rfl|exact fun _ _ _ _ _ _=>AL.bd2 fun _ _=>rfl|exact fun _ _ _ _ _ _=>AL.bd3 fun _ _ _=>rfl|exact fun _ _ _ _ _ _=>AL.bd4 fun _ _ _ _=>rfl|exact fun _ _ _ _ _ _=>AL.bd5 fun _ _ _ _ _=>rfl|exact fun _ _ _ _ _ _=>AL.bd6 fun _ _ _ _ _ _=>rfl|exact fun _ _ _ _ _ _=>AL.bd7 fun _ _ _ _ _ _ _=>rfl)
local macro_rules | `(tactic| walk_at "sy")=>`(tactic| exact⟨_,_,_,_,_,_,_,_,_,{body:=⟨_,_,_,_,_,_,rfl,rfl⟩,args:=rfl,nM:=rfl,tX:=rfl,tY:=rfl,jZ:=(by intro p hp;rw[a0n.mp hp];rfl),kind:=rfl,gen:=rfl,co:=rfl,wO:=by decide +kernel,first:=(fun x us h=>match us,h with | [_],_=>rfl),bind:=(fun _ _ _ _ _ _ _ us h=>match us,h with | [_,_],_=>rfl)},by decide +kernel⟩)
local macro_rules | `(tactic| walk_at "pm")=>`(tactic| exact⟨_,_,_,_,_,_,_,_,_,_,_,_,by k_is,by k_is,by k_is,by k_is,by k_is,by k_is,by k_is⟩)
namespace Z
open PySem L2 DL AL HX TY PyProof.Rows
abbrev Lj:Stmt:=inClass (gq 2) 0
theorem Ss:mX Lj "BadTable.__init__" "name":=by walk_at "sy"
abbrev KQ:Stmt:=inClass (gq 3) 0
theorem RB:mX KQ "NoOperation.__init__" "name":=by walk_at "sy"
abbrev Mh:Stmt:=inClass (gq 4) 0
theorem T6:mX Mh "NoCell.__init__" "name":=by walk_at "sy"
abbrev Ls:Stmt:=inClass (gq 5) 0
theorem S7:mX Ls "BadName.__init__" "name":=by walk_at "sy"
abbrev K7:Stmt:=inClass (gq 6) 0
theorem RW:mX K7 "BadNumber.__init__" "number":=by walk_at "sy"
abbrev K8:Stmt:=inClass (gq 7) 0
theorem RX:mX K8 "BadClient.__init__" "caller":=by walk_at "sy"
abbrev Mi:Stmt:=inClass (gq 8) 0
theorem T7:mX Mi "BadRun.__init__" "at":=by walk_at "sy"
abbrev Oa:Stmt:=inClass (gq 9) 0
theorem WW:mX Oa "Over.__init__" "caller":=by walk_at "sy"
abbrev Lk:Stmt:=inClass (gq 10) 0
theorem Sw:mX Lk "TooLarge.__init__" "bound":=by walk_at "sy"
abbrev sE:Stmt:=inClass (gq 11) 0
theorem S8:∃(pre mid:Str) (c1 c2:Nat) (j1 j2 j3 j4 j5 j6 q1 q2 q3 q4 r1 r2 r3 r4:Pos),bA.kZ sE "BadStep.__init__" ["name","at"] (bA.uO "name" "at" pre mid c1 c2 j1 j2 j3 j4 j5 j6) (bA.as2 "name" "at" q1 q2 q3 q4 r1 r2 r3 r4)∧pre.length≤100∧mid.length≤100:=
 ⟨_,_,_,_,_,_,_,_,_,_,_,_,_,_,_,_,_,_,{body:=⟨_,_,_,_,_,_,rfl,rfl⟩,args:=rfl,nM:=rfl,tX:=rfl,tY:=rfl,jZ:=(by intro p hp;simp only[a0c,b0k,or_false] at hp;rcases hp with rfl|rfl<;>rfl),kind:=rfl,gen:=rfl,co:=rfl,wO:=by decide +kernel,first:=(fun x us h=>match us,h with | [_,_],_=>rfl),bind:=(fun _ _ _ _ _ _ _ us h=>match us,h with | [_,_,_],_=>rfl)},by decide +kernel,by decide +kernel⟩
abbrev qI:Stmt:=inClass (gq 12) 0
theorem T8:∃(pre:Str) (cst:Nat) (j1 j2 j3 q1 q2 q3 q4 q5 q6:Pos),bA.kZ qI "BadRow.__init__" ["row"] [.Constant (.str pre) cst j1,.FormattedValue (.Name "row" j2) 114 none j3] [.Assign [.Attribute (.Name "self" q1) "row" q2] (.Call (.Name "list" q5) [.Name "row" q3] [] q6) q4]∧(L2.defScope qI).names.lookup ("list":Str)=some .globalImplicit∧pre.length≤100:=
 ⟨_,_,_,_,_,_,_,_,_,_,_,{body:=⟨_,_,_,_,_,_,rfl,rfl⟩,args:=rfl,nM:=rfl,tX:=rfl,tY:=rfl,jZ:=(by intro p hp;simp only[a0c,b0k,or_false] at hp;rcases hp with rfl;rfl),kind:=rfl,gen:=rfl,co:=rfl,wO:=by decide +kernel,first:=(fun x us h=>match us,h with | [_],_=>rfl),bind:=(fun _ _ _ _ _ _ _ us h=>match us,h with | [_,_],_=>rfl)},rfl,by decide +kernel⟩
def mkC (w:World) (cU:Addr) (bV:Addr) (bR:Addr) (bZ:Addr) (bY:Addr) (bT:Addr) (bU:Addr) (b_:Addr) (cA:Addr) (bW:Addr) (aY:Addr) (aZ:Addr):CL:={OrderError:=cU,BadTable:=bV,NoOperation:=bR,NoCell:=bZ,BadName:=bY,BadNumber:=bT,BadClient:=bU,BadRun:=b_,Over:=cA,TooLarge:=bW,BadStep:=aY,BadRow:=aZ,Table:=0,Kind:=0,Shown:=0,Raised:=0,Emptied:=0,Counter:=0,Full:=0,Memory:=0,Operation:=0,Alone:=0,Build:=0,Space:=0,Desk:=0,Call:=0,Fixer:=0,Spoiler:=0,Verdict:=0,AtOnce:=0,Afterwards:=0,Never:=0,Repair:=0,Standing:=0,w:=w,has:=[.BadTable,.NoOperation,.NoCell,.BadName,.BadNumber,.BadClient,.BadRun,.Over,.TooLarge,.BadStep,.BadRow]}
abbrev zzPP:Prop:=∀ns:List Int,sJ ns=some true
theorem okl (HK:zzPP) (c:CL) (h3:c.has=[.BadTable,.NoOperation,.NoCell,.BadName,.BadNumber,.BadClient,.BadRun,.Over,.TooLarge,.BadStep,.BadRow]) (ok:c.Ok):∀ns:List Int,ns.length≤63→∃h',sH c [.d (.dB ns)] []=some (.ret (.d (.bl true)),h'):=fun ns _=>⟨_,Vf ok (fun e he=>by rw[h3];revert he e;decide) (HK ns)⟩
theorem all_mk (HK:zzPP) {l:PySem.W.OpenLaw} {w:World} {K:PySem.W.Frag} {h:Heap} {mg:Str→Option Value} {fa:Addr} (X:K.In h) (G:h.Ns mainGlobals mg) (hfa:mg "law"=some (.ref fa))
  {bV:Addr}
  {bR:Addr}
  {bZ:Addr}
  {bY:Addr}
  {bT:Addr}
  {bU:Addr}
  {b_:Addr}
  {cA:Addr}
  {bW:Addr}
  {aY:Addr}
  {T9 Vg:Str} {Vh:Addr} {T_ Lw:List Value} {Ua:List Str} {S9:List Value} {Ub:Bool} {S_:Option Bool} {Uc:Option Addr} {Ud Ue Ug Uh Ui:Option Value} {vB Dd Ly:Addr} {Uj Uk Ul Um Uo Tc Uq:Value} {Ur Us Td Tf:Option Addr} {Tg Tj Tn:Array (Option Value)} {Lz:Array Value} {K9:Str} {Ut:Tok}
  {aZ:Addr}
  {Vi WY:Str} {W0:Addr} {Vj Mj:List Value} {Vk:List Str} {Uu:List Value} {Vl:Bool} {Uv:Option Bool} {Vm:Option Addr} {Vn Vo Vp Vq Vr:Option Value} {vH D_ Ml:Addr} {Vs Vt Vu Vv Vw Uw Vx:Value} {Vy Vz Ux Uy:Option Addr} {Uz UG UJ:Array (Option Value)} {Mp:Array Value} {Ln:Str} {VB:Tok}
  {cU:Addr}
  {Cp:Addr} {R3 R4:Option Addr} {R5:Array (Option Value)} {R6 R7 R8 R9 KY R_:Value}
  (hz:Rv K)
  (gG:PySem.W.nsIn K cStatics "thirdparty.any"=some none)
  (top:(l.prog.main.scope.names.lookup ("super":Str)).isSome=false)
  (cI:eZ l K bV "BadTable" "BadTable.__init__" "name" Lj)
  (cD:eZ l K bR "NoOperation" "NoOperation.__init__" "name" KQ)
  (cO:eZ l K bZ "NoCell" "NoCell.__init__" "name" Mh)
  (cM:eZ l K bY "BadName" "BadName.__init__" "name" Ls)
  (cG:eZ l K bT "BadNumber" "BadNumber.__init__" "number" K7)
  (cH:eZ l K bU "BadClient" "BadClient.__init__" "caller" K8)
  (cP:eZ l K b_ "BadRun" "BadRun.__init__" "at" Mi)
  (cQ:eZ l K cA "Over" "Over.__init__" "caller" Oa)
  (cJ:eZ l K bW "TooLarge" "TooLarge.__init__" "bound" Lk)
  (Ea:PySem.W.nsIn K mainGlobals "BadStep"=some (some (.ref aY)))
  (Eb:K.lookup aY=some (excClassObj T9 Vg aY Vh T_ Lw true Ua S9 Ub S_ Uc Ud Ue Ug Uh Ui "ValueError.__new__"))
  (Ec:PySem.HandSPX.refsVE Lw=true)
  (Ed:PySem.W.findIn K (.ref aY) "__setattr__"=some (some (.builtin "object.__setattr__")))
  (vC:PySem.W.findIn K (.ref aY) "__getattribute__"=some (some (.builtin "BaseException.__getattribute__")))
  (vq:PySem.W.findIn K (.ref aY) "__getattr__"=some none)
  (Ef:PySem.W.findIn K (.ref aY) "__init__"=some (some (.ref vB)))
  (Eh:PySem.W.typeIn K (.ref vB)=some (.type "function"))
  (Ei:PySem.W.keepIn K (.ref aY)=true)
  (sG:PySem.W.subIn K (.ref aY) (.type "BaseException")=some true)
  (Ek:PySem.W.subIn K (.ref aY) (.type "ValueError")=some true)
  (El:PySem.W.mroIn K aY (.ref aY)=some true)
  (g_:PySem.W.typeIn K (.ref aY)=some (.type "type"))
  (gH:PySem.W.hasDictIn K aY=true)
  (Df:PySem.W.ks_superIn K aY aY "__init__"=some (some (.builtin "ValueError.__init__")))
  (Em:K.lookup vB=some ⟨Uj,Ur,.func (PySem.W.ksFn "__init__" "BadStep.__init__" (L2.defArgs sE) (L2.defBody sE) (L2.defScope sE) .none Uk Ul Um Us (.ref Dd) Uo Ly),Tg⟩)
  (Dg:PySem.W.codeIn K (.ref Dd) "BadStep.__init__"=true)
  (Dh:K.lookup Dd=some ⟨Tc,Td,.fields Lz,Tj⟩)
  (Di:Lz[2]?=some (.str K9 Ut))
  (Dj:((l.prog.main.file:Str) == K9)=true)
  (Dk:K.lookup Ly=some ⟨Uq,Tf,.cell (some (.ref aY)),Tn⟩)
  (Eo:PySem.W.findIn K (.ref aY) "name"=some none)
  (Dm:PySem.W.findIn K (.ref aY) "at"=some none)
  (Fy:PySem.W.nsIn K mainGlobals "BadRow"=some (some (.ref aZ)))
  (FJ:K.lookup aZ=some (excClassObj Vi WY aZ W0 Vj Mj true Vk Uu Vl Uv Vm Vn Vo Vp Vq Vr "ValueError.__new__"))
  (FP:PySem.HandSPX.refsVE Mj=true)
  (FQ:PySem.W.findIn K (.ref aZ) "__setattr__"=some (some (.builtin "object.__setattr__")))
  (vI:PySem.W.findIn K (.ref aZ) "__getattribute__"=some (some (.builtin "BaseException.__getattribute__")))
  (vD:PySem.W.findIn K (.ref aZ) "__getattr__"=some none)
  (FT:PySem.W.findIn K (.ref aZ) "__init__"=some (some (.ref vH)))
  (FW:PySem.W.typeIn K (.ref vH)=some (.type "function"))
  (FZ:PySem.W.keepIn K (.ref aZ)=true)
  (sO:PySem.W.subIn K (.ref aZ) (.type "BaseException")=some true)
  (Ge:PySem.W.subIn K (.ref aZ) (.type "ValueError")=some true)
  (Gf:PySem.W.mroIn K aZ (.ref aZ)=some true)
  (ig:PySem.W.typeIn K (.ref aZ)=some (.type "type"))
  (gJ:PySem.W.hasDictIn K aZ=true)
  (Ep:PySem.W.ks_superIn K aZ aZ "__init__"=some (some (.builtin "ValueError.__init__")))
  (Gg:K.lookup vH=some ⟨Vs,Vy,.func (PySem.W.ksFn "__init__" "BadRow.__init__" (L2.defArgs qI) (L2.defBody qI) (L2.defScope qI) .none Vt Vu Vv Vz (.ref D_) Vw Ml),Uz⟩)
  (Es:PySem.W.codeIn K (.ref D_) "BadRow.__init__"=true)
  (Et:K.lookup D_=some ⟨Uw,Ux,.fields Mp,UG⟩)
  (Eu:Mp[2]?=some (.str Ln VB))
  (Ew:((l.prog.main.file:Str) == Ln)=true)
  (Ey:K.lookup Ml=some ⟨Vx,Uy,.cell (some (.ref aZ)),UJ⟩)
  (Gh:PySem.W.findIn K (.ref aZ) "row"=some none)
  (Dq:PySem.W.findIn K (.ref bV) "__class__"=some (some (.builtin "object.__class__")))
  (Dr:PySem.W.specialIn K (.builtin "object.__class__") "__get__"=some (some (.builtin "getset_descriptor.__get__")))
  (Ds:PySem.W.takesIn K (.builtin "object.__class__")=some true)
  (Dt:PySem.W.mroIn K bV (.type "object")=some true)
  (Du:PySem.W.subIn K (.ref bV) (.ref bV)=some true)
  (Br:PySem.W.findIn K (.ref bR) "__class__"=some (some (.builtin "object.__class__")))
  (Bs:PySem.W.specialIn K (.builtin "object.__class__") "__get__"=some (some (.builtin "getset_descriptor.__get__")))
  (Bt:PySem.W.takesIn K (.builtin "object.__class__")=some true)
  (Bu:PySem.W.mroIn K bR (.type "object")=some true)
  (Bv:PySem.W.subIn K (.ref bR) (.ref bR)=some true)
  (Gi:PySem.W.findIn K (.ref bZ) "__class__"=some (some (.builtin "object.__class__")))
  (Gj:PySem.W.specialIn K (.builtin "object.__class__") "__get__"=some (some (.builtin "getset_descriptor.__get__")))
  (Gk:PySem.W.takesIn K (.builtin "object.__class__")=some true)
  (Gm:PySem.W.mroIn K bZ (.type "object")=some true)
  (Gn:PySem.W.subIn K (.ref bZ) (.ref bZ)=some true)
  (Ez:PySem.W.findIn K (.ref bY) "__class__"=some (some (.builtin "object.__class__")))
  (EY:PySem.W.specialIn K (.builtin "object.__class__") "__get__"=some (some (.builtin "getset_descriptor.__get__")))
  (E_:PySem.W.takesIn K (.builtin "object.__class__")=some true)
  (Fb:PySem.W.mroIn K bY (.type "object")=some true)
  (Fd:PySem.W.subIn K (.ref bY) (.ref bY)=some true)
  (Cq:PySem.W.findIn K (.ref bT) "__class__"=some (some (.builtin "object.__class__")))
  (Cr:PySem.W.specialIn K (.builtin "object.__class__") "__get__"=some (some (.builtin "getset_descriptor.__get__")))
  (Cu:PySem.W.takesIn K (.builtin "object.__class__")=some true)
  (Cv:PySem.W.mroIn K bT (.type "object")=some true)
  (Cy:PySem.W.subIn K (.ref bT) (.ref bT)=some true)
  (Cz:PySem.W.findIn K (.ref bU) "__class__"=some (some (.builtin "object.__class__")))
  (CG:PySem.W.specialIn K (.builtin "object.__class__") "__get__"=some (some (.builtin "getset_descriptor.__get__")))
  (CJ:PySem.W.takesIn K (.builtin "object.__class__")=some true)
  (CK:PySem.W.mroIn K bU (.type "object")=some true)
  (CN:PySem.W.subIn K (.ref bU) (.ref bU)=some true)
  (Gp:PySem.W.findIn K (.ref b_) "__class__"=some (some (.builtin "object.__class__")))
  (Gq:PySem.W.specialIn K (.builtin "object.__class__") "__get__"=some (some (.builtin "getset_descriptor.__get__")))
  (Gr:PySem.W.takesIn K (.builtin "object.__class__")=some true)
  (Gu:PySem.W.mroIn K b_ (.type "object")=some true)
  (Gv:PySem.W.subIn K (.ref b_) (.ref b_)=some true)
  (Hw:PySem.W.findIn K (.ref cA) "__class__"=some (some (.builtin "object.__class__")))
  (Hz:PySem.W.specialIn K (.builtin "object.__class__") "__get__"=some (some (.builtin "getset_descriptor.__get__")))
  (HD:PySem.W.takesIn K (.builtin "object.__class__")=some true)
  (HF:PySem.W.mroIn K cA (.type "object")=some true)
  (HJ:PySem.W.subIn K (.ref cA) (.ref cA)=some true)
  (Dy:PySem.W.findIn K (.ref bW) "__class__"=some (some (.builtin "object.__class__")))
  (Dz:PySem.W.specialIn K (.builtin "object.__class__") "__get__"=some (some (.builtin "getset_descriptor.__get__")))
  (DG:PySem.W.takesIn K (.builtin "object.__class__")=some true)
  (DK:PySem.W.mroIn K bW (.type "object")=some true)
  (DN:PySem.W.subIn K (.ref bW) (.ref bW)=some true)
  (Fe:PySem.W.findIn K (.ref aY) "__class__"=some (some (.builtin "object.__class__")))
  (Fg:PySem.W.specialIn K (.builtin "object.__class__") "__get__"=some (some (.builtin "getset_descriptor.__get__")))
  (Fj:PySem.W.takesIn K (.builtin "object.__class__")=some true)
  (Fl:PySem.W.mroIn K aY (.type "object")=some true)
  (Fo:PySem.W.subIn K (.ref aY) (.ref aY)=some true)
  (Gx:PySem.W.findIn K (.ref aZ) "__class__"=some (some (.builtin "object.__class__")))
  (Gy:PySem.W.specialIn K (.builtin "object.__class__") "__get__"=some (some (.builtin "getset_descriptor.__get__")))
  (Gz:PySem.W.takesIn K (.builtin "object.__class__")=some true)
  (GD:PySem.W.mroIn K aZ (.type "object")=some true)
  (GF:PySem.W.subIn K (.ref aZ) (.ref aZ)=some true)
  (Bf:PySem.W.nsIn K mainGlobals "OrderError"=some (some (.ref cU)))
  (jk:(PySem.W.clsIn K cU).isSome=true)
  (dN:PySem.W.typeIn K (.ref cU)=some (.type "type"))
  (uX:PySem.W.subIn K (.ref bV) (.ref cU)=some true)
  (uU:PySem.W.subIn K (.ref bR) (.ref cU)=some true)
  (u6:PySem.W.subIn K (.ref bZ) (.ref cU)=some true)
  (uZ:PySem.W.subIn K (.ref bY) (.ref cU)=some true)
  (uV:PySem.W.subIn K (.ref bT) (.ref cU)=some true)
  (uW:PySem.W.subIn K (.ref bU) (.ref cU)=some true)
  (u9:PySem.W.subIn K (.ref b_) (.ref cU)=some true)
  (vf:PySem.W.subIn K (.ref cA) (.ref cU)=some true)
  (uY:PySem.W.subIn K (.ref bW) (.ref cU)=some true)
  (u5:PySem.W.subIn K (.ref aY) (.ref cU)=some true)
  (u_:PySem.W.subIn K (.ref aZ) (.ref cU)=some true)
  (jA:PySem.W.subIn K (.ref cU) (.type "BaseException")=some true)
  (jB:PySem.W.hasDictIn K cU=true)
  (DP:PySem.W.subIn K (.ref bV) (.type "ValueError")=some true)
  (Bw:PySem.W.subIn K (.ref bR) (.type "ValueError")=some true)
  (GJ:PySem.W.subIn K (.ref bZ) (.type "ValueError")=some true)
  (Fp:PySem.W.subIn K (.ref bY) (.type "ValueError")=some true)
  (CP:PySem.W.subIn K (.ref bT) (.type "ValueError")=some true)
  (CQ:PySem.W.subIn K (.ref bU) (.type "ValueError")=some true)
  (GP:PySem.W.subIn K (.ref b_) (.type "ValueError")=some true)
  (HS:PySem.W.subIn K (.ref cA) (.type "ValueError")=some true)
  (DQ:PySem.W.subIn K (.ref bW) (.type "ValueError")=some true)
  (Fq:PySem.W.subIn K (.ref aY) (.type "ValueError")=some true)
  (GX:PySem.W.subIn K (.ref aZ) (.type "ValueError")=some true)
  (jd:PySem.W.subIn K (.ref bV) (.ref bV)=some true)
  (xg:PySem.W.subIn K (.ref bR) (.ref bV)=some false)
  (zp:PySem.W.subIn K (.ref bZ) (.ref bV)=some false)
  (yG:PySem.W.subIn K (.ref bY) (.ref bV)=some false)
  (xQ:PySem.W.subIn K (.ref bT) (.ref bV)=some false)
  (xR:PySem.W.subIn K (.ref bU) (.ref bV)=some false)
  (zq:PySem.W.subIn K (.ref b_) (.ref bV)=some false)
  (Am:PySem.W.subIn K (.ref cA) (.ref bV)=some false)
  (yq:PySem.W.subIn K (.ref bW) (.ref bV)=some false)
  (yH:PySem.W.subIn K (.ref aY) (.ref bV)=some false)
  (zu:PySem.W.subIn K (.ref aZ) (.ref bV)=some false)
  (xq:PySem.W.subIn K (.ref bV) (.ref bR)=some false)
  (iZ:PySem.W.subIn K (.ref bR) (.ref bR)=some true)
  (xT:PySem.W.subIn K (.ref bZ) (.ref bR)=some false)
  (xH:PySem.W.subIn K (.ref bY) (.ref bR)=some false)
  (wX:PySem.W.subIn K (.ref bT) (.ref bR)=some false)
  (wY:PySem.W.subIn K (.ref bU) (.ref bR)=some false)
  (xU:PySem.W.subIn K (.ref b_) (.ref bR)=some false)
  (yI:PySem.W.subIn K (.ref cA) (.ref bR)=some false)
  (xr:PySem.W.subIn K (.ref bW) (.ref bR)=some false)
  (xJ:PySem.W.subIn K (.ref aY) (.ref bR)=some false)
  (xV:PySem.W.subIn K (.ref aZ) (.ref bR)=some false)
  (zA:PySem.W.subIn K (.ref bV) (.ref bZ)=some false)
  (xW:PySem.W.subIn K (.ref bR) (.ref bZ)=some false)
  (jh:PySem.W.subIn K (.ref bZ) (.ref bZ)=some true)
  (zQ:PySem.W.subIn K (.ref bY) (.ref bZ)=some false)
  (yJ:PySem.W.subIn K (.ref bT) (.ref bZ)=some false)
  (yK:PySem.W.subIn K (.ref bU) (.ref bZ)=some false)
  (Ao:PySem.W.subIn K (.ref b_) (.ref bZ)=some false)
  (Bx:PySem.W.subIn K (.ref cA) (.ref bZ)=some false)
  (zB:PySem.W.subIn K (.ref bW) (.ref bZ)=some false)
  (zR:PySem.W.subIn K (.ref aY) (.ref bZ)=some false)
  (Aq:PySem.W.subIn K (.ref aZ) (.ref bZ)=some false)
  (yL:PySem.W.subIn K (.ref bV) (.ref bY)=some false)
  (xK:PySem.W.subIn K (.ref bR) (.ref bY)=some false)
  (zU:PySem.W.subIn K (.ref bZ) (.ref bY)=some false)
  (jf:PySem.W.subIn K (.ref bY) (.ref bY)=some true)
  (yr:PySem.W.subIn K (.ref bT) (.ref bY)=some false)
  (yt:PySem.W.subIn K (.ref bU) (.ref bY)=some false)
  (zV:PySem.W.subIn K (.ref b_) (.ref bY)=some false)
  (Bg:PySem.W.subIn K (.ref cA) (.ref bY)=some false)
  (yM:PySem.W.subIn K (.ref bW) (.ref bY)=some false)
  (zE:PySem.W.subIn K (.ref aY) (.ref bY)=some false)
  (zW:PySem.W.subIn K (.ref aZ) (.ref bY)=some false)
  (xX:PySem.W.subIn K (.ref bV) (.ref bT)=some false)
  (wZ:PySem.W.subIn K (.ref bR) (.ref bT)=some false)
  (yN:PySem.W.subIn K (.ref bZ) (.ref bT)=some false)
  (yu:PySem.W.subIn K (.ref bY) (.ref bT)=some false)
  (i_:PySem.W.subIn K (.ref bT) (.ref bT)=some true)
  (xM:PySem.W.subIn K (.ref bU) (.ref bT)=some false)
  (yO:PySem.W.subIn K (.ref b_) (.ref bT)=some false)
  (zX:PySem.W.subIn K (.ref cA) (.ref bT)=some false)
  (xY:PySem.W.subIn K (.ref bW) (.ref bT)=some false)
  (yw:PySem.W.subIn K (.ref aY) (.ref bT)=some false)
  (yP:PySem.W.subIn K (.ref aZ) (.ref bT)=some false)
  (xZ:PySem.W.subIn K (.ref bV) (.ref bU)=some false)
  (w6:PySem.W.subIn K (.ref bR) (.ref bU)=some false)
  (yQ:PySem.W.subIn K (.ref bZ) (.ref bU)=some false)
  (yx:PySem.W.subIn K (.ref bY) (.ref bU)=some false)
  (xO:PySem.W.subIn K (.ref bT) (.ref bU)=some false)
  (jc:PySem.W.subIn K (.ref bU) (.ref bU)=some true)
  (yR:PySem.W.subIn K (.ref b_) (.ref bU)=some false)
  (zY:PySem.W.subIn K (.ref cA) (.ref bU)=some false)
  (yc:PySem.W.subIn K (.ref bW) (.ref bU)=some false)
  (yC:PySem.W.subIn K (.ref aY) (.ref bU)=some false)
  (yS:PySem.W.subIn K (.ref aZ) (.ref bU)=some false)
  (zF:PySem.W.subIn K (.ref bV) (.ref b_)=some false)
  (yd:PySem.W.subIn K (.ref bR) (.ref b_)=some false)
  (Ar:PySem.W.subIn K (.ref bZ) (.ref b_)=some false)
  (z_:PySem.W.subIn K (.ref bY) (.ref b_)=some false)
  (yU:PySem.W.subIn K (.ref bT) (.ref b_)=some false)
  (yV:PySem.W.subIn K (.ref bU) (.ref b_)=some false)
  (ji:PySem.W.subIn K (.ref b_) (.ref b_)=some true)
  (BJ:PySem.W.subIn K (.ref cA) (.ref b_)=some false)
  (zG:PySem.W.subIn K (.ref bW) (.ref b_)=some false)
  (Aa:PySem.W.subIn K (.ref aY) (.ref b_)=some false)
  (Av:PySem.W.subIn K (.ref aZ) (.ref b_)=some false)
  (Ax:PySem.W.subIn K (.ref bV) (.ref cA)=some false)
  (yW:PySem.W.subIn K (.ref bR) (.ref cA)=some false)
  (BK:PySem.W.subIn K (.ref bZ) (.ref cA)=some false)
  (Bh:PySem.W.subIn K (.ref bY) (.ref cA)=some false)
  (Ad:PySem.W.subIn K (.ref bT) (.ref cA)=some false)
  (Ae:PySem.W.subIn K (.ref bU) (.ref cA)=some false)
  (BL:PySem.W.subIn K (.ref b_) (.ref cA)=some false)
  (jm:PySem.W.subIn K (.ref cA) (.ref cA)=some true)
  (Ay:PySem.W.subIn K (.ref bW) (.ref cA)=some false)
  (Bj:PySem.W.subIn K (.ref aY) (.ref cA)=some false)
  (BP:PySem.W.subIn K (.ref aZ) (.ref cA)=some false)
  (yD:PySem.W.subIn K (.ref bV) (.ref bW)=some false)
  (xG:PySem.W.subIn K (.ref bR) (.ref bW)=some false)
  (zH:PySem.W.subIn K (.ref bZ) (.ref bW)=some false)
  (yX:PySem.W.subIn K (.ref bY) (.ref bW)=some false)
  (yg:PySem.W.subIn K (.ref bT) (.ref bW)=some false)
  (yh:PySem.W.subIn K (.ref bU) (.ref bW)=some false)
  (zJ:PySem.W.subIn K (.ref b_) (.ref bW)=some false)
  (Az:PySem.W.subIn K (.ref cA) (.ref bW)=some false)
  (je:PySem.W.subIn K (.ref bW) (.ref bW)=some true)
  (yZ:PySem.W.subIn K (.ref aY) (.ref bW)=some false)
  (zK:PySem.W.subIn K (.ref aZ) (.ref bW)=some false)
  (za:PySem.W.subIn K (.ref bV) (.ref aY)=some false)
  (xP:PySem.W.subIn K (.ref bR) (.ref aY)=some false)
  (Af:PySem.W.subIn K (.ref bZ) (.ref aY)=some false)
  (zL:PySem.W.subIn K (.ref bY) (.ref aY)=some false)
  (yE:PySem.W.subIn K (.ref bT) (.ref aY)=some false)
  (yF:PySem.W.subIn K (.ref bU) (.ref aY)=some false)
  (Ag:PySem.W.subIn K (.ref b_) (.ref aY)=some false)
  (Bl:PySem.W.subIn K (.ref cA) (.ref aY)=some false)
  (zf:PySem.W.subIn K (.ref bW) (.ref aY)=some false)
  (jg:PySem.W.subIn K (.ref aY) (.ref aY)=some true)
  (Ah:PySem.W.subIn K (.ref aZ) (.ref aY)=some false)
  (zM:PySem.W.subIn K (.ref bV) (.ref aZ)=some false)
  (yj:PySem.W.subIn K (.ref bR) (.ref aZ)=some false)
  (A_:PySem.W.subIn K (.ref bZ) (.ref aZ)=some false)
  (Ai:PySem.W.subIn K (.ref bY) (.ref aZ)=some false)
  (zj:PySem.W.subIn K (.ref bT) (.ref aZ)=some false)
  (zm:PySem.W.subIn K (.ref bU) (.ref aZ)=some false)
  (Ba:PySem.W.subIn K (.ref b_) (.ref aZ)=some false)
  (BR:PySem.W.subIn K (.ref cA) (.ref aZ)=some false)
  (zN:PySem.W.subIn K (.ref bW) (.ref aZ)=some false)
  (Aj:PySem.W.subIn K (.ref aY) (.ref aZ)=some false)
  (jj:PySem.W.subIn K (.ref aZ) (.ref aZ)=some true)
  (Ca:lV K "_law_row" Bp)
  (Bm:lV K "_law_names" vg)
  (BW:lV K "_law_raise" Bc)
  (Bo:lV K "_law_fields" Ak)
  (Bb:lV K "_law_classes" zP)
  (CT:PySem.W.nsIn K mainGlobals "law"=some (some (.ref Cp)))
  (CV:K.lookup Cp=some ⟨R6,R3,.func (PySem.W.fnOf "law" "law" (defArgs oh) (defBody oh) (defScope oh) .none R7 R8 R9 R4 KY R_),R5⟩)
  (CW:PySem.W.codeIn K KY "law"=true)
  (CZ:PySem.W.keepIn K (.ref Cp)=true)
  (nd:([bV,bR,bZ,bY,bT,bU,b_,cA,bW,aY,aZ]:List Addr).Nodup) :
  ∃fd:FuncData,(∀(s:Shared) (v:Value),BindsTo s fd ⟨[v],[]⟩ [("_law_script",v)])∧∀base:Heap,K.In base→base.Ns mainGlobals mg→FnOk l.prog w K mg base (L2.CX l.prog w) 5 fa fd ["_law_script"] (tV K):=by
 have e:=hfa.symm.trans (a0Q X G CT)
 cases e
 have hB:=aav X G hz
 have mj:=cI.er X G hB gG top Ss
 have lX:=cD.er X G hB gG top RB
 have mF:=cO.er X G hB gG top T6
 have mD:=cM.er X G hB gG top S7
 have ou:=cG.er X G hB gG top RW
 have oA:=cH.er X G hB gG top RX
 have mG:=cP.er X G hB gG top T7
 have oN:=cQ.er X G hB gG top WW
 have oE:=cJ.er X G hB gG top Sw
 have iK:bA.jM l.prog K mg "BadStep" "name" "at" aY:=by
  obtain⟨pre,mid,c1,c2,j1,j2,j3,j4,j5,j6,q1,q2,q3,q4,r1,r2,r3,r4,S,hp,hm⟩:=S8
  exact⟨vB,"BadStep.__init__",sE,pre,mid,c1,c2,j1,j2,j3,j4,j5,j6,q1,q2,q3,q4,r1,r2,r3,r4,⟨a0Q X G Ea,⟨_,_,_,_,_,_,_,_,_,_,_,_,_,_,_,Eb,Ec⟩,Ed,vC,vq,Ef,Eh,Ei,sG,Ek,El,g_,gH,Df,gG,hB _ (by trivial),top,⟨_,_,_,_,_,_,_,_,_,_,_,_,_,_,_,_,_,_,_,Em,Dg,Dh,Di,Dj,Dk⟩⟩,S,by decide +kernel,by decide +kernel,by decide +kernel,Eo,Dm,hp,hm⟩
 have oG:bA.lU l.prog K mg "BadRow" "row" aZ:=by
  obtain⟨pre,cst,j1,j2,j3,q1,q2,q3,q4,q5,q6,S,kL,hp⟩:=T8
  exact⟨vH,"BadRow.__init__",qI,pre,cst,j1,j2,j3,q1,q2,q3,q4,q5,q6,⟨a0Q X G Fy,⟨_,_,_,_,_,_,_,_,_,_,_,_,_,_,_,FJ,FP⟩,FQ,vI,vD,FT,FW,FZ,sO,Ge,Gf,ig,gJ,Ep,gG,hB _ (by trivial),top,⟨_,_,_,_,_,_,_,_,_,_,_,_,_,_,_,_,_,_,_,Gg,Es,Et,Eu,Ew,Ey⟩⟩,S,by decide +kernel,by decide +kernel,Gh,kL,hB _ (by trivial),hp⟩
 have Tq:eY K bV:=⟨cI.ga,cI.gg,cI.b,cI.hd,Dq,Dr,Ds,Dt⟩
 have abq:PySem.W.exmOne K (.ref bV) (.ref bV)=some true:=a0l cI.b cI.hd cI.ty Du
 have RL:eY K bR:=⟨cD.ga,cD.gg,cD.b,cD.hd,Br,Bs,Bt,Bu⟩
 have abn:PySem.W.exmOne K (.ref bR) (.ref bR)=some true:=a0l cD.b cD.hd cD.ty Bv
 have VD:eY K bZ:=⟨cO.ga,cO.gg,cO.b,cO.hd,Gi,Gj,Gk,Gm⟩
 have abx:PySem.W.exmOne K (.ref bZ) (.ref bZ)=some true:=a0l cO.b cO.hd cO.ty Gn
 have UL:eY K bY:=⟨cM.ga,cM.gg,cM.b,cM.hd,Ez,EY,E_,Fb⟩
 have abu:PySem.W.exmOne K (.ref bY) (.ref bY)=some true:=a0l cM.b cM.hd cM.ty Fd
 have Sy:eY K bT:=⟨cG.ga,cG.gg,cG.b,cG.hd,Cq,Cr,Cu,Cv⟩
 have abo:PySem.W.exmOne K (.ref bT) (.ref bT)=some true:=a0l cG.b cG.hd cG.ty Cy
 have SJ:eY K bU:=⟨cH.ga,cH.gg,cH.b,cH.hd,Cz,CG,CJ,CK⟩
 have abp:PySem.W.exmOne K (.ref bU) (.ref bU)=some true:=a0l cH.b cH.hd cH.ty CN
 have VF:eY K b_:=⟨cP.ga,cP.gg,cP.b,cP.hd,Gp,Gq,Gr,Gu⟩
 have aby:PySem.W.exmOne K (.ref b_) (.ref b_)=some true:=a0l cP.b cP.hd cP.ty Gv
 have Yd:eY K cA:=⟨cQ.ga,cQ.gg,cQ.b,cQ.hd,Hw,Hz,HD,HF⟩
 have abA:PySem.W.exmOne K (.ref cA) (.ref cA)=some true:=a0l cQ.b cQ.hd cQ.ty HJ
 have Tr:eY K bW:=⟨cJ.ga,cJ.gg,cJ.b,cJ.hd,Dy,Dz,DG,DK⟩
 have abr:PySem.W.exmOne K (.ref bW) (.ref bW)=some true:=a0l cJ.b cJ.hd cJ.ty DN
 have UW:eY K aY:=⟨vC,vq,sG,gH,Fe,Fg,Fj,Fl⟩
 have abv:PySem.W.exmOne K (.ref aY) (.ref aY)=some true:=a0l sG gH g_ Fo
 have VG:eY K aZ:=⟨vI,vD,sO,gJ,Gx,Gy,Gz,GD⟩
 have abz:PySem.W.exmOne K (.ref aZ) (.ref aZ)=some true:=a0l sO gJ ig GF
 have Cj:=a0Q X G Bf
 have abe:PySem.W.kitOne K (.ref bV) (.ref cU)=some true:=jr jk dN uX fun _=>rfl
 have aa_:PySem.W.kitOne K (.ref bR) (.ref cU)=some true:=jr jk dN uU fun _=>rfl
 have abj:PySem.W.kitOne K (.ref bZ) (.ref cU)=some true:=jr jk dN u6 fun _=>rfl
 have abg:PySem.W.kitOne K (.ref bY) (.ref cU)=some true:=jr jk dN uZ fun _=>rfl
 have abb:PySem.W.kitOne K (.ref bT) (.ref cU)=some true:=jr jk dN uV fun _=>rfl
 have abd:PySem.W.kitOne K (.ref bU) (.ref cU)=some true:=jr jk dN uW fun _=>rfl
 have abk:PySem.W.kitOne K (.ref b_) (.ref cU)=some true:=jr jk dN u9 fun _=>rfl
 have abm:PySem.W.kitOne K (.ref cA) (.ref cU)=some true:=jr jk dN vf fun _=>rfl
 have abf:PySem.W.kitOne K (.ref bW) (.ref cU)=some true:=jr jk dN uY fun _=>rfl
 have abh:PySem.W.kitOne K (.ref aY) (.ref cU)=some true:=jr jk dN u5 fun _=>rfl
 have abl:PySem.W.kitOne K (.ref aZ) (.ref cU)=some true:=jr jk dN u_ fun _=>rfl
 have K_:=fun_mk (st:=oh) CV CW CZ
 have abt:=K_.binds (ps:=["_law_script"]) fun _ _ _ _ _ _ us hl=>match us,hl with | [_],_=>rfl
 let cc:CL:=mkC w cU bV bR bZ bY bT bU b_ cA bW aY aZ
 have cok:cc.Ok:=Wq nd
 have DR:=mj.g
 have BZ:=lX.g
 have G6:=mF.g
 have Fw:=mD.g
 have C_:=ou.g
 have Dc:=oA.g
 have G7:=mG.g
 have Ip:=oN.g
 have DW:=oE.g
 have Fx:=iK.g
 have G8:=oG.g
 have Ck:=Xp (K:=K) (L:=bx cc) (O:=cU) (ak (a0l jA jB dN uX) (ak (a0l jA jB dN uU) (ak (a0l jA jB dN u6) (ak (a0l jA jB dN uZ) (ak (a0l jA jB dN uV) (ak (a0l jA jB dN u5) (ak (a0l jA jB dN uW) (ak (a0l jA jB dN u9) (ak (a0l jA jB dN u_) (ak (a0l jA jB dN vf) (ak (a0l jA jB dN uY) eO)))))))))))
 have gR:=U9 (K:=K) (L:=bx cc) (ak ⟨Tq,(ak (j8 cI.hd cI.ty jd) (ak (aD cD.hd cD.ty jd xq) (ak (aD cO.hd cO.ty jd zA) (ak (aD cM.hd cM.ty jd yL) (ak (aD cG.hd cG.ty jd xX) (ak (aD gH g_ jd za) (ak (aD cH.hd cH.ty jd xZ) (ak (aD cP.hd cP.ty jd zF) (ak (aD gJ ig jd zM) (ak (aD cQ.hd cQ.ty jd Ax) (ak (aD cJ.hd cJ.ty jd yD) eO))))))))))),kit_ty DP⟩ (ak ⟨RL,(ak (aD cI.hd cI.ty iZ xg) (ak (j8 cD.hd cD.ty iZ) (ak (aD cO.hd cO.ty iZ xW) (ak (aD cM.hd cM.ty iZ xK) (ak (aD cG.hd cG.ty iZ wZ) (ak (aD gH g_ iZ xP) (ak (aD cH.hd cH.ty iZ w6) (ak (aD cP.hd cP.ty iZ yd) (ak (aD gJ ig iZ yj) (ak (aD cQ.hd cQ.ty iZ yW) (ak (aD cJ.hd cJ.ty iZ xG) eO))))))))))),kit_ty Bw⟩ (ak ⟨VD,(ak (aD cI.hd cI.ty jh zp) (ak (aD cD.hd cD.ty jh xT) (ak (j8 cO.hd cO.ty jh) (ak (aD cM.hd cM.ty jh zU) (ak (aD cG.hd cG.ty jh yN) (ak (aD gH g_ jh Af) (ak (aD cH.hd cH.ty jh yQ) (ak (aD cP.hd cP.ty jh Ar) (ak (aD gJ ig jh A_) (ak (aD cQ.hd cQ.ty jh BK) (ak (aD cJ.hd cJ.ty jh zH) eO))))))))))),kit_ty GJ⟩ (ak ⟨UL,(ak (aD cI.hd cI.ty jf yG) (ak (aD cD.hd cD.ty jf xH) (ak (aD cO.hd cO.ty jf zQ) (ak (j8 cM.hd cM.ty jf) (ak (aD cG.hd cG.ty jf yu) (ak (aD gH g_ jf zL) (ak (aD cH.hd cH.ty jf yx) (ak (aD cP.hd cP.ty jf z_) (ak (aD gJ ig jf Ai) (ak (aD cQ.hd cQ.ty jf Bh) (ak (aD cJ.hd cJ.ty jf yX) eO))))))))))),kit_ty Fp⟩ (ak ⟨Sy,(ak (aD cI.hd cI.ty i_ xQ) (ak (aD cD.hd cD.ty i_ wX) (ak (aD cO.hd cO.ty i_ yJ) (ak (aD cM.hd cM.ty i_ yr) (ak (j8 cG.hd cG.ty i_) (ak (aD gH g_ i_ yE) (ak (aD cH.hd cH.ty i_ xO) (ak (aD cP.hd cP.ty i_ yU) (ak (aD gJ ig i_ zj) (ak (aD cQ.hd cQ.ty i_ Ad) (ak (aD cJ.hd cJ.ty i_ yg) eO))))))))))),kit_ty CP⟩ (ak ⟨UW,(ak (aD cI.hd cI.ty jg yH) (ak (aD cD.hd cD.ty jg xJ) (ak (aD cO.hd cO.ty jg zR) (ak (aD cM.hd cM.ty jg zE) (ak (aD cG.hd cG.ty jg yw) (ak (j8 gH g_ jg) (ak (aD cH.hd cH.ty jg yC) (ak (aD cP.hd cP.ty jg Aa) (ak (aD gJ ig jg Aj) (ak (aD cQ.hd cQ.ty jg Bj) (ak (aD cJ.hd cJ.ty jg yZ) eO))))))))))),kit_ty Fq⟩ (ak ⟨SJ,(ak (aD cI.hd cI.ty jc xR) (ak (aD cD.hd cD.ty jc wY) (ak (aD cO.hd cO.ty jc yK) (ak (aD cM.hd cM.ty jc yt) (ak (aD cG.hd cG.ty jc xM) (ak (aD gH g_ jc yF) (ak (j8 cH.hd cH.ty jc) (ak (aD cP.hd cP.ty jc yV) (ak (aD gJ ig jc zm) (ak (aD cQ.hd cQ.ty jc Ae) (ak (aD cJ.hd cJ.ty jc yh) eO))))))))))),kit_ty CQ⟩ (ak ⟨VF,(ak (aD cI.hd cI.ty ji zq) (ak (aD cD.hd cD.ty ji xU) (ak (aD cO.hd cO.ty ji Ao) (ak (aD cM.hd cM.ty ji zV) (ak (aD cG.hd cG.ty ji yO) (ak (aD gH g_ ji Ag) (ak (aD cH.hd cH.ty ji yR) (ak (j8 cP.hd cP.ty ji) (ak (aD gJ ig ji Ba) (ak (aD cQ.hd cQ.ty ji BL) (ak (aD cJ.hd cJ.ty ji zJ) eO))))))))))),kit_ty GP⟩ (ak ⟨VG,(ak (aD cI.hd cI.ty jj zu) (ak (aD cD.hd cD.ty jj xV) (ak (aD cO.hd cO.ty jj Aq) (ak (aD cM.hd cM.ty jj zW) (ak (aD cG.hd cG.ty jj yP) (ak (aD gH g_ jj Ah) (ak (aD cH.hd cH.ty jj yS) (ak (aD cP.hd cP.ty jj Av) (ak (j8 gJ ig jj) (ak (aD cQ.hd cQ.ty jj BP) (ak (aD cJ.hd cJ.ty jj zK) eO))))))))))),kit_ty GX⟩ (ak ⟨Yd,(ak (aD cI.hd cI.ty jm Am) (ak (aD cD.hd cD.ty jm yI) (ak (aD cO.hd cO.ty jm Bx) (ak (aD cM.hd cM.ty jm Bg) (ak (aD cG.hd cG.ty jm zX) (ak (aD gH g_ jm Bl) (ak (aD cH.hd cH.ty jm zY) (ak (aD cP.hd cP.ty jm BJ) (ak (aD gJ ig jm BR) (ak (j8 cQ.hd cQ.ty jm) (ak (aD cJ.hd cJ.ty jm Az) eO))))))))))),kit_ty HS⟩ (ak ⟨Tr,(ak (aD cI.hd cI.ty je yq) (ak (aD cD.hd cD.ty je xr) (ak (aD cO.hd cO.ty je zB) (ak (aD cM.hd cM.ty je yM) (ak (aD cG.hd cG.ty je xY) (ak (aD gH g_ je zf) (ak (aD cH.hd cH.ty je yc) (ak (aD cP.hd cP.ty je zG) (ak (aD gJ ig je zN) (ak (aD cQ.hd cQ.ty je Ay) (ak (j8 cJ.hd cJ.ty je) eO))))))))))),kit_ty DQ⟩ eO)))))))))))
 have DY:=Ca.cal l w X G (fun _ _ _ FA=>SQ (c:=cc) FA hB) (by walk_at "bd")
 have Cg:=Bm.cal l w X G (fun _ _ _ FA=>RN (c:=cc) FA hB) (by walk_at "bd")
 have Ci:=BW.aa7 l w X G (fun _ _ _ FA=>Sq (c:=cc) FA hB mj lX mF mD ou iK oA mG oG oN oE) (by walk_at "bd")
 have B_:=Bo.QW l w X G (fun _ _ _ FA _ _ _=>RQ (c:=cc) FA hB mj lX mF mD iK ou mG oA oN oG oE) (by walk_at "bd")
 have Bq:=Bb.QW l w X G (fun _ _ _ FA _ _ _=>RJ (c:=cc) FA hB DR BZ G6 Fw C_ Fx Dc G7 G8 Ip DW gR) (by walk_at "bd")
 exact⟨_,fun s v=>.of_eq rfl,fun base _ _=>Zd (TX (c:=cc) (tW K_) hB (DY _) (Cg _) (Ci _) Cj (B_ _) (Bq _) Ck gR) (okl HK cc rfl cok)⟩
end Z
local macro_rules | `(tactic| refine $h:ident $args*)=>do
 unless args.size > 15&&args.back!.raw.isOfKind ``Lean.Parser.Term.syntheticHole do Lean.Macro.throwUnsupported
 let a:=args.pop
 `(tactic| refine($h $a* ((?hc:Z.zzPP→_) (by assumption))))

open PySem PySem.W PyProof.Rows in
set_option maxRecDepth 100000 in
set_option maxHeartbeats 0 in
theorem Z.zzWalk (HK : Z.zzPP) : PySem.Challenge.rw_orderatonce_k22_errors_family.Holds := by
 w_on;o_law;k_head;(case hw=>w_witness2);intro HK
 k_fill
 skip
 refine TY.aar (l:=PySem.Challenge.rw_orderatonce_k22_errors_family) (k:=5) (x:="_law_script") ⟨rfl,by decide,by decide⟩ rfl rfl (fun w h Y=>PySem.W.kIn_of Y) ?F
 case F=>
  intro w mg fa h KX G hmg
  refine' Z.all_mk HK KX G hmg ?hz ?gG ?top ?cI ?cD ?cO ?cM ?cG ?cH ?cP ?cQ ?cJ ?Ea ?Eb ?Ec ?Ed ?vC ?vq ?Ef ?Eh ?Ei ?sG ?Ek ?El ?g_ ?gH ?Df ?Em ?Dg ?Dh ?Di ?Dj ?Dk ?Eo ?Dm ?Fy ?FJ ?FP ?FQ ?vI ?vD ?FT ?FW ?FZ ?sO ?Ge ?Gf ?ig ?gJ ?Ep ?Gg ?Es ?Et ?Eu ?Ew ?Ey ?Gh ?Dq ?Dr ?Ds ?Dt ?Du ?Br ?Bs ?Bt ?Bu ?Bv ?Gi ?Gj ?Gk ?Gm ?Gn ?Ez ?EY ?E_ ?Fb ?Fd ?Cq ?Cr ?Cu ?Cv ?Cy ?Cz ?CG ?CJ ?CK ?CN ?Gp ?Gq ?Gr ?Gu ?Gv ?Hw ?Hz ?HD ?HF ?HJ ?Dy ?Dz ?DG ?DK ?DN ?Fe ?Fg ?Fj ?Fl ?Fo ?Gx ?Gy ?Gz ?GD ?GF ?Bf ?jk ?dN ?uX ?uU ?u6 ?uZ ?uV ?uW ?u9 ?vf ?uY ?u5 ?u_ ?jA ?jB ?DP ?Bw ?GJ ?Fp ?CP ?CQ ?GP ?HS ?DQ ?Fq ?GX ?jd ?xg ?zp ?yG ?xQ ?xR ?zq ?Am ?yq ?yH ?zu ?xq ?iZ ?xT ?xH ?wX ?wY ?xU ?yI ?xr ?xJ ?xV ?zA ?xW ?jh ?zQ ?yJ ?yK ?Ao ?Bx ?zB ?zR ?Aq ?yL ?xK ?zU ?jf ?yr ?yt ?zV ?Bg ?yM ?zE ?zW ?xX ?wZ ?yN ?yu ?i_ ?xM ?yO ?zX ?xY ?yw ?yP ?xZ ?w6 ?yQ ?yx ?xO ?jc ?yR ?zY ?yc ?yC ?yS ?zF ?yd ?Ar ?z_ ?yU ?yV ?ji ?BJ ?zG ?Aa ?Av ?Ax ?yW ?BK ?Bh ?Ad ?Ae ?BL ?jm ?Ay ?Bj ?BP ?yD ?xG ?zH ?yX ?yg ?yh ?zJ ?Az ?je ?yZ ?zK ?za ?xP ?Af ?zL ?yE ?yF ?Ag ?Bl ?zf ?jg ?Ah ?zM ?yj ?A_ ?Ai ?zj ?zm ?Ba ?BR ?zN ?Aj ?jj ?Ca ?Bm ?BW ?Bo ?Bb ?CT ?CV ?CW ?CZ ?nd
  (case hz=>walk_at "zm")
  (case gG=>k_is)
  (case top=>first|rfl|decide +kernel)
  (case cI|cD|cO|cM|cG|cH|cP|cQ|cJ=>walk_at "em")
  (case Ea|Eb=>k_is)
  (case Ec=>first|rfl|decide +kernel)
  (case Ed|vC|vq|Ef|Eh|Ei|sG|Ek|El|g_|gH=>k_is)
  (case Df=>first|with_unfolding_all rfl|skip)
  (case Em|Dg|Dh=>k_is)
  (case Di=>first|rfl|k_is)
  (case Dj=>first|rfl|decide +kernel)
  (case Dk|Eo|Dm|Fy|FJ=>k_is)
  (case FP=>first|rfl|decide +kernel)
  (case FQ|vI|vD|FT|FW|FZ|sO|Ge|Gf|ig|gJ=>k_is)
  (case Ep=>first|with_unfolding_all rfl|skip)
  (case Gg|Es|Et=>k_is)
  (case Eu=>first|rfl|k_is)
  (case Ew=>first|rfl|decide +kernel)
  (case Ey|Gh|Dq|Dr|Ds|Dt|Du|Br|Bs|Bt|Bu|Bv|Gi|Gj|Gk|Gm|Gn|Ez|EY|E_|Fb|Fd|Cq|Cr|Cu=>k_is)
  (case Cv|Cy|Cz|CG|CJ|CK|CN|Gp|Gq|Gr|Gu|Gv|Hw|Hz|HD|HF|HJ|Dy|Dz|DG|DK|DN|Fe|Fg|Fj=>k_is)
  (case Fl|Fo|Gx|Gy|Gz|GD|GF|Bf=>k_is)
  (case jk=>first|rfl|k_is|decide +kernel)
  (case dN|uX|uU|u6|uZ|uV|uW|u9|vf|uY|u5|u_|jA=>k_is)
  (case jB=>first|k_is|decide +kernel)
  (case DP|Bw|GJ|Fp|CP|CQ|GP|HS|DQ|Fq|GX|jd|xg|zp|yG|xQ|xR|zq|Am|yq|yH|zu|xq|iZ|xT=>k_is)
  (case xH|wX|wY|xU|yI|xr|xJ|xV|zA|xW|jh|zQ|yJ|yK|Ao|Bx|zB|zR|Aq|yL|xK|zU|jf|yr|yt=>k_is)
  (case zV|Bg|yM|zE|zW|xX|wZ|yN|yu|i_|xM|yO|zX|xY|yw|yP|xZ|w6|yQ|yx|xO|jc|yR|zY|yc=>k_is)
  (case yC|yS|zF|yd|Ar|z_|yU|yV|ji|BJ|zG|Aa|Av|Ax|yW|BK|Bh|Ad|Ae|BL|jm|Ay|Bj|BP|yD=>k_is)
  (case xG|zH|yX|yg|yh|zJ|Az|je|yZ|zK|za|xP|Af|zL|yE|yF|Ag|Bl|zf|jg|Ah|zM|yj|A_|Ai=>k_is)
  (case zj|zm|Ba|BR|zN|Aj|jj=>k_is)
  (case Ca|Bm|BW|Bo|Bb=>walk_at "fm")
  (case CT|CV|CW|CZ=>k_is)
  (case nd=>decide +kernel)
namespace TY
open PySem L2 DL AL PyProof.Rows
def Pv {α:Type} (o:Option α) (P:α→Prop):Prop:=∃a,o=some a∧P a
section
variable {α β γ ι ρ:Type} {P Q:α→Prop} {o:Option α}
theorem Ye {a:α} (h:P a):Pv (some a) P:=⟨a,rfl,h⟩
theorem Pv.eq {a:α} (h:Pv o (fun x=>x=a)):o=some a:=by obtain⟨x,e,rfl⟩:=h;exact e
theorem Pv.imp (h:Pv o P) (k:∀a,P a→Q a):Pv o Q:=by obtain⟨a,e,p⟩:=h;exact⟨a,e,k a p⟩
theorem nJ {f:α→Option β} {a:α} {P:β→Prop} (e:o=some a) (h:Pv (f a) P):Pv (o.bind f) P:=by subst e;exact h
theorem Yg {f:α→Option β} {a:α} {P:β→Prop} (h:Pv (f a) P):Pv (gY a f) P:=h
end
end TY
set_option maxHeartbeats 2000000
namespace TY
open PySem L2 DL AL PyProof.Rows
set_option exponentiation.threshold 3000 in
theorem Qi {i:Int} (h:-(10:Int) ^ 60≤i∧i≤(10:Int) ^ 60):i.natAbs.log2<1920:=by
 have h1:i.natAbs≤10 ^ 60:=by omega
 by_cases h0:i.natAbs=0
 ·rw[h0];decide
 ·exact(Nat.log2_lt h0 (k:=1920)).mpr (Nat.lt_of_le_of_lt h1 (a0B (show 10 ^ 60<2 ^ 200 by decide) (Nat.pow_le_pow_right (by decide:0<2) (by decide:200≤1920))))
theorem W3 {at_ number:Int} {name:Str} {tail:List Int} (h1:fW (.str name)) (h2:fW (.int number)) (h3:qN tail):(bD at_ name number tail).isSome=true:=by
 unfold bD
 repeat' split
 all_goals first|(rw[OD h1];rfl)|(rw[OD h2];rfl)|(rw[XC h1 h2];rfl)|(rw[XJ h3];rfl)
theorem Mq {ι ρ:Type} {f:ι→Unit→Option (Ct Unit ρ)}:∀{xs:List ι},(∀x∈xs,f x ()=some (.nx ()))→pY f xs ()=some (.nx ())
 | [],_=>rfl
 | x::xs,h=>by
  unfold pY
  rw[h x a0v]
  exact Mq fun y hy=>h y (a0C _ hy)
theorem Zo (sc:List Int):sJ sc=some true:=by
 refine Pv.eq ?_
 unfold sJ
 obtain⟨f,hd,hf⟩:=Wt sc 0 6 (by omega)
 refine nJ (show pD sc (0:Int) (6:Int)=_ from hf) ?_
 refine nJ (Hu (by omega) (by omega)) ?_
 refine nJ (show qG _ (1:Int)=_ from TQ _ 1 (by omega)) ?_
 refine nJ (show atI (Oj _ 1) (0:Int)=some (nm _ 0) from rfl) ?_
 refine nJ (Hu (by omega) (by omega)) (Yg ?_)
 have d1:=hd (1:Int).toNat
 generalize f (1:Int).toNat=v2 at d1 ⊢
 have hnum:∃number:Int,(if (decide ((0:Int)<(sc.length:Int)))=true then(atI sc (0:Int)).bind fun v3=>
   (rH v3 ((10:Int) ^ (60:Int).toNat)).bind fun v4=>
   gY (v4-((10:Int) ^ (59:Int).toNat)) fun vQ=>
   some vQ else some (v2-(5000000:Int)))=some number∧-(10:Int) ^ 60≤number∧number≤(10:Int) ^ 60:=by
  by_cases hs:0<sc.length
  ·rw[a0d (by simpa using hs)]
   obtain⟨v3,e3⟩:∃v3,atI sc (0:Int)=some v3:=⟨sc[0],by rw[show (0:Int)=((0:Nat):Int) from rfl,Qh,a0h hs]⟩
   rw[e3,a0k,Hr (by decide)]
   refine⟨v3%(10:Int) ^ (60:Int).toNat-(10:Int) ^ (59:Int).toNat,rfl,?_⟩
   have a1:=Int.emod_nonneg v3 (show (10:Int) ^ (60:Int).toNat≠0 by decide)
   have a2:=Int.emod_lt_of_pos v3 (show (0:Int)<(10:Int) ^ (60:Int).toNat by decide)
   have b1:(10:Int) ^ (60:Int).toNat=(10:Int) ^ 60:=rfl
   have b2:(10:Int) ^ (59:Int).toNat=(10:Int) ^ 59:=rfl
   rw[b1] at a1 a2 ⊢
   rw[b2]
   have b3:(0:Int)<(10:Int) ^ 59:=by decide
   have b4:(10:Int) ^ 59<(10:Int) ^ 60:=by decide
   generalize (10:Int) ^ 59=u at *
   generalize (10:Int) ^ 60=w at *
   omega
  ·rw[a0j (by simpa using hs)]
   refine⟨_,rfl,?_⟩
   have b:(10000000000:Int)≤(10:Int) ^ 60:=by decide
   generalize (10:Int) ^ 60=w at *
   omega
 obtain⟨number,e1,hnum⟩:=hnum
 refine nJ e1 ?_
 have b2:2≤(2:Int)+v2%4∧(2:Int)+v2%4≤5:=by omega
 generalize (2:Int)+v2%4=hi at b2 ⊢
 refine nJ (vO (by omega)) ?_
 have hl:(rng 2 hi).length≤16000000:=by rw[vP];omega
 refine nJ (N6 (g:=fun k=>f k.toNat%9) hl (fun _ _=>rfl) fun k hk=>by
  have:=N5.mp hk
  rw[Hu (by omega) (by omega)];rfl) ?_
 have ht:qN ((rng 2 hi).map fun k=>f k.toNat%9):=⟨by rw[a0P,vP];omega,fun i h=>by
  obtain⟨k,_,rfl⟩:=a0N.mp h
  refine Qi ?_
  have b:(10:Int)≤(10:Int) ^ 60:=by decide
  generalize (10:Int) ^ 60=w at *
  omega⟩
 generalize ((rng 2 hi).map fun k=>f k.toNat%9)=tail at ht ⊢
 have hN:=Zf (f (0:Int).toNat) 0
 have hS:=Wu (f (0:Int).toNat) 0
 generalize nm (f (0:Int).toNat) 0=name at hN hS ⊢
 refine nJ (vO (by omega)) ?_
 rw[Mq fun x hx=>?_]
 ·exact Ye rfl
 ·have:=N5.mp hx
  dsimp only[gY]
  rw[XF (by simp)]
  rw[a0k]
  have cs:Cm 1 (.str name):=Zg hS
  have ci:Cm 1 (.int number):=O6
  have ct:Cm 1 (vL D.int tail):=Io fun d hd=>by obtain⟨x,_,rfl⟩:=a0N.mp hd;exact O6
  have one:∀{x:D},Cm 1 x→n_ (.lst [x]) (.lst [x])=some true:=fun h=>M9 (n:=2) (Io fun d hd=>by rw[a0n.mp hd];exact h) (by omega)
  have two:∀{x y:D},Cm 1 x→Cm 1 y→n_ (.lst [x,y]) (.lst [x,y])=some true:=fun h k=>M9 (n:=2) (Io fun d hd=>by
   rcases a0c.mp hd with rfl|hd
   ·exact h
   ·rw[a0n.mp hd];exact k) (by omega)
  have hT:uR x name number tail ([(D.lst [D.str name]),(D.lst [D.str name]),(D.lst [D.str name]),(D.lst [D.str name]),(D.lst [D.int number]),(D.lst [D.str name,D.int number]),(D.lst [D.int number]),(D.lst [D.int number]),(D.lst [(vL D.int) tail]),(D.lst [D.int number])]++[(D.lst [D.int number])])=some ():=by
   unfold uR
   refine a0d ⟨by omega,W3 hN.2 (Qi hnum) ht,rfl,fun y hy=>?_⟩
   simp only[List.cons_append,List.nil_append,a0c,b0k,or_false] at hy
   rcases hy with rfl|rfl|rfl|rfl|rfl|rfl|rfl|rfl|rfl|rfl|rfl
   all_goals first|exact one cs|exact one ci|exact two cs ci|exact one ct
  rw[hT]
  rfl
end TY
theorem PySem.Challenge.cw_orderatonce_k22_errors_family_holds : PySem.Challenge.rw_orderatonce_k22_errors_family.Holds :=
 Z.zzWalk @TY.Zo
