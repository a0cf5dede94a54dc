import PyProof.Rows.All
import Wide.All
import OpenK.AllK
import Wide.FinOn
import HandS.ForMost
import HandS.Exc
import HandS.ExcOwn
import HandS.ExcField
import HandS.Small
import HandS.TupAny
import HandS.IsInst
import HandS.Flow
import HandS.Walk
import HandS.WordsExc
import HandS.Defaults
import HandS.More
import PyProof.FString
import PyProof.FString4
import KE.KExcSuper
import PyProof.FitsInt
import PyProof.StrLawsRepr
import HandS.TryMany
import HandS.ExcIs
import HandS.Star
import KE.KExcIs
import HandS.Deep
import KE.KDictDisplayH
import KE.KeyNested
import HandS.OwnEq
import HandS.IterNext
import HandS.ExcInit
import HandS.MakeKwOnly
import HandS.StrMore
import KE.KDictZip
import HandS.Style
import HandS.DictComp
import HandS.TupLen
import KE.KDictWalk
import KE.KDictList
import KE.KSuper
import KE.KEqDict
import KE.KDictPairs
import HandS.Finally
import HandS.Text
import KE.DataMinMax
import HandS.SortKw
import ObjForm.LawKit
import HandS.SetFor
import HandS.Property
import PySem.Challenge.RW_orderatonce_k03_kinds_rows
set_option Elab.async false
set_option linter.all false
set_option maxRecDepth 100000
def a0a:=@Option.bind_eq_some_iff
def a0b:=@Option.map_eq_some_iff
def a0c:=@List.mem_cons
def a0d:=@List.getElem?_eq_some_iff
def a0e:=@List.getElem?_eq_getElem
def a0f:=@L2.pss_cons
def a0g:=@if_pos
def a0h:=@if_neg
def a0i:=@Option.bind_some
def a0j:=@List.getElem?_set
def a0k:=@L2.pa_cons
def a0l:=@List.mem_of_getElem?
def a0m:=@L2.pss_nil
def a0n:=@L2.upd_ne
def a0o:=@Bool.and_eq_true
def a0p:=@List.getElem?_map
def a0q:=@decide_eq_true
def a0r:=@L2.upd_same
def a0s:=@List.mem_singleton
def a0t:=@List.getElem?_append_right
def a0u:=@List.getElem?_append_left
def a0v:=@Nat.le_refl
def a0w:=@List.zip_cons_cons
def a0x:=@L2.pe_int
def a0y:=@List.map_cons
def a0z:=@Option.some.inj
def a0A:=@L2.pa_nil
def a0B:=@List.find?_cons
def a0C:=@List.length_map
def a0D:=@List.getElem?_eq_none
def a0E:=@PySem.sizeLine_eq
def a0F:=@decide_eq_false
def a0G:=@List.mem_map
def a0H:=@List.getElem?_of_mem
def a0I:=@List.zipWith_cons_cons
def a0J:=@PySem.W.mg_of
def a0K:=@List.mem_cons_of_mem
def a0L:=@List.ext_getElem?
def a0M:=@List.mem_append_right
def a0N:=@List.mem_cons_self
def a0O:=@List.append_nil
def a0P:=@List.length_cons
def a0Q:=@List.getD_eq_getElem?_getD
def a0R:=@Classical.byContradiction
def a0S:=@List.all_cons
def a0T:=@List.length_append
def a0U:=@PySem.wpAny_bind
def a0V:=@Bool.false_ne_true
def a0W:=@if_true
def a0X:=@L2.ps_ret
def a0Y:=@List.nodup_cons
def a0Z:=@List.not_mem_nil
def b0a:=@Classical.choose_spec
def b0b:=@Nat.le_of_ble_eq_true
def b0c:=@List.mem_of_find?_eq_some
def b0d:=@PySem.wpAny_loadName_local
def b0e:=@Nat.le_trans
def b0f:=@L2.pe_str
def b0g:=@List.getElem?_range
def b0h:=@Option.map_some
def b0i:=@Nat.sub_self
def b0j:=@Nat.zero_le
def b0k:=@Nat.lt_succ_of_lt
def b0l:=@decide_eq_true_eq
def b0m:=@List.map_congr_left
def b0n:=@List.mem_map_of_mem
def b0o:=@PySem.mem_of_lookup
def b0p:=@PySem.wpAny_pure
def b0q:=@decide_false
def b0r:=@Nat.min_self
def b0s:=@List.map_map
def b0t:=@List.mem_filterMap
def b0u:=@List.length_zip
def b0v:=@List.getElem?_replicate
def b0w:=@L2.ps_if
def b0x:=@List.take_of_length_le
def b0y:=@of_decide_eq_true
def b0z:=@Nat.ne_of_lt
def b0A:=@L2.passes_of
def b0B:=@L2.pt_not
def b0C:=@List.getElem?_set_ne
def b0D:=@List.any_cons
def b0E:=@Bool.true_and
def b0F:=@Nat.le_succ
def b0G:=@List.mem_append
def b0H:=@List.foldl_cons
def b0I:=@Nat.ne_of_gt
def b0J:=@L2.takes_of
def b0K:=@PySem.wpAny_call
def b0L:=@L2.pe_lst
def b0M:=@L2.blkOk_by
local macro_rules | `(tactic| trivial)=>`(tactic| first|exact Or.inl rfl|exact Or.inr rfl|exact⟨rfl,rfl,rfl,by decide +kernel,rfl,by decide +kernel,by decide +kernel⟩|decide +kernel|fail)
namespace DL
open PySem L2 PyProof.Rows
def Ex (H H':Hp):Prop:=∀a o,H a=some o→H' a=some o
theorem Ex.refl (H:Hp):Ex H H:=fun _ _ h=>h
theorem Ex.trans {H H1 H2:Hp} (a:Ex H H1) (b:Ex H1 H2):Ex H H2:=fun x o h=>b x o (a x o h)
theorem Ex.none {H H':Hp} (e:Ex H H') {a:Addr} (h:H' a=Option.none):H a=Option.none:=by
 cases q:H a with
 | none=>rfl
 | some o=>rw[e a o q] at h;cases h
theorem Ex.new {H:Hp} {p:Addr} {o:HO} (h:H p=Option.none):Ex H (upd H p o):=fun a u e=>by
 rw[a0n (ne_of_none e h)];exact e
inductive Sm:HO→HO→Prop
 | rf (o:HO):Sm o o
 | lk (ob:Obj) (kvs):Sm (.dK kvs) (.frz ob (.dK kvs))
 | ul (ob:Obj) (kvs):Sm (.frz ob (.dK kvs)) (.dK kvs)
 | lt (ob:Obj) (kvs):Sm (.dT kvs) (.frz ob (.dT kvs))
 | ut (ob:Obj) (kvs):Sm (.frz ob (.dT kvs)) (.dT kvs)
 | le (ob:Obj) (φ):Sm (.ext φ) (.frz ob (.ext φ))
 | ue (ob:Obj) (φ):Sm (.frz ob (.ext φ)) (.ext φ)
def Rl (H H':Hp):Prop:=∀a o,H a=some o→∃o',H' a=some o'∧Sm o o'
def Rk (G H:Hp):Prop:=∀a o,G a=some o→H a=some o∨(∃ob kvs,o=.dK kvs∧H a=some (.frz ob (.dK kvs)))∨∃ob kvs,o=.dT kvs∧H a=some (.frz ob (.dT kvs))
theorem Rk.rl {G H:Hp} (r:Rk G H):Rl G H:=fun a o h=>by
 rcases r a o h with e|⟨ob,kvs,rfl,e⟩|⟨ob,kvs,rfl,e⟩
 ·exact⟨o,e,.rf o⟩
 ·exact⟨_,e,.lk ob kvs⟩
 ·exact⟨_,e,.lt ob kvs⟩
theorem Rk.ex {G H H':Hp} (r:Rk G H) (e:Ex H H'):Rk G H':=fun a o h=>by
 rcases r a o h with q|⟨ob,kvs,z,q⟩|⟨ob,kvs,z,q⟩
 ·exact .inl (e _ _ q)
 ·exact .inr (.inl ⟨ob,kvs,z,e _ _ q⟩)
 ·exact .inr (.inr ⟨ob,kvs,z,e _ _ q⟩)
theorem Rl.refl (G:Hp):Rl G G:=fun a o h=>⟨o,h,.rf o⟩
theorem Ex.rl {H H':Hp} (e:Ex H H'):Rl H H':=fun a o h=>⟨o,e a o h,.rf o⟩
theorem Rl.l {K:PySem.W.Frag} {H H':Hp} {a:Addr} {xs:List V} (r:Rl H H') (h:SqL K H a xs):SqL K H' a xs:=by
 rcases h with (h|⟨o,h⟩)|h
 ·obtain⟨o',e,s⟩:=r _ _ h;cases s;exact .inl (.inl e)
 ·obtain⟨o',e,s⟩:=r _ _ h;cases s;exact .inl (.inr ⟨_,e⟩)
 ·exact .inr h
theorem Rl.ls {H H':Hp} {a:Addr} {xs:List V} (r:Rl H H') (h:Rd H a (.lst xs)):Rd H' a (.lst xs):=by
 rcases h with h|⟨o,h⟩
 ·obtain⟨o',e,s⟩:=r _ _ h;cases s;exact .inl e
 ·obtain⟨o',e,s⟩:=r _ _ h;cases s;exact .inr ⟨_,e⟩
theorem Rl.t {K:PySem.W.Frag} {H H':Hp} {a:Addr} {xs:List V} (r:Rl H H') (h:SqT K H a xs):SqT K H' a xs:=by
 rcases h with (h|⟨o,h⟩)|h
 ·obtain⟨o',e,s⟩:=r _ _ h;cases s;exact .inl (.inl e)
 ·obtain⟨o',e,s⟩:=r _ _ h;cases s;exact .inl (.inr ⟨_,e⟩)
 ·exact .inr h
theorem Rl.k {H H':Hp} {a:Addr} {kvs:List (Key×V)} (r:Rl H H') (h:Rd H a (.dK kvs)):Rd H' a (.dK kvs):=by
 rcases h with h|⟨o,h⟩
 ·obtain⟨o',e,s⟩:=r _ _ h
  cases s with
  | rf=>exact .inl e
  | lk ob=>exact .inr ⟨_,e⟩
 ·obtain⟨o',e,s⟩:=r _ _ h
  cases s with
  | rf=>exact .inr ⟨_,e⟩
  | ul=>exact .inl e
theorem Rl.kt {H H':Hp} {a:Addr} {kvs:List (List Key×V)} (r:Rl H H') (h:Rd H a (.dT kvs)):Rd H' a (.dT kvs):=by
 rcases h with h|⟨o,h⟩
 ·obtain⟨o',e,s⟩:=r _ _ h
  cases s with
  | rf=>exact .inl e
  | lt ob=>exact .inr ⟨_,e⟩
 ·obtain⟨o',e,s⟩:=r _ _ h
  cases s with
  | rf=>exact .inr ⟨_,e⟩
  | ut=>exact .inl e
theorem Rl.i {H H':Hp} {a C dx:Addr} {fs:List (Str×V)} (r:Rl H H') (h:H a=some (.ins C dx fs)):H' a=some (.ins C dx fs):=by
 obtain⟨o',e,s⟩:=r _ _ h;cases s;exact e
theorem Rl.x {H H':Hp} {a:Addr} {fs:List (Str×V)} (r:Rl H H') (h:H a=some (.xd fs)):H' a=some (.xd fs):=by
 obtain⟨o',e,s⟩:=r _ _ h;cases s;exact e
theorem Rl.e {H H':Hp} {a:Addr} {φ:Heap→Prop} (r:Rl H H') (h:Rd H a (.ext φ)):Rd H' a (.ext φ):=by
 rcases h with h|⟨o,h⟩
 ·obtain⟨o',e,s⟩:=r _ _ h
  cases s with
  | rf=>exact .inl e
  | le ob=>exact .inr ⟨_,e⟩
 ·obtain⟨o',e,s⟩:=r _ _ h
  cases s with
  | rf=>exact .inr ⟨_,e⟩
  | ue=>exact .inl e
section
variable (K:PySem.W.Frag)
mutual
def Nk (H:Hp):NestedKey→V→Prop
 | .none,v=>v=.non
 | .num i,v=>v=.int i
 | .text x,v=>v=.str x
 | .tup ks,v=>∃a vs,v=.ref a∧SqT K H a vs∧iW H ks vs
def iW (H:Hp):List NestedKey→List V→Prop
 | [],vs=>vs=[]
 | k::ks,vs=>∃v r,vs=v::r∧Nk H k v∧iW H ks r
end
variable {K}
mutual
theorem Nk.mono {H H':Hp} (r:Rl H H'):∀(k:NestedKey) (v:V),Nk K H k v→Nk K H' k v
 | .none,v,h=>by unfold Nk at h ⊢;exact h
 | .num i,v,h=>by unfold Nk at h ⊢;exact h
 | .text x,v,h=>by unfold Nk at h ⊢;exact h
 | .tup ks,v,h=>by
  unfold Nk at h ⊢
  obtain⟨a,vs,e,s,q⟩:=h
  exact⟨a,vs,e,r.t s,iW.mono r ks vs q⟩
theorem iW.mono {H H':Hp} (r:Rl H H'):∀(ks:List NestedKey) (vs:List V),iW K H ks vs→iW K H' ks vs
 | [],vs,h=>by unfold iW at h ⊢;exact h
 | k::ks,vs,h=>by
  unfold iW at h ⊢
  obtain⟨v,t,e,p,q⟩:=h
  exact⟨v,t,e,Nk.mono r k v p,iW.mono r ks t q⟩
end
end
abbrev NE:=NestedKey×Addr×V
def agm (w:World) (a:Addr) (kvs:List NE) (h:Heap):Prop:=
 kvs.length≤sizeLine∧(a == sysModules)=false∧(∀p∈kvs,p.1.depth≤8)∧∃xs:List (NestedKey×Addr×Value),
  Paired (fun(p:NE) (q:NestedKey×Addr×Value)=>p.1=q.1∧p.2.1=q.2.1∧RelV p.2.2 q.2.2) kvs xs∧
  ∃o es ep,h.get? a=some o∧o.ExactDict∧o.data=.dict es ep∧es.toList=xs.map (fun x=>(⟨x.1.hash w,.ref x.2.1,x.2.2⟩:DictEntry))∧(xs.map (·.1)).Nodup
abbrev QF (w:World) (a:Addr) (kvs:List NE):HO:=.ext (agm w a kvs)
inductive D where
 | non|bl (b:Bool)|int (i:Int)|str (x:Str)|ref (a:Addr)|ty (n:String)
 | lst (xs:List D)|tup (xs:List D)|dG (ns:List Int)
 | aV (ks:List Key) (xs:List D)|dct (ks:List (List Key)) (xs:List D)
 | oF (w:World) (ks:List NestedKey) (xs:List D)
 | ins (C:Addr) (fs:List Str) (xs:List D)
 | exc (a C dd:Addr) (fs:List Str) (xs:List D)
 deriving Inhabited
section
variable (K:PySem.W.Frag)
mutual
def Rp (H:Hp):D→V→Prop
 | .non,v=>v=.non
 | .bl b,v=>v=.bl b
 | .int i,v=>v=.int i
 | .str x,v=>v=.str x
 | .ref a,v=>v=.ref a
 | .ty n,v=>v=.ty n
 | .lst xs,v=>∃a vs,v=.ref a∧Rd H a (.lst vs)∧aq H xs vs
 | .dG ns,v=>∃a,v=.ref a∧SqL K H a (ns.map V.int)
 | .tup xs,v=>∃a vs,v=.ref a∧SqT K H a vs∧aq H xs vs
 | .aV ks xs,v=>∃a vs,v=.ref a∧Rd H a (.dK (ks.zip vs))∧ks.length=vs.length∧aq H xs vs
 | .dct ks xs,v=>∃a vs,v=.ref a∧Rd H a (.dT (ks.zip vs))∧ks.length=vs.length∧aq H xs vs
 | .oF w ks xs,v=>∃(a b:Addr) (vs:List V) (cP:List Addr),v=.ref a∧Rd H a (QF w b (ks.zip (cP.zip vs)))∧ks.length=cP.length∧iW K H ks (cP.map V.ref)∧ks.length=vs.length∧aq H xs vs
 | .ins C fs xs,v=>∃a dx vs,v=.ref a∧H a=some (.ins C dx (fs.zip vs))∧fs.length=vs.length∧aq H xs vs
 | .exc a C dd fs xs,v=>∃vs,v=.ref a∧H dd=some (.xd (fs.zip vs))∧fs.length=vs.length∧aq H xs vs
def aq (H:Hp):List D→List V→Prop
 | [],vs=>vs=[]
 | d::ds,vs=>∃v r,vs=v::r∧Rp H d v∧aq H ds r
end
variable {K}
mutual
theorem Rp.mono {H H':Hp} (r:Rl H H'):∀(d:D) (v:V),Rp K H d v→Rp K H' d v
 | .non,v,h=>h
 | .bl b,v,h=>h
 | .int i,v,h=>h
 | .str x,v,h=>h
 | .ref a,v,h=>h
 | .ty n,v,h=>h
 | .lst xs,v,h=>by
  unfold Rp at h ⊢
  obtain⟨a,vs,e,s,q⟩:=h
  exact⟨a,vs,e,r.ls s,aq.mono r xs vs q⟩
 | .dG ns,v,h=>by
  unfold Rp at h ⊢
  obtain⟨a,e,s⟩:=h
  exact⟨a,e,r.l s⟩
 | .tup xs,v,h=>by
  unfold Rp at h ⊢
  obtain⟨a,vs,e,s,q⟩:=h
  exact⟨a,vs,e,r.t s,aq.mono r xs vs q⟩
 | .aV ks xs,v,h=>by
  unfold Rp at h ⊢
  obtain⟨a,vs,e,s,z,q⟩:=h
  exact⟨a,vs,e,r.k s,z,aq.mono r xs vs q⟩
 | .dct ks xs,v,h=>by
  unfold Rp at h ⊢
  obtain⟨a,vs,e,s,z,q⟩:=h
  exact⟨a,vs,e,r.kt s,z,aq.mono r xs vs q⟩
 | .oF w ks xs,v,h=>by
  unfold Rp at h ⊢
  obtain⟨a,b,vs,cP,e,s,l,n,z,q⟩:=h
  exact⟨a,b,vs,cP,e,r.e s,l,iW.mono r _ _ n,z,aq.mono r xs vs q⟩
 | .ins C fs xs,v,h=>by
  unfold Rp at h ⊢
  obtain⟨a,dx,vs,e,s,z,q⟩:=h
  exact⟨a,dx,vs,e,r.i s,z,aq.mono r xs vs q⟩
 | .exc a C dd fs xs,v,h=>by
  unfold Rp at h ⊢
  obtain⟨vs,e,s,z,q⟩:=h
  exact⟨vs,e,r.x s,z,aq.mono r xs vs q⟩
theorem aq.mono {H H':Hp} (r:Rl H H'):∀(ds:List D) (vs:List V),aq K H ds vs→aq K H' ds vs
 | [],vs,h=>h
 | d::ds,vs,h=>by
  unfold aq at h ⊢
  obtain⟨v,t,e,p,q⟩:=h
  exact⟨v,t,e,Rp.mono r d v p,aq.mono r ds t q⟩
end
theorem aq.len {H:Hp}:∀{ds:List D} {vs:List V},aq K H ds vs→ds.length=vs.length
 | [],vs,h=>by unfold aq at h;subst h;rfl
 | d::ds,vs,h=>by
  unfold aq at h
  obtain⟨v,t,rfl,p,q⟩:=h
  rw[a0P,a0P,aq.len q]
theorem aq.get {H:Hp}:∀{ds:List D} {vs:List V} {i:Nat} {d:D},aq K H ds vs→ds[i]?=some d→∃v,vs[i]?=some v∧Rp K H d v
 | [],vs,i,d,h,e=>by simp at e
 | x::ds,vs,i,d,h,e=>by
  unfold aq at h
  obtain⟨v,t,rfl,p,q⟩:=h
  cases i with
  | zero=>simp at e;subst e;exact⟨v,rfl,p⟩
  | succ i=>
   obtain⟨u,a,b⟩:=aq.get (i:=i) q (by simpa using e)
   exact⟨u,by simpa using a,b⟩
theorem aq.app {H:Hp}:∀{ds es:List D} {vs us:List V},aq K H ds vs→aq K H es us→aq K H (ds++es) (vs++us)
 | [],es,vs,us,h,h'=>by unfold aq at h;subst h;exact h'
 | d::ds,es,vs,us,h,h'=>by
  unfold aq at h
  obtain⟨v,t,rfl,p,q⟩:=h
  show aq K H (d::(ds++es)) _
  unfold aq
  exact⟨v,t++us,rfl,p,aq.app q h'⟩
theorem aq.one {H:Hp} {d:D} {v:V} (h:Rp K H d v):aq K H [d] [v]:=by
 unfold aq;exact⟨v,[],rfl,h,by unfold aq;rfl⟩
theorem aq.nil {H:Hp}:aq K H [] []:=by unfold aq;rfl
theorem aq.cons {H:Hp} {d:D} {v:V} {ds:List D} {vs:List V} (h:Rp K H d v) (t:aq K H ds vs):aq K H (d::ds) (v::vs):=by
 unfold aq;exact⟨v,vs,rfl,h,t⟩
theorem aq.set {H:Hp}:∀{ds:List D} {vs:List V} (i:Nat) {d:D} {v:V},aq K H ds vs→Rp K H d v→aq K H (ds.set i d) (vs.set i v)
 | [],vs,i,d,v,h,_=>by unfold aq at h;subst h;exact aq.nil
 | x::ds,vs,i,d,v,h,p=>by
  unfold aq at h
  obtain⟨w,t,rfl,p',q⟩:=h
  cases i with
  | zero=>exact aq.cons p q
  | succ i=>exact aq.cons p' (aq.set i q p)
theorem aq.take {H:Hp}:∀{ds:List D} {vs:List V} (n:Nat),aq K H ds vs→aq K H (ds.take n) (vs.take n)
 | ds,vs,0,h=>aq.nil
 | [],vs,n+1,h=>by unfold aq at h;subst h;exact aq.nil
 | d::ds,vs,n+1,h=>by
  unfold aq at h
  obtain⟨v,t,rfl,p,q⟩:=h
  exact aq.cons p (aq.take n q)
theorem aq.drop {H:Hp}:∀{ds:List D} {vs:List V} (n:Nat),aq K H ds vs→aq K H (ds.drop n) (vs.drop n)
 | ds,vs,0,h=>h
 | [],vs,n+1,h=>by unfold aq at h;subst h;exact aq.nil
 | d::ds,vs,n+1,h=>by
  unfold aq at h
  obtain⟨v,t,rfl,p,q⟩:=h
  exact aq.drop n q
theorem aq.qI {H:Hp} {vs:List V} (h:aq K H [] vs):vs=[]:=by unfold aq at h;exact h
theorem aq.qG {H:Hp} {d:D} {ds:List D} {vs:List V} (h:aq K H (d::ds) vs):∃v t,vs=v::t∧Rp K H d v∧aq K H ds t:=by unfold aq at h;exact h
theorem Rp.mX {H:Hp} {i:Int} {v:V} (h:Rp K H (.int i) v):v=.int i:=h
theorem Rp.oG {H:Hp} {i:Bool} {v:V} (h:Rp K H (.bl i) v):v=.bl i:=h
theorem Rp.eG {H:Hp} {i:Str} {v:V} (h:Rp K H (.str i) v):v=.str i:=h
end
section
variable {K:PySem.W.Frag} {x y z d:D}
def gR (K:PySem.W.Frag) (r:R2) (x y z:D):Prop:=∀Hb H v u (Q:VK),Ex Hb H→Rp K Hb x v→Rp K Hb y u→(∀w,(∀Hb,Rp K Hb z w)→Q w H)→r v u H Q
theorem agn {C:Int→Int→Prop} {g:Int→Int→V} {i j:Int} (hc:C i j) (hz:∀Hb,Rp K Hb z (g i j)):gR K (rI C g) (.int i) (.int j) z:=fun Hb H v u Q e hv hu q=>⟨i,j,hv,hu,hc,q _ hz⟩
theorem ae2 {g:Int→Int→V} {i j:Int} (hz:∀Hb,Rp K Hb z (g i j)):gR K (rI0 g) (.int i) (.int j) z:=fun Hb H v u Q e hv hu q=>⟨i,j,hv,hu,q _ hz⟩
end
section
variable {X:Cx}
def iY (r r':R2):R2:=fun x y H Q=>r x y H Q∨r' x y H Q
theorem OpR.or {f:Value→Value→Sem Value} {r r':R2} (h:OpR X f r) (h':OpR X f r'):OpR X f (iY r r'):=fun pins s σ H x y v u Q I rx ry q=>q.elim (h pins s σ H x y v u Q I rx ry) (h' pins s σ H x y v u Q I rx ry)
theorem IxR.or {r r':R2} (h:IxR X r) (h':IxR X r'):IxR X (iY r r'):=fun va sl pins s σ H x y v u Q I rx ry q hs=>q.elim (fun q=>h va sl pins s σ H x y v u Q I rx ry q hs) (fun q=>h' va sl pins s σ H x y v u Q I rx ry q hs)
theorem CallR.or {f:Value} {r r':List V→Hp→VK→Prop} (h:CallR X f r) (h':CallR X f r'):CallR X f (fun xs H Q=>r xs H Q∨r' xs H Q):=fun pins s σ H xs us Q I rx q=>q.elim (h pins s σ H xs us Q I rx) (h' pins s σ H xs us Q I rx)
def rAddS:R2:=fun x y H Q=>∃i j,x=.str i∧y=.str j∧i.length+j.length≤sizeLine∧Q (.str (i++j)) H
def WL:R2:=fun x y H Q=>∃l b xs zs,x=.ref l∧y=.ref b∧Rd H l (.lst xs)∧Rd H b (.lst zs)∧xs.length+zs.length≤sizeLine∧∀p,H p=none→Q (.ref p) (upd H p (.lst (xs++zs)))
theorem acF:OpR X (binaryOp .Add) WL:=by
 intro pins s σ H x y v u Q I rx ry h
 obtain⟨l,b,xs,zs,rfl,rfl,hH,hB,hz,q⟩:=h
 cases rx
 cases ry
 obtain⟨z,its,n,r,e⟩:=(show ObjOk X.prog X.w H s.heap l (.lst xs) from hH.ok I.hok)
 obtain⟨z2,its2,n2,r2,e2⟩:=(show ObjOk X.prog X.w H s.heap b (.lst zs) from hB.ok I.hok)
 have hl:=r.length
 have hl2:=r2.length
 refine PySem.P.add_list e e2 ?_ (by rw[List.size_toArray,List.size_toArray];omega)
 have ea:its.toArray++its2.toArray=(its++its2).toArray:=by simp
 rw[ea]
 exact⟨.ref _,_,I.lnew (t':=s.toks) (r.append r2) (by rw[a0T];omega),rfl,q _ I.fresh⟩
def G9 (K:PySem.W.Frag):R2:=iY (rI0 fun i j=>.int (i+j)) (iY rAddS (iY WL (rCatA K)))
def Py:R2:=rI0 fun i j=>.int (i-j)
def PB:R2:=rI CMul fun i j=>.int (i*j)
def PL:R2:=rI (fun _ j=>0<j) fun i j=>.int (i%j)
def PN:R2:=rI CDiv fun i j=>.int (i/j)
def P0:R2:=rI CPow fun i j=>.int (i ^ j.toNat)
def QG:R2:=rI0 fun i j=>.bl (decide (i<j))
def Ye:R2:=rI0 fun i j=>.bl (decide (i≤j))
def QH:R2:=rI0 fun i j=>.bl (decide (j≤i))
def qQ (K:PySem.W.Frag):R2:=iY rEq (rEqD K)
def za (K:PySem.W.Frag):R2:=iY rNe (rNeD K)
def G_ (neg:Bool):R2:=fun y x H Q=>∃a o,x=.ref a∧DGet H a y o∧Q (.bl (if neg then !o.isSome else o.isSome)) H
def rSIn (neg:Bool):R2:=fun x y H Q=>∃(c:Nat) (z:Str),x=.str ⟨#[c]⟩∧y=.str z∧Q (.bl (if neg then !decide (c∈z.cps.toList) else decide (c∈z.cps.toList))) H
def WM (K:PySem.W.Frag) (neg:Bool):R2:=if neg then rNotInD K else rInD K
def HJ (K:PySem.W.Frag) (neg:Bool):R2:=iY (rIn K neg) (iY (G_ neg) (iY (rSIn neg) (WM K neg)))
def rIxD:R2:=fun x y H Q=>∃a v,x=.ref a∧DGet H a y (some v)∧Q v H
def HS (K:PySem.W.Frag):R2:=iY (rIxL K) (iY (rIxT K) (iY rIxS rIxD))
theorem adG:OpR X (binaryOp .Add) (G9 X.K):=OpR.or op_add (OpR.or op_add_str (OpR.or acF op_catA))
theorem adH:OpR X (binaryOp .Sub) Py:=op_sub
theorem adI:OpR X (binaryOp .Mult) PB:=op_mul
theorem adJ:OpR X (binaryOp .Mod) PL:=op_mod
theorem adK:OpR X (binaryOp .FloorDiv) PN:=op_fdiv
theorem adL:OpR X (binaryOp .Pow) P0:=op_pow
theorem GX:OpR X (compareOp .Lt) QG:=op_lt
theorem lA:OpR X (compareOp .LtE) Ye:=op_le
theorem ae3:OpR X (compareOp .GtE) QH:=op_ge
theorem WQ {k:Nat} (hr:Room k X.A):OpR X (compareOp .Eq) (qQ X.K):=OpR.or op_eq (op_eqD hr.units)
theorem ae4 {k:Nat} (hr:Room k X.A):OpR X (compareOp .NotEq) (za X.K):=OpR.or op_ne (op_neD hr.units)
theorem acG {k:Nat} (hr:Room k X.A):OpR X (compareOp .NotIn) (G_ true):=fun pins s σ H y x v u Q I ry rx h=>by
 obtain⟨a,o,rfl,g,q⟩:=h
 cases rx
 exact d_notIn (hu_of hr) I g ry fun s' I'=>⟨.bl (!o.isSome),H,I',rfl,q⟩
theorem adM {k:Nat} (hr:Room k X.A):OpR X (compareOp .NotIn) (HJ X.K true):=OpR.or op_notIn_seq (OpR.or (acG hr) (OpR.or op_notIn_sign (op_notInD (by have:=hr.un;omega))))
theorem adN {k:Nat} (hr:Room k X.A):IxR X rIxD:=fun va sl pins s σ H x y v u Q I rx ry h hs=>by
 obtain⟨a,z,rfl,g,q⟩:=h
 cases rx
 exact PyProof.Rows.tail_any (dict_typeIs I g) PySem.F.slot_dict_getitem.lookup (d_getItem (hu_of hr) I g ry fun w' s' I' rw'=>⟨z,H,I',rw',q⟩) hs
theorem ae5 {k:Nat} (hr:Room k X.A):IxR X (HS X.K):=IxR.or ix_list (IxR.or ix_tup (IxR.or ix_str (adN hr)))
def yL (K:PySem.W.Frag):List V→Hp→VK→Prop:=fun xs H Q=>(∃x n,xs=[x]∧LenV K x H n∧Q (.int n) H)∨(∃(a:Addr) (kvs:List (Key×V)),xs=[V.ref a]∧Rd H a (.dK kvs)∧Q (.int kvs.length) H)
theorem abC:CallR X (.builtin "len") (fun xs H Q=>∃(a:Addr) (kvs:List (Key×V)),xs=[V.ref a]∧Rd H a (.dK kvs)∧Q (.int kvs.length) H):=by
 intro pins s σ H xs us Q I r h
 obtain⟨a,kvs,rfl,ha,q⟩:=h
 obtain⟨u,rfl,ru⟩:=vals1 r
 cases ru
 exact d_len I ha fun t s' I'=>⟨.int kvs.length,H,I',⟨t,rfl⟩,q⟩
theorem abP:CallR X (.builtin "len") (yL X.K):=CallR.or call_len abC
def P_:List V→Hp→VK→Prop:=fun xs H Q=>(∃i,xs=[.int i]∧Q (.int i) H)∨∃k,xs=[.bl k]∧Q (.int (if k then 1 else 0)) H
theorem abQ:CallR X (.type "int") P_:=call_int1
end
section
variable {K:PySem.W.Frag} {ta tb te tx:TE} {tt tu:TT} {x y z d:D} {b:Bool} {i j:Int}
theorem gR.inl {r r':R2} (h:gR K r x y z):gR K (iY r r') x y z:=fun Hb H v u Q e hv hu q=>.inl (h Hb H v u Q e hv hu q)
theorem gR.inr {r r':R2} (h:gR K r' x y z):gR K (iY r r') x y z:=fun Hb H v u Q e hv hu q=>.inr (h Hb H v u Q e hv hu q)
theorem dec_str {i j:Str}:decide (V.str i=V.str j)=decide (i=j):=by
 rw[Bool.eq_iff_iff];simp
theorem Vm {Hb:Hp} {ds:List D} {vs:List V} {i:Int} {d:D} (r:aq K Hb ds vs) (h:atI ds i=some d):∃v,atI vs i=some v∧Rp K Hb d v:=by
 unfold atI at h ⊢
 rw[← r.len]
 cases q:ixN ds.length i with
 | none=>rw[q] at h;cases h
 | some j=>
  rw[q,a0i] at h
  rw[a0i]
  exact r.get h
end
def qJ (lo:Int) (n:Nat):List D:=(List.range n).map fun i=>D.int (lo+(i:Nat))
theorem abR {lo:Int} {n i:Nat} {d:D} (h:(qJ lo n)[i]?=some d):i<n∧d=.int (lo+i):=by
 unfold qJ at h
 rw[a0p] at h
 cases q:(List.range n)[i]? with
 | none=>rw[q] at h;cases h
 | some k=>
  rw[q] at h
  obtain⟨h1,h2⟩:=a0d.mp q
  rw[List.getElem_range] at h2
  subst h2
  rw[List.length_range] at h1
  exact⟨h1,(a0z h).symm⟩
theorem UJ {lo:Int} {n:Nat}:(qJ lo n).length=n:=by unfold qJ;simp
def yM (x:Str):List D:=x.cps.toList.map fun c=>D.str ⟨#[c]⟩
theorem UL {x:Str}:(yM x).length=x.length:=by unfold yM;simp[Str.length]
theorem Ur (σ:L2.St):∀vs:List Nat,wipe (wipe σ vs) vs=wipe σ vs:=by
 intro vs
 refine a0L fun i=>?_
 have key:∀(τ:L2.St) (us:List Nat),(wipe τ us)[i]?=if i∈us then(τ[i]?).map fun _=>none else τ[i]?:=by
  intro τ us
  induction us with
  | nil=>simp[wipe]
  | cons u us ih=>
   unfold wipe
   rw[a0j]
   by_cases q:u=i
   ·subst q
    rw[a0g rfl,a0g (a0N ..),wipe_length]
    by_cases z:u<τ.length
    ·rw[a0g z,a0e z];rfl
    ·rw[a0h z,a0D (by omega)];rfl
   ·rw[a0h q,ih]
    by_cases z:i∈us
    ·rw[a0g z,a0g (a0K _ z)]
    ·rw[a0h z,a0h (fun y=>(a0c.mp y).elim (fun e=>q e.symm) z)]
 rw[key,key]
 by_cases z:i∈vs
 ·rw[a0g z,a0g z];cases σ[i]?<;>rfl
 ·rw[a0h z]
section
variable {K:PySem.W.Frag}
theorem abS {N:List Str} {vs:List V} {i:Nat} {v:V} (hv:vs[i]?=some v):(L2.start N vs)[i]?=some (some v):=by
 unfold L2.start
 have hi:i<vs.length:=(a0d.mp hv).1
 rw[a0u (by simpa using hi),a0p,hv];rfl
structure fX (K:PySem.W.Frag) (x qual:Str) (st:Stmt) (f:Addr) (fd:FuncData):Prop where
 ex:∃(oc:Value) (od:Option Addr) (dV kV doc pm:Value) (an:Option Addr) (cdv ct:Value) (osl:Array (Option Value)),
  fd=PySem.W.fnOf x qual (defArgs st) (defBody st) (defScope st) dV kV doc pm an cdv ct∧K.lookup f=some ⟨oc,od,.func fd,osl⟩∧PySem.W.codeIn K cdv qual=true
 kp:PySem.W.keepIn K (.ref f)=true
theorem iK {x qual:Str} {st:Stmt} {f:Addr} {fd:FuncData} (F:Fun K x qual st f fd):fX K x qual st f fd:=by
 obtain⟨⟨oc,od,kV,doc,pm,an,cdv,ct,osl,h⟩,k⟩:=F
 exact⟨⟨oc,od,.none,kV,doc,pm,an,cdv,ct,osl,h⟩,k⟩
theorem WR {x qual:Str} {st:Stmt} {f:Addr} {fd:FuncData} {dvs:List V} {kws:List (Str×V)} (F:FunD K x qual (defArgs st) (defBody st) (defScope st) dvs kws f fd):fX K x qual st f fd:=by
 obtain⟨⟨oc,od,dV,kV,doc,pm,an,cdv,ct,osl,h1,h2,h3,_⟩,k⟩:=F
 exact⟨⟨oc,od,dV,kV,doc,pm,an,cdv,ct,osl,h1,h2,h3⟩,k⟩
theorem fX.okX {P:Program} {w:World} {mg:Str→Option Value} {base:Heap} {x qual:Str} {st:Stmt} {f:Addr} {fd:FuncData} {N ps:List Str} {k:Nat} {sp:Sp} (F:fX K x qual st f fd) (S:FnScope N ps (defScope st)) (len:∀vs H Q E,sp vs H Q E→vs.length=ps.length)
  (hbody:∀(cdv:Value) (A:Around) (outer:List Env) (s:Shared) (H:Hp) (vs:List V) (Q:VK) (E:XK),Room k (A.deeper (envOfC qual (defScope st) s.heap.objs.size f cdv))→sp vs H Q E→
   ∃t,PSs (cxOf (L2.CX P w) P w K mg base N qual (defScope st) f cdv A outer s H E) (defBody st) t∧t {nx:=fun _ H'=>Q .non H',rt:=Q} (L2.start N vs) H):FnOk P w K mg base (L2.CX P w) (k+1) f fd ps sp:=by
 obtain⟨oc,od,dV,kV,doc,pm,an,cdv,ct,osl,rfl,lk,hcd⟩:=F.ex
 exact fn_of lk hcd S len fun A outer s H vs Q E hr hsp=>hbody cdv A outer s H vs Q E hr hsp
structure Cal (P:Program) (w:World) (K:PySem.W.Frag) (mg:Str→Option Value) (base:Heap) (x:Str) (ps:List Str) (k:Nat) (sp:Sp):Prop where
 ex:∃f fd,FnOk P w K mg base (L2.CX P w) k f fd ps sp∧mg x=some (.ref f)∧PySem.W.keepIn K (.ref f)=true∧Binds K fd ps []
end
section
variable {X:Cx} {x:Str} {ps:List Str} {k j:Nat} {sp:Sp} {W:WX} {e:Expr} {es:List Expr} {t:TA} {p pos:Pos}
theorem qC (C:Cal X.prog X.w X.K X.mg X.base x ps k sp) (hr:Room j X.A) (hk:k≤j) (tk:Takes X W) (ha:PA X (e::es) t) (hg:Gl X x:=by rfl) (hdb:(x == ("__debug__":Str))=false:=by decide)
  (he:starEach (e::es) X.env=(false,eval e X.env)::starEach es X.env:=by rfl) (hpl:(backTo pos (starEach es X.env)).any (·.1)=false:=by rfl):PE X (.Call (.Name x p) (e::es) [] pos) (tCallS sp (WE W) t):=by
 obtain⟨f,fd,h1,h2,h3,h4⟩:=C.ex
 exact pe_callS h1 (hr.mono hk) hg h2 h3 h4 (fun σ=>passAt tk σ) ha hdb he hpl
end
def V5:List Str:=["len","int","range","isinstance","list","tuple","enumerate","sum","any","str","bool","dict","super","sorted","reversed","iter","abs","max","min","ValueError","Exception","zip","all"]
def bZ (mg:Str→Option Value):Prop:=∀x∈V5,mg x=none
section
variable {X:Cx} {a b c e l:Expr} {es:List Expr} {ta tb tc te tl:TE} {t:TA} {pos p:Pos} {k:Nat} {x:Str}
theorem p_add (ha:PE X a ta) (hb:PE X b tb):PE X (.BinOp a .Add b pos) (tOp (G9 X.K) ta tb):=pe_op adG ha hb
theorem WT (ha:PE X a ta) (hb:PE X b tb):PE X (.BinOp a .Sub b pos) (tOp Py ta tb):=pe_op adH ha hb
theorem Bq (ha:PE X a ta) (hb:PE X b tb):PE X (.BinOp a .Mult b pos) (tOp PB ta tb):=pe_op adI ha hb
theorem mO (ha:PE X a ta) (hb:PE X b tb):PE X (.BinOp a .Mod b pos) (tOp PL ta tb):=pe_op adJ ha hb
theorem ae6 (ha:PE X a ta) (hb:PE X b tb):PE X (.BinOp a .FloorDiv b pos) (tOp PN ta tb):=pe_op adK ha hb
theorem WW (ha:PE X a ta) (hb:PE X b tb):PE X (.BinOp a .Pow b pos) (tOp P0 ta tb):=pe_op adL ha hb
theorem WY (ha:PE X a ta):PE X (.UnaryOp .USub a pos) (tUn (rU fun i=>.int (-i)) ta):=pe_un un_neg ha
theorem ago (ha:PE X a ta) (hb:PE X b tb):PE X (.Compare a [.GtE] [b] pos) (tOp QH ta tb):=pe_cmpR ae3 ha hb (nomark _)
theorem p_eq (hr:Room k X.A) (ha:PE X a ta) (hb:PE X b tb):PE X (.Compare a [.Eq] [b] pos) (tOp (qQ X.K) ta tb):=pe_cmpR (WQ hr) ha hb (nomark _)
theorem q_lt (ha:PE X a ta) (hb:PE X b tb):PT X (.Compare a [.Lt] [b] pos) (tTest (tOp QG ta tb)):=pt_cmpR GX ha hb (nomark _)
theorem agp (hr:Room k X.A) (ha:PE X a ta) (hb:PE X b tb):PT X (.Compare a [.Eq] [b] pos) (tTest (tOp (qQ X.K) ta tb)):=pt_cmpR (WQ hr) ha hb (nomark _)
theorem agq (hr:Room k X.A) (ha:PE X a ta) (hb:PE X b tb):PT X (.Compare a [.NotEq] [b] pos) (tTest (tOp (za X.K) ta tb)):=pt_cmpR (ae4 hr) ha hb (nomark _)
theorem ae7 (hr:Room k X.A) (ha:PE X a ta) (hb:PE X b tb) (hm:behindInMarks .NotIn b=false:=by with_unfolding_all rfl):PT X (.Compare a [.NotIn] [b] pos) (tTest (tOp (HJ X.K true) ta tb)):=pt_cmpR (adM hr) ha hb hm
theorem sG {op op':CmpOp} {r r':R2} (ho:OpR X (compareOp op) r) (ho':OpR X (compareOp op') r') (ha:PE X a ta) (hb:PE X b tb) (hc:PE X c tc) (hm:lastMarks [op,op'] [b,c]=false:=by with_unfolding_all rfl):PT X (.Compare a [op,op'] [b,c] pos) (tTest (tChain r r' ta tb tc)):=pt_chain ho ho' ha hb hc hm
def tTru (K:PySem.W.Frag) (ta:TE):TT:=fun σ H Q=>ta σ H fun x H'=>∃k,TruV K x H' k∧Q k H'
theorem ae8 (ha:PE X a ta) (he:∀whole,isTrue a X.env whole=(do let v ← whole;standAt a.pos;holding [v] (truthy v)):=by intro _;rfl):PT X a (tTru X.K ta):=pt_truth ha he
theorem agr (hr:Room k X.A) (ha:PE X a ta) (hb:PE X b tb) (hs:PlainIx b:=by exact fun _ _=>rfl):PE X (.Subscript a b pos) (tOp (HS X.K) ta tb):=pe_ix (ae5 hr) ha hb hs
theorem ae9 (hB:bZ X.mg) (h:PE X e te) (hg:Gl X "len":=by rfl) (he:starEach [e] X.env=(false,eval e X.env)::starEach [] X.env:=by rfl):PE X (.Call (.Name "len" p) [e] [] pos) (tCB (yL X.K) (tCons te tNil)):=
 pe_callB abP hg (hB _ (by trivial)) PySem.boot_len (a0k h a0A he) (he:=he)
theorem nU (hB:bZ X.mg) (h:PE X e te) (hg:Gl X "int":=by rfl) (he:starEach [e] X.env=(false,eval e X.env)::starEach [] X.env:=by rfl):PE X (.Call (.Name "int" p) [e] [] pos) (tCB P_ (tCons te tNil)):=
 pe_callTy abQ hg (hB _ (by trivial)) boot_int (a0k h a0A he) (he:=he)
theorem ae_ (hB:bZ X.mg) (h:PE X a ta) (h2:PE X b tb) (hg:Gl X "isinstance":=by rfl) (he:starEach [a,b] X.env=(false,eval a X.env)::starEach [b] X.env:=by rfl) (he2:starEach [b] X.env=(false,eval b X.env)::starEach [] X.env:=by rfl) (hpl:(backTo pos (starEach [b] X.env)).any (·.1)=false:=by rfl) :
  PE X (.Call (.Name "isinstance" p) [a,b] [] pos) (tCB (rIsi X.K) (tCons ta (tCons tb tNil))):=
 pe_callB call_isi hg (hB _ (by trivial)) (by trivial) (a0k h (a0k h2 a0A he2) he) (he:=he) (hpl:=hpl)
theorem afa (hB:bZ X.mg) (hg:Gl X "int":=by rfl):PE X (.Name "int" pos) (tC (.ty "int")):=pe_bltn hg (hB _ (by trivial)) boot_int rfl
theorem afb (hB:bZ X.mg) (hg:Gl X "bool":=by rfl):PE X (.Name "bool" pos) (tC (.ty "bool")):=pe_bltn hg (hB _ (by trivial)) (by trivial) rfl
theorem afc (hB:bZ X.mg) (hg:Gl X "tuple":=by rfl):PE X (.Name "tuple" pos) (tC (.ty "tuple")):=pe_bltn hg (hB _ (by trivial)) (by trivial) rfl
theorem afd (hB:bZ X.mg) (hg:Gl X "list":=by rfl):PE X (.Name "list" pos) (tC (.ty "list")):=pe_bltn hg (hB _ (by trivial)) (by trivial) rfl
theorem afe (hB:bZ X.mg) (hg:Gl X "dict":=by rfl):PE X (.Name "dict" pos) (tC (.ty "dict")):=pe_bltn hg (hB _ (by trivial)) (by trivial) rfl
def O8 (K:PySem.W.Frag):List V→Hp→VK→Prop:=fun xs H Q=>(∃p ys,xs=[.ref p]∧(SqL K H p ys∨SqT K H p ys)∧∀l,H l=none→Q (.ref l) (upd H l (.lst ys)))∨∃(a:Addr) (kvs:List (Key×V)),xs=[.ref a]∧Rd H a (.dK kvs)∧∀p,H p=none→Q (.ref p) (upd H p (.lst (kvs.map fun kv=>kV kv.1)))
theorem acH (hB:bZ X.mg) (h:PE X e te) (hc:X.calm=true:=by rfl) (hg:Gl X "list":=by rfl) (he:starEach [e] X.env=(false,eval e X.env)::starEach [] X.env:=by rfl):PE X (.Call (.Name "list" p) [e] [] pos) (tCB (O8 X.K) (tCons te tNil)):=
 pe_callTy (CallR.or call_list_of (call_listD hc)) hg (hB _ (by trivial)) (by trivial) (a0k h a0A he) (he:=he)
theorem V6 {n:Int} (h:∃t,X.mg x=some (.int n t)) (hg:Gl X x:=by rfl) (hd:(x == ("__debug__":Str))=false:=by decide):PE X (.Name x pos) (tC (.int n)):=by
 obtain⟨t,h⟩:=h
 exact pe_glob hg h ⟨_,rfl⟩ hd
theorem adP {n:Str} (h:∃t,X.mg x=some (.str n t)) (hg:Gl X x:=by rfl) (hd:(x == ("__debug__":Str))=false:=by decide):PE X (.Name x pos) (tC (.str n)):=by
 obtain⟨t,h⟩:=h
 exact pe_glob hg h ⟨_,rfl⟩ hd
theorem k_ {tg:Expr} (hB:bZ X.mg) (h:PE X e te) (hg:Gl X "range":=by rfl) (hs:starEach [e] X.env=[(false,eval e X.env)]:=by rfl):PI X tg (.Call (.Name "range" p) [e] [] pos) (iRng1 (tCons te tNil)):=pi_range1 hg (hB _ (by trivial)) (a0k h a0A hs) hs
theorem mH (K:PySem.W.Frag) (ha:PE X a ta) (hb:PE X b tb) (hK:X.K=K:=by rfl):PE X (.BinOp a .Add b pos) (tOp (G9 K) ta tb):=by subst hK;exact p_add (ha:=ha) (hb:=hb)
theorem afg (K:PySem.W.Frag) (hr:Room k X.A) (ha:PE X a ta) (hb:PE X b tb) (hK:X.K=K:=by rfl):PE X (.Compare a [.Eq] [b] pos) (tOp (qQ K) ta tb):=by subst hK;exact p_eq (hr:=hr) (ha:=ha) (hb:=hb)
theorem u_ (K:PySem.W.Frag) (hr:Room k X.A) (ha:PE X a ta) (hb:PE X b tb) (hK:X.K=K:=by rfl):PT X (.Compare a [.Eq] [b] pos) (tTest (tOp (qQ K) ta tb)):=by subst hK;exact agp (hr:=hr) (ha:=ha) (hb:=hb)
theorem yD (K:PySem.W.Frag) (hr:Room k X.A) (ha:PE X a ta) (hb:PE X b tb) (hK:X.K=K:=by rfl):PT X (.Compare a [.NotEq] [b] pos) (tTest (tOp (za K) ta tb)):=by subst hK;exact agq (hr:=hr) (ha:=ha) (hb:=hb)
theorem V7 (K:PySem.W.Frag) (hr:Room k X.A) (ha:PE X a ta) (hb:PE X b tb) (hm:behindInMarks .NotIn b=false:=by with_unfolding_all rfl) (hK:X.K=K:=by rfl):PT X (.Compare a [.NotIn] [b] pos) (tTest (tOp (HJ K true) ta tb)):=by subst hK;exact ae7 (hr:=hr) (ha:=ha) (hb:=hb) (hm:=hm)
theorem nJ (K:PySem.W.Frag) (ha:PE X a ta) (he:∀whole,isTrue a X.env whole=(do let v ← whole;standAt a.pos;holding [v] (truthy v)):=by intro _;rfl) (hK:X.K=K:=by rfl):PT X a (tTru K ta):=by subst hK;exact ae8 (ha:=ha) (he:=he)
theorem fW (K:PySem.W.Frag) (hr:Room k X.A) (ha:PE X a ta) (hb:PE X b tb) (hs:PlainIx b:=by exact fun _ _=>rfl) (hK:X.K=K:=by rfl):PE X (.Subscript a b pos) (tOp (HS K) ta tb):=by subst hK;exact agr (hr:=hr) (ha:=ha) (hb:=hb) (hs:=hs)
theorem uY (K:PySem.W.Frag) (hB:bZ X.mg) (h:PE X e te) (hg:Gl X "len":=by rfl) (he:starEach [e] X.env=(false,eval e X.env)::starEach [] X.env:=by rfl) (hK:X.K=K:=by rfl):PE X (.Call (.Name "len" p) [e] [] pos) (tCB (yL K) (tCons te tNil)):=by subst hK;exact ae9 (hB:=hB) (h:=h) (hg:=hg) (he:=he)
theorem Bj (K:PySem.W.Frag) (hB:bZ X.mg) (h:PE X a ta) (h2:PE X b tb) (hg:Gl X "isinstance":=by rfl) (he:starEach [a,b] X.env=(false,eval a X.env)::starEach [b] X.env:=by rfl) (he2:starEach [b] X.env=(false,eval b X.env)::starEach [] X.env:=by rfl) (hpl:(backTo pos (starEach [b] X.env)).any (·.1)=false:=by rfl) (hK:X.K=K:=by rfl):PE X (.Call (.Name "isinstance" p) [a,b] [] pos) (tCB (rIsi K) (tCons ta (tCons tb tNil))):=by subst hK;exact ae_ (hB:=hB) (h:=h) (h2:=h2) (hg:=hg) (he:=he) (he2:=he2) (hpl:=hpl)
theorem Nu (K:PySem.W.Frag) (hB:bZ X.mg) (h:PE X e te) (hc:X.calm=true:=by rfl) (hg:Gl X "list":=by rfl) (he:starEach [e] X.env=(false,eval e X.env)::starEach [] X.env:=by rfl) (hK:X.K=K:=by rfl):PE X (.Call (.Name "list" p) [e] [] pos) (tCB (O8 K) (tCons te tNil)):=by subst hK;exact acH (hB:=hB) (h:=h) (hc:=hc) (hg:=hg) (he:=he)
theorem jw {f:Str} (K:PySem.W.Frag) (he:PE X e ta) (hb:attributeBase e f X.env (eval e X.env)=eval e X.env) (hK:X.K=K:=by rfl):PE X (.Attribute e f pos) (tFld K ta f):=by subst hK;exact pe_fld he hb
theorem Nv {tg:Expr} (K:PySem.W.Frag) (hl:PE X e te) (hK:X.K=K:=by rfl):PI X tg e (iList K te):=by subst hK;exact pi_list hl
theorem acI {es:List Expr} {k:Nat} {t:TGs} {n:Nat} (K:PySem.W.Frag) (hc:X.calm=true) (h:PGs X es t) (hn:(assignEach es X.env).length=n:=by rfl) (hst:(assignEach es X.env).findIdx? (·.1)=none:=by rfl) (hK:X.K=K:=by rfl):PG X (.Tuple es k pos) (gTup K n t):=by subst hK;exact pg_tup hc h hn hst
end
end DL
set_option maxHeartbeats 2000000
namespace PySem
namespace iQ
open PySem.W PySem.Calls PyProof.Rows PySem.HandSPX
def Xm (jv:List Expr) (jp p0 p1 p2 p3 p4:Pos):Stmt:=.Expr (.Call (.Attribute (.Call (.Name "super" p0) [] [] p1) "__init__" p2) [.JoinedStr jv jp] [] p3) p4
structure Bl (prog:Program) (K:Frag) (mg:Str→Option Value) (C fI:Addr) (cn qual:Str) (st:Stmt) (ps:List Str) (jv:List Expr) (rest:List Stmt):Prop where
 gC:mg cn=some (.ref C)
 cls:∃nm q N bs bm sn sub ab col dd k0 k1 k2 k3 k5,K.lookup C=some (excClassObj nm q C N bs bm true sn sub ab col dd k0 k1 k2 k3 k5 "ValueError.__new__")∧refsVE bm=true
 sa:findIn K (.ref C) "__setattr__"=some (some (.builtin "object.__setattr__"))
 ga:findIn K (.ref C) "__getattribute__"=some (some (.builtin "BaseException.__getattribute__"))
 gg:findIn K (.ref C) "__getattr__"=some none
 iC:findIn K (.ref C) "__init__"=some (some (.ref fI))
 tC:typeIn K (.ref fI)=some (.type "function")
 kC:keepIn K (.ref C)=true
 exC:subIn K (.ref C) (.type "BaseException")=some true
 QJ:subIn K (.ref C) (.type "ValueError")=some true
 QK:mroIn K C (.ref C)=some true
 tyC:typeIn K (.ref C)=some (.type "type")
 hdC:hasDictIn K C=true
 sup:ks_superIn K C C "__init__"=some (some (.builtin "ValueError.__init__"))
 fL:nsIn K cStatics "thirdparty.any"=some none
 mgS:mg "super"=none
 top:(prog.main.scope.names.lookup ("super":Str)).isSome=false
 lk:∃(oc:Value) (od:Option Addr) (kV doc pm:Value) (an:Option Addr) (cda:Addr) (ct:Value) (cc:Addr) (osl:Array (Option Value)) (ccl:Value) (cdd:Option Addr) (vs:Array Value) (ccs:Array (Option Value)) (file:Str) (tf:Tok) (cl:Value) (cld:Option Addr) (csl:Array (Option Value)),
  K.lookup fI=some ⟨oc,od,.func (ksFn "__init__" qual (L2.defArgs st) (L2.defBody st) (L2.defScope st) .none kV doc pm an (.ref cda) ct cc),osl⟩∧codeIn K (.ref cda) qual=true∧
  K.lookup cda=some ⟨ccl,cdd,.fields vs,ccs⟩∧vs[2]?=some (.str file tf)∧((prog.main.file:Str) == file)=true∧K.lookup cc=some ⟨cl,cld,.cell (some (.ref C)),csl⟩
structure yu (st:Stmt) (qual:Str) (ps:List Str) (jv:List Expr) (rest:List Stmt):Prop where
 body:∃jp p0 p1 p2 p3 p4,L2.defBody st=Xm jv jp p0 p1 p2 p3 p4::rest∧(p2.endLine == p3.line)=true
 args:((L2.defArgs st).posonlyargs++(L2.defArgs st).args).head?.map (·.arg)=some "self"
 GZ:(L2.defScope st).names.lookup ("self":Str)=some .local
 vB:(L2.defScope st).names.lookup ("super":Str)=some .globalImplicit
 vC:(L2.defScope st).names.lookup ("__class__":Str)=some .free
 HW:∀p∈ps,(L2.defScope st).names.lookup p=some .local
 kind:(L2.defScope st).kind=.function
 gen:(L2.defScope st).isGenerator=false
 co:(L2.defScope st).isCoroutine=false
 Yg:∀x∈(L2.defScope st).names,x.2≠.cell
 first:∀(x:Addr) (us:List Value),us.length=ps.length→(((("self":Str)::ps).zip (Value.ref x::us)).reverse.lookup ("self":Str))=some (.ref x)
 bind:∀(kV doc pm:Value) (an:Option Addr) (cdv ct:Value) (cc:Addr) (us:List Value),us.length=ps.length+1→bindArgs (ksFn "__init__" qual (L2.defArgs st) (L2.defBody st) (L2.defScope st) .none kV doc pm an cdv ct cc) ⟨us,[]⟩=pure ((("self":Str)::ps).zip us)
section
variable {prog:Program} {w:World} {A:Around} {E:Value→Shared→Prop} {R:Result→Shared→Prop} {s:Shared} {K:Frag} {mg:Str→Option Value} {C fI:Addr} {cn qual:Str} {st:Stmt} {ps:List Str} {jv:List Expr} {rest:List Stmt}
theorem Fj {h h':Heap} (X:L2.Mod K mg h) (k:∀b o,h.get? b=some o→h'.get? b=some o):L2.Mod K mg h':=by
 obtain⟨a,b,⟨mb,c,d⟩,f⟩:=X
 exact⟨a.keeps k,b.keeps k,⟨mb,c.keeps k,d⟩,f.keeps k⟩
theorem abT {env:Env} {o:Expr} {jp p2 p3:Pos} {nm:Str} (hpos:(p2.endLine == p3.line)=true) :
  eval (.Call (.Attribute o nm p2) [.JoinedStr jv jp] [] p3) env=(do
   let ov ← attributeBase o nm env (eval o env)
   standAt p2.atName
   let (f,first) ← holding [ov] (getMethod ov nm (do return (← importBound o env).getD true))
   callWith p3 f first (backTo p3 (starEach [.JoinedStr jv jp] env)) []):=by
 show (do
   let ov ← attributeBase o nm env (eval o env)
   standAt p2.atName
   methodCall o nm p2 p3 env ov 1 (backTo p3 (starEach [.JoinedStr jv jp] env)) [])=_
 have e1:∀ov,methodCall o nm p2 p3 env ov 1 (backTo p3 (starEach [.JoinedStr jv jp] env)) []=(do
   let (f,first) ← holding [ov] (getMethod ov nm (do return (← importBound o env).getD true))
   callWith p3 f first (backTo p3 (starEach [.JoinedStr jv jp] env)) []):=fun ov=>by
  have e2:methodCallPos true o env p2 p3=pure p3:=by
   unfold methodCallPos
   rw[hpos]
   rfl
  show (do
   let (f,first) ← holding [ov] (getMethod ov nm (do return (← importBound o env).getD true))
   let callPos ← methodCallPos true o env p2 p3
   callWith callPos f first (backTo p3 (starEach [.JoinedStr jv jp] env)) [])=_
  rw[e2]
  rfl
 simp only[e1]
theorem abm (T:Bl prog K mg C fI cn qual st ps jv rest) (S:yu st qual ps jv rest) {x t0:Addr} {us:List Value} (X:L2.Mod K mg s.heap) (hx:s.heap.get? x=some (excO C t0)) (hnx:K.lookup x=none)
  (hroom:A.depth<recursionLimit) (hus:us.length=ps.length)
  (hev:∀(jp:Pos) (L:Addr) (cda cc:Addr) (s1:Shared) (Q:Value→Shared→Prop) (E1:Value→Shared→Prop),(∀b o,s.heap.get? b=some o→s1.heap.get? b=some o)→s1.heap.Ns L (fun y=>(((("self":Str)::ps).zip (.ref x::us)).reverse.lookup y))→
   (∀y tk tks h5,(∀b o,s1.heap.get? b=some o→h5.get? b=some o)→Q (.str y tk) {s1 with heap:=h5,toks:=tks})→wpAny (model prog w) (A.deeper (ksEnv qual (L2.defScope st) L fI (.ref cda) cc)) (eval (.JoinedStr jv jp) (ksEnv qual (L2.defScope st) L fI (.ref cda) cc)) Q E1 s1)
  (h:∀(L:Addr) (cda cc:Addr) (h2:Heap) (t1:Addr) (tks:Nat),s.heap.objs.size≤L→(∀b o,b≠x→s.heap.get? b=some o→h2.get? b=some o)→h2.get? x=some (excO C t1)→h2.Ns L (fun y=>(((("self":Str)::ps).zip (.ref x::us)).reverse.lookup y))→
   wpAny (model prog w) (A.deeper (ksEnv qual (L2.defScope st) L fI (.ref cda) cc)) (execs rest (ksEnv qual (L2.defScope st) L fI (.ref cda) cc)) (fun f s'=>R (.ok (.ret (match f with|.ret v=>v|_=>.none))) s') (fun _ _=>False) {s with heap:=h2,toks:=tks}) :
  codeAny (model prog w) A (.call (.ref fI) ⟨.ref x::us,[]⟩) R s:=by
 obtain⟨oc,od,kV,doc,pm,an,cda,ct,cc,osl,ccl,cdd,vs,ccs,file,tf,cl,cld,csl,ho,hcd,hcode,hvs,hfile,hcell⟩:=T.lk
 obtain⟨nm,q,N,bs,bm,sn,sub,ab,col,dd,k0,k1,k2,k3,k5,hC,hbm⟩:=T.cls
 obtain⟨jp,p0,p1,p2,p3,p4,hB,hpos⟩:=S.body
 refine ks_codeAny_call_defAt (fd:=ksFn "__init__" qual (L2.defArgs st) (L2.defBody st) (L2.defScope st) .none kV doc pm an (.ref cda) ct cc) (body:=L2.defBody st) (binds:=(("self":Str)::ps).zip (.ref x::us)) hroom (X.kin _ _ ho) rfl X.nolimit (codeRec_of X.kin hcd) rfl
  (BindsTo.of_eq (S.bind kV doc pm an (.ref cda) ct cc (.ref x::us) (by simp[hus]))) S.Yg (fun y hy=>?_) (fun h₁ hns hk₁=>?_) S.co S.gen S.kind
 ·have hm:=List.of_mem_zip hy
  rcases a0c.mp hm.1 with e1|e1
  ·rw[e1];exact S.GZ
  ·exact S.HW _ e1
 ·have X1:L2.Mod K mg h₁:=Fj X hk₁
  have hx1:=hk₁ _ _ hx
  have hself:(((("self":Str)::ps).zip (Value.ref x::us)).reverse.lookup ("self":Str))=some (.ref x):=S.first x us hus
  obtain⟨ar,har,ags⟩:∃ar,((L2.defArgs st).posonlyargs++(L2.defArgs st).args).head?=some ar∧ar.arg="self":=by
   have:=S.args
   cases z:((L2.defArgs st).posonlyargs++(L2.defArgs st).args).head? with
   | none=>rw[z] at this;cases this
   | some ar=>rw[z] at this;exact⟨ar,rfl,a0z this⟩
  obtain⟨mb,hmb,BL⟩:=X1.blt
  have hcl:clsIn K C=some {name:=nm,bases:=bs,mro:=.ref C::bm,ns:=N,qualname:=q,hasDict:=true,slotNames:=sn,subclasses:=sub,abstract:=ab,collection:=col,hasDel:=false}:=by unfold clsIn;rw[hC]<;>rfl
  have I1:InstAt h₁ x (excO C t0) C none:=⟨hx1,rfl,rfl,trivial⟩
  show wpAt _ _ _ (execs (L2.defBody st) (ksEnv qual (L2.defScope st) s.heap.objs.size fI (.ref cda) cc)) _ _ _
  have goal:∀bd:List Stmt,bd=Xm jv jp p0 p1 p2 p3 p4::rest→wpAt (model prog w) (A.deeper (ksEnv qual (L2.defScope st) s.heap.objs.size fI (.ref cda) cc)) (.func (L2.defBody st) (ksEnv qual (L2.defScope st) s.heap.objs.size fI (.ref cda) cc)) (execs bd (ksEnv qual (L2.defScope st) s.heap.objs.size fI (.ref cda) cc)) (fun f s'=>R (.ok (.ret (match f with|.ret v=>v|_=>.none))) s')
    (fun _ _=>False) {s with heap:=h₁,toks:=s.toks+((("self":Str)::ps).zip (Value.ref x::us)).length}:=fun bd hbd=>?_
  ·exact ks_wpAt_mono (goal _ hB) (fun _ _ z=>z) (fun _ _ z=>z.elim)
  subst hbd
  refine ks_wpAt_execs_cons (ks_wpAt_Expr_any (ks_wpAt_MethodCall ?_ (abT hpos)) (by unfold interactive;rw[show (ksEnv qual (L2.defScope st) s.heap.objs.size fI (.ref cda) cc).scope.kind=.function from S.kind];rfl))
  refine ks_wpAt_super_base (env:=ksEnv qual (L2.defScope st) s.heap.objs.size fI (.ref cda) cc) S.vB S.vC (by decide) rfl (X1.kin _ _ ho) rfl har rfl (X1.kin _ _ hcode) rfl hvs hfile T.top ?_
  refine ks_loadName_global S.kind S.vB (loadGlobal_builtin (env:=ksEnv qual (L2.defScope st) s.heap.objs.size fI (.ref cda) cc) X1.glob T.mgS hmb ((BL _ (by trivial)).trans (by first|rfl|decide +kernel)) ⟨rfl,?_⟩)
  refine wpAny_loadName_free S.kind S.vC rfl ⟨_,X1.kin _ _ hcell,rfl⟩ ?_
  rw[ags]
  refine b0d S.kind S.GZ hns hself ?_
  refine ks_wpAny_isType_cls (X1.kin _ _ hC) rfl ⟨rfl,?_⟩
  refine ks_wpAny_call_super (X1.kin _ _ hC) rfl hx1 rfl (fun c e=>by cases e) (looks_mroIn X1.kin T.QK) (fun h₂ e2 k2'=>?_)
  have X2:L2.Mod K mg h₂:=Fj X1 k2'
  have hx2:=k2' _ _ hx1
  have I2:InstAt h₂ x (excO C t0) C none:=⟨hx2,rfl,rfl,trivial⟩
  have hm:=T.sup
  unfold ks_superIn at hm
  rw[hcl] at hm
  refine kxs_getMethod kxs_ValueError e2 (looks_opaque X2.kin T.fL) (l₀:=.ref C::bm) ?_ rfl X2.kin hm (I2.type.andThen (looks_subIn X2.kin T.QJ)) (ks_ne X2.kin I2 hcl) (by decide) ?_
  ·exact fun A Q E s k q=>a0U ((looks_clsIn X2.kin hcl) A _ E s k (b0p q))
  have Yh:h₂.Ns s.heap.objs.size (fun y=>(((("self":Str)::ps).zip (.ref x::us)).reverse.lookup y)):=hns.keeps k2'
  have k3:∀b o,h₂.get? b=some o→(h₂.push (kxs_mw "ValueError.__init__" x)).get? b=some o:=fun b o e=>Heap.get?_push_of_some _ e
  have hu:(h₂.push (kxs_mw "ValueError.__init__" x)).get? h₂.objs.size=some (kxs_mw "ValueError.__init__" x):=Heap.get?_push_size h₂ rfl
  refine kxs_callWith (i:="ValueError.__init__") (x:=x) rfl ?_
  refine evalArgs_plain ?_
  refine spliced_cons (hev jp _ cda cc _ _ _ (fun b o e=>k3 _ _ (k2' _ _ (hk₁ _ _ e))) (Yh.keeps k3) fun y tk tks h5 k5=>spliced_nil ⟨k5 _ _ hu,?_⟩)
  show wpAny (model prog w) _ (call (.ref h₂.objs.size) [.str y tk]) _ _ _
  refine b0K (codeAny_of_tree ?_)
  show wpAny _ _ (callAny (.ref h₂.objs.size) ⟨[.str y tk],[]⟩) _ _ _
  simp only[callAny]
  refine a0U (wpAny_load (k5 _ _ hu) ?_)
  simp only[kxs_mw,show (Value.type "method-wrapper" == Value.type "method" || Value.type "method-wrapper" == Value.type "builtin_function_or_method" || Value.type "method-wrapper" == Value.type "method-wrapper")=true by decide,a0W]
  refine KFB.if_so (by decide) ?_
  have FB:=F.excBase_ValueError
  refine a0U (check_bound_init FB.toExcCallFacts (k5 _ _ (k3 _ _ (X2.kin _ _ hC))) (k5 _ _ (k3 _ _ hx2)) rfl ?_)
  refine a0U (b0p (b0p ?_))
  refine⟨plainId_quiet FB.init.plain _,codeAny_builtin FB.initEntry ?_⟩
  refine exc_init_tree (cls:=.ref C) (t0:=t0) (dv:=none) (c2:=.none) (c3:=.none) (b4:=.bool false) (k5 _ _ (k3 _ _ hx2)) (by rw[a0E];exact(by decide:1≤16777216)) fun h4 k4 e4 t4=>?_
  have xL:s.heap.objs.size≠x:=b0I (Heap.lt_size hx)
  obtain⟨oL,es,ep,hL,r⟩:=(Yh.keeps k3).keeps k5
  exact wpAt_of_wpAny (h s.heap.objs.size cda cc h4 _ _ (a0v _) (fun b o hb e=>k4 _ _ hb (k5 _ _ (k3 _ _ (k2' _ _ (hk₁ _ _ e))))) e4 ⟨oL,es,ep,k4 _ _ xL hL,r⟩)
theorem abD (T:Bl prog K mg C fI cn qual st ps jv rest) (S:yu st qual ps jv rest) {x t0:Addr} {us:List Value} (X:L2.Mod K mg s.heap) (hx:s.heap.get? x=some (excO C t0)) (hnx:K.lookup x=none)
  (hroom:A.depth<recursionLimit) (hus:us.length=ps.length)
  (hev:∀(jp:Pos) (L:Addr) (cda cc:Addr) (s1:Shared) (Q:Value→Shared→Prop) (E1:Value→Shared→Prop),(∀b o,s.heap.get? b=some o→s1.heap.get? b=some o)→s1.heap.Ns L (fun y=>(((("self":Str)::ps).zip (.ref x::us)).reverse.lookup y))→
   (∀y tk tks,Q (.str y tk) {s1 with toks:=tks})→wpAny (model prog w) (A.deeper (ksEnv qual (L2.defScope st) L fI (.ref cda) cc)) (eval (.JoinedStr jv jp) (ksEnv qual (L2.defScope st) L fI (.ref cda) cc)) Q E1 s1)
  (h:∀(L:Addr) (cda cc:Addr) (h2:Heap) (t1:Addr) (tks:Nat),s.heap.objs.size≤L→(∀b o,b≠x→s.heap.get? b=some o→h2.get? b=some o)→h2.get? x=some (excO C t1)→h2.Ns L (fun y=>(((("self":Str)::ps).zip (.ref x::us)).reverse.lookup y))→
   wpAny (model prog w) (A.deeper (ksEnv qual (L2.defScope st) L fI (.ref cda) cc)) (execs rest (ksEnv qual (L2.defScope st) L fI (.ref cda) cc)) (fun f s'=>R (.ok (.ret (match f with|.ret v=>v|_=>.none))) s') (fun _ _=>False) {s with heap:=h2,toks:=tks}) :
  codeAny (model prog w) A (.call (.ref fI) ⟨.ref x::us,[]⟩) R s:=
 abm T S X hx hnx hroom hus (fun jp L cda cc s1 Q E1 k1 n1 q1=>hev jp L cda cc s1 Q E1 k1 n1 fun y tk tks=>q1 y tk tks s1.heap fun _ _ e=>e) h
structure Made (h h':Heap) (e C d:Addr) (m:Str→Option Value):Prop where
 keep:∀b o,h.get? b=some o→h'.get? b=some o
 new:h.objs.size≤e
 obj:∃oe vs,h'.get? e=some oe∧oe.cls=.ref C∧oe.dict=some d∧oe.data=.fields vs∧vs[1]?=some .none∧vs[2]?=some .none∧4<vs.size
 Xn:h.objs.size≤d
 dne:d≠e
 ns:h'.Ns1 d m
def vf (prog:Program) (w:World) (A:Around) (h:Heap) (u:Value):Prop:=∀(env:Env) (s1:Shared) (Q E1:Value→Shared→Prop),(∀b o,h.get? b=some o→s1.heap.get? b=some o)→
 (∀(y:Str) (tk:Tok) (tks:Nat),y.length≤1000000→Q (.str y tk) {s1 with toks:=tks})→wpAny (model prog w) (A.deeper env) (pyReprObj u) Q E1 s1
theorem acJ {A:Around} {h:Heap} {x:Str} {t:Tok} (hx:(reprText x).length≤1000000):vf prog w A h (.str x t):=fun env s1 Q E1 _ q=>by
 exact pyReprObj_str (q _ _ _ hx) (b0e hx (by rw[a0E];decide))
theorem acK {A:Around} {h:Heap} {x:Int} {t:Tok} (hx:x.natAbs.log2<1920) (hz:(Str.ofString (toString x)).length≤1000000):vf prog w A h (.int x t):=fun env s1 Q E1 _ q=>by
 exact pyReprObj_int hx (q _ _ _ hz)
theorem vf.keeps {A:Around} {h h':Heap} {u:Value} (r:vf prog w A h u) (k:∀b o,h.get? b=some o→h'.get? b=some o):vf prog w A h' u:=fun env s1 Q E1 k1 q=>r env s1 Q E1 (fun b o e=>k1 _ _ (k _ _ e)) q
theorem abU {p pre:Str} {cst:Nat} {j1 j2 j3 q1 q2 q3 q4:Pos} (T:Bl prog K mg C fI cn qual st [p] [.Constant (.str pre) cst j1,.FormattedValue (.Name p j2) 114 none j3] [.Assign [.Attribute (.Name "self" q1) p q2] (.Name p q3) q4])
  (S:yu st qual [p] [.Constant (.str pre) cst j1,.FormattedValue (.Name p j2) 114 none j3] [.Assign [.Attribute (.Name "self" q1) p q2] (.Name p q3) q4]) (hp:(p == ("self":Str))=false) (hpd:(p == ("__debug__":Str))=false) (hno:findIn K (.ref C) p=some none)
  (hpre:pre.length≤100) {v:Value} (X:L2.Mod K mg s.heap) (hroom:A.depth+1<recursionLimit) (hrep:vf prog w (A.under (.builtin "type.__call__" ⟨[.ref C,v],[]⟩)) s.heap v)
  (hq:∀h' tk e d,Made s.heap h' e C d (fun y=>if y=p then some v else none)→R (.ok (.ret (.ref e))) {s with heap:=h',toks:=tk}) :
  codeAny (model prog w) A (.call (.ref C) ⟨[v],[]⟩) R s:=by
 obtain⟨nm,q,N,bs,bm,sn,sub,ab,col,dd,k0,k1,k2,k3,k5,hC,hbm⟩:=T.cls
 have hcl:clsIn K C=some {name:=nm,bases:=bs,mro:=.ref C::bm,ns:=N,qualname:=q,hasDict:=true,slotNames:=sn,subclasses:=sub,abstract:=ab,collection:=col,hasDel:=false}:=by unfold clsIn;rw[hC]<;>rfl
 obtain⟨hp0,g,dr,tk,os⟩:=s
 have k:∀b o,hp0.get? b=some o→((hp0.push (kdv_tup [v])).push (excO C hp0.objs.size)).get? b=some o:=fun b o e=>Heap.get?_push_of_some _ (Heap.get?_push_of_some _ e)
 have hget:((hp0.push (kdv_tup [v])).push (excO C hp0.objs.size)).get? (hp0.objs.size+1)=some (excO C hp0.objs.size):=by heap_get
 have hnx:K.lookup (hp0.objs.size+1)=none:=by
  cases e:K.lookup (hp0.objs.size+1) with
  | none=>rfl
  | some o=>
   have z:hp0.get? (hp0.objs.size+1)=some o:=X.kin _ _ e
   exact absurd (Nat.lt_of_succ_lt (Heap.lt_size z)) (Nat.lt_irrefl _)
 have hsz1:[v].length≤sizeLine:=by rw[a0E];exact(by decide:1≤16777216)
 have afh:(((("self":Str)::[p]).zip [Value.ref (hp0.objs.size+1),v]).reverse.lookup ("self":Str))=some (.ref (hp0.objs.size+1)):=S.first _ [v] rfl
 have lp:(((("self":Str)::[p]).zip [Value.ref (hp0.objs.size+1),v]).reverse.lookup p)=some v:=by
  show (List.lookup p [(p,v),(("self":Str),Value.ref (hp0.objs.size+1))])=some v
  simp[List.lookup]
 refine call_own F.excBase_ValueError (fun X=>refsVE_contains X bm hbm) (X.kin _ _ hC) (looks_findIn X.kin T.iC) (fun self=>bind_fn X.kin self T.tC) hsz1 ?_
 refine abD (s:=⟨(hp0.push (kdv_tup [v])).push (excO C hp0.objs.size),g,dr,tk,os⟩) T S (Fj X k) hget hnx hroom rfl (fun jp L cda cc s1 Q E1 k1 n1 q1=>?_) fun L cda cc h2 t1 tks hL k2 e2 n2=>?_
 ·
  refine wpAny_JoinedStr ?_
  show wpAny _ _ (eval (.Constant (.str pre) cst j1) _) _ _ _
  refine wpAny_Constant_str ⟨pre,_,rfl,?_,?_⟩
  ·show (Str.empty++pre).length≤sizeLine
   have:(Str.empty++pre).length=pre.length:=by rw[Str.length_append];show 0+pre.length=_;omega
   rw[this,a0E];omega
  show wpAny _ _ (eval (.FormattedValue (.Name p j2) 114 none j3) _) _ _ _
  refine wpAny_FormattedValue_repr (wpAny_Name (b0d S.kind (S.HW p (by simp)) n1 lp ?_) hpd)
  refine hrep _ _ _ _ (fun b o e=>k1 _ _ (k _ _ e)) fun y tk tks hy=>?_
  have hys:y.length≤sizeLine:=by rw[a0E];omega
  have fin:∀(s3:Shared) (z:Tok),(∃tks,s3={s1 with toks:=tks})→∃(y':Str) (t:Tok),Value.str y z=.str y' t∧((Str.empty++pre)++y').length≤sizeLine∧Joins (model prog w) ((A.under (.builtin "type.__call__" ⟨[.ref C,v],[]⟩)).deeper (ksEnv qual (L2.defScope st) L fI (.ref cda) cc)) E1 [] ((Str.empty++pre)++y') (fun out s₁=>out.length≤sizeLine∧Q (.str out s₁.toks) {s₁ with toks:=s₁.toks+1}) s3:=fun s3 z hs=>by
   obtain⟨ahh,rfl⟩:=hs
   have hl:((Str.empty++pre)++y).length≤sizeLine:=by
    rw[Str.length_append,Str.length_append,a0E]
    show 0+pre.length+y.length≤_
    omega
   exact⟨y,_,rfl,hl,hl,q1 _ _ _⟩
  exact wpAny_formatField_str (fin _ _ ⟨_,rfl⟩) (fin _ _ ⟨_,rfl⟩) hys
 ·
  have hk:(L2.defScope st).kind=.function:=S.kind
  have X2:K.In h2:=fun a o e=>k2 a o (fun z=>by rw[z,hnx] at e;cases e) (k a o (X.kin a o e))
  refine wpAny_execs_cons (plainObj_wpAny_Assign_Attribute ?_)
  refine wpAny_Name (b0d S.kind (S.HW p (by simp)) n2 lp ?_) hpd
  refine wpAny_Name (b0d S.kind S.GZ n2 afh ?_) (by decide)
  refine set_plain X2 (ox:=excO C t1) (od:=none) ⟨e2,rfl,rfl,trivial⟩ T.sa ?_
  refine exc_osa X2 e2 hcl (show refsVE (.ref C::bm)=true from hbm) rfl hno (fun h₃ tk₃ dx k₃ dn dne hx₃ hn₃=>?_)
  refine wpAny_execs_nil ?_
  have agt:hp0.objs.size+1+1≤L:=by
   have q:=hL
   first
    | (simpa only[Heap.size_push] using q)
    | exact q
  have hLlt:L<h2.objs.size:=n2.lt
  have old:∀b o,hp0.get? b=some o→h₃.get? b=some o:=fun b o e=>k₃ b o (b0z (b0k (Heap.lt_size e))) (k2 b o (b0z (b0k (Heap.lt_size e))) (k b o e))
  exact⟨rfl,hq h₃ tk₃ (hp0.objs.size+1) dx ⟨old,b0F _,⟨_,_,hx₃,rfl,rfl,rfl,rfl,rfl,(by decide:4<6)⟩,b0e (b0e (b0e (b0F _) (b0F _)) (b0e agt (Nat.le_of_lt hLlt))) dn,dne,hn₃⟩⟩
end
def Qa:L2.V→Prop
 | .str x=>(reprText x).length≤1000000
 | .int i=>i.natAbs.log2<1920
 | _=>False
theorem adQ {prog:Program} {w:World} {A:Around} {h:Heap} {v:L2.V} {u:Value} (h1:Qa v) (r:L2.RelV v u):vf prog w A h u:=by
 cases v with
 | str x=>obtain⟨t,rfl⟩:=r;exact acJ h1
 | int i=>
  obtain⟨t,rfl⟩:=r
  have e:=int_text_length_le (k:=1920) (by decide) (show i.natAbs.log2<1920 from h1)
  exact acK h1 (by rw[ofString_length];omega)
 | non=>exact h1.elim
 | bl b=>exact h1.elim
 | byt b=>exact h1.elim
 | flt b=>exact h1.elim
 | ref b=>exact h1.elim
 | ty b=>exact h1.elim
def kh (P:Program) (K:Frag) (mg:Str→Option Value) (cn p:Str) (C:Addr):Prop:=∃(fI:Addr) (qual:Str) (st:Stmt) (pre:Str) (cst:Nat) (j1 j2 j3 q1 q2 q3 q4:Pos),
 Bl P K mg C fI cn qual st [p] [.Constant (.str pre) cst j1,.FormattedValue (.Name p j2) 114 none j3] [.Assign [.Attribute (.Name "self" q1) p q2] (.Name p q3) q4]∧
 yu st qual [p] [.Constant (.str pre) cst j1,.FormattedValue (.Name p j2) 114 none j3] [.Assign [.Attribute (.Name "self" q1) p q2] (.Name p q3) q4]∧
 (p == ("self":Str))=false∧(p == ("__debug__":Str))=false∧findIn K (.ref C) p=some none∧pre.length≤100
theorem kh.xf {P:Program} {K:Frag} {mg:Str→Option Value} {cn p:Str} {C:Addr} (T:kh P K mg cn p C):L2.XfC K C:=by
 obtain⟨fI,qual,st,pre,cst,j1,j2,j3,q1,q2,q3,q4,T,S,h1,h2,h3,h4⟩:=T
 exact⟨T.ga,T.gg,T.exC,T.hdC⟩
theorem kh.no {P:Program} {K:Frag} {mg:Str→Option Value} {cn p:Str} {C:Addr} (T:kh P K mg cn p C):findIn K (.ref C) p=some none:=by
 obtain⟨fI,qual,st,pre,cst,j1,j2,j3,q1,q2,q3,q4,T,S,h1,h2,h3,h4⟩:=T
 exact h3
theorem kh.g {P:Program} {K:Frag} {mg:Str→Option Value} {cn p:Str} {C:Addr} (T:kh P K mg cn p C):mg cn=some (.ref C):=by
 obtain⟨fI,qual,st,pre,cst,j1,j2,j3,q1,q2,q3,q4,T,S,h1,h2,h3,h4⟩:=T
 exact T.gC
end iQ
end PySem
namespace DL
open PySem L2 PyProof.Rows
def Xo (C:Addr) (p:Str) (ta:TA):L2.St→Hp→XK→Prop:=fun σ H Q=>ta σ H fun vs H1=>∃v,vs=[v]∧iQ.Qa v∧∀d,H1 d=none→Q (.ref C) (some d) (upd H1 d (.xd [(p,v)]))
section
variable {X:Cx} {C:Addr} {cn p:Str} {a:Expr} {ta:TA} {pp pos pos2:Pos} {k:Nat} {W:WX}
theorem abV {v:V} {u:Value} (r:RelV v u) (f:Str):RelO (List.lookup f [(p,v)]) (if f=p then some u else none):=by
 by_cases q:f=p
 ·rw[a0g q,q]
  show RelO (List.lookup p [(p,v)]) (some u)
  simp only[List.lookup,beq_self_eq_true]
  exact r
 ·have z:(f == p)=false:=by simpa using q
  rw[a0h q]
  simp only[List.lookup,z]
  exact True.intro
theorem adR (T:iQ.kh X.prog X.K X.mg cn p C) (hr:Room k X.A) (hk:2≤k) (ha:PA X [a] ta) (hg:Gl X cn:=by rfl) (hdb:(cn == ("__debug__":Str))=false:=by decide)
  (hs1:starEach (a::[]) X.env=(false,eval a X.env)::starEach [] X.env:=by rfl) (hs2:(backTo pos (starEach [] X.env)).any (·.1)=false:=by rfl):PMk X (.Call (.Name cn pp) [a] [] pos) (Xo C p ta):=by
 intro pins s σ H Q I h
 obtain⟨fI,qual,st,pre,cst,j1,j2,j3,q1,q2,q3,q4,T,S,h1,h2,h3,h4⟩:=T
 refine wpAny_Call_Name_kw (ld_glob I hg T.gC ?_ hdb)
 refine PySem.W.callWith_K (h₀:=X.base) I.ok.mod.kin T.kC (thn (ha.run pos pins s σ H _ I h) fun us s1 hh=>?_) hs1 hs2
 obtain⟨vs,H1,I1,r1,v,rfl,hv,kk⟩:=hh
 refine⟨I1.kIn,?_⟩
 obtain⟨u,rfl,ru⟩:∃u,us=[u]∧RelV v u:=by
  cases r1 with
  | cons a b=>cases b;exact⟨_,rfl,a⟩
 show wpAny _ _ (call (.ref C) [u]) _ _ _
 have M1:Mod X.K X.mg s1.heap:=iQ.Fj I1.mod I1.bk
 obtain⟨hp,g,dr,tk,os⟩:=s1
 refine b0K (iQ.abU T S h1 h2 h3 h4 M1 (by have:=hr.dp;omega) (iQ.adQ hv ru) fun h' tk' e d M=>?_)
 show MkP X pins σ Q (.ref e) ⟨h',g,dr,tk',os⟩
 obtain⟨oe,fv,o1,o2,o3,o4,o5,o6⟩:=M.obj
 obtain⟨G,g1,g2⟩:=restrict h' fun b=>decide (b≠e)
 have gk:∀b,b≠e→G.get? b=h'.get? b:=fun b hb=>g1 b (a0q hb)
 have ge:G.get? e=none:=g2 e (by simp)
 have afi:∀b o,hp.get? b=some o→G.get? b=some o:=fun b o q=>(gk b (b0z (Nat.lt_of_lt_of_le (Heap.lt_size q) M.new))).trans (M.keep b o q)
 have ob:ObjOk X.prog X.w (upd H1 d (.xd [(p,v)])) G d (.xd [(p,v)]):=⟨_,M.ns.at (fun o q=>(gk d M.dne).trans q),fun f=>abV ru f⟩
 have J:Inv X pins σ (upd H1 d (.xd [(p,v)])) ⟨G,g,dr,tk',os⟩:=I1.laid (t':=tk') afi M.Xn ob
 refine⟨e,oe,fv,⟨G,g,dr,tk',os⟩,_,.ref C,some d,rfl,J,fun b o q=>?_,ge,o1,⟨o2,o3⟩,o4,o5,?_,rfl,I1.bare,raises_own T.exC T.tyC,kk d (I1.hok.fresh M.Xn)⟩
 ·by_cases hb:b=e
  ·rw[show G.get? b=none by rw[hb];exact ge] at q;cases q
  ·exact(gk b hb).symm.trans q
 ·rw[a0n (Ne.symm M.dne)];exact I1.hok.fresh M.new
def Xp (C:Addr) (p:Str) (W:WX) (ta:TA):TS:=fun _ σ H=>Xo C p ta σ H fun cls d H'=>W cls d σ H'
theorem xU (hc:X.calm=true) (T:iQ.kh X.prog X.K X.mg cn p C) (hr:Room k X.A) (hk:2≤k) (tk:Takes X W) {te:TE} (ha:PE X a te) (hg:Gl X cn:=by rfl) (hdb:(cn == ("__debug__":Str))=false:=by decide)
  (hs1:starEach (a::[]) X.env=(false,eval a X.env)::starEach [] X.env:=by rfl) (hs2:(backTo pos (starEach [] X.env)).any (·.1)=false:=by rfl):PS X (.Raise (some (.Call (.Name cn pp) [a] [] pos)) none pos2) (Xp C p W (tCons te tNil)):=
 ps_raise hc tk (adR T hr hk (a0k ha a0A hs1) hg hdb hs1 hs2)
end
structure qK where
 c:Value
 nm:Option Nat
 ts:Addr→Value→Option Addr→TS
def W0 (i:Nat) (T:Ends):Ends:={nx:=fun σ H=>T.nx (σ.set i none) H,rt:=T.rt,bk:=fun σ H=>T.bk (σ.set i none) H,ct:=fun σ H=>T.ct (σ.set i none) H}
def BP (K:PySem.W.Frag) (Wo:WX) (T:Ends):List qK→WX
 | []=>Wo
 | c::r=>fun cls d σ H=>∃b,PySem.W.exmOne K cls c.c=some b∧(b=true→∀a,H a=none→match c.nm with|none=>c.ts a cls d T σ H|some i=>c.ts a cls d (W0 i T) (σ.set i (some (.ref a))) H)∧(b=false→BP K Wo T r cls d σ H)
def Xq (K:PySem.W.Frag) (Wo:WX) (l:List qK) (tb:WX→TS):TS:=fun T σ H=>tb (BP K Wo T l) T σ H
inductive vU (X:Cx):List ExceptHandler→List qK→Prop
 | nil:vU X [] []
 | only {x:Str} {c:Value} {ts:Addr→Value→Option Addr→TS} {b:Stmt} {su:List Stmt} {np ph:Pos} {hs:List ExceptHandler} {l:List qK} (hn:Names X x c)
   (hk:∀(a:Addr) (oe:Obj) (cls:Value) (d:Option Addr) (pn:List (Addr×Obj)),Zc cls d oe→(∃vs,oe.data=.fields vs)→PSs (X.suite a ((a,oe)::pn)) (b::su) (ts a cls d)) (r:vU X hs l) :
   vU X (.ExceptHandler (some (.Name x np)) none (b::su) ph::hs) (⟨c,none,ts⟩::l)
 | as {x n:Str} {i:Nat} {c:Value} {ts:Addr→Value→Option Addr→TS} {b:Stmt} {su:List Stmt} {np ph:Pos} {hs:List ExceptHandler} {l:List qK} (hn:Names X x c) (hi:X.N[i]?=some n) (hl:X.env.kindOf n=some .local)
   (hk:∀(a:Addr) (oe:Obj) (cls:Value) (d:Option Addr) (pn:List (Addr×Obj)),Zc cls d oe→(∃vs,oe.data=.fields vs)→PSs (X.suite a ((a,oe)::pn)) (b::su) (ts a cls d)) (r:vU X hs l) :
   vU X (.ExceptHandler (some (.Name x np)) (some n) (b::su) ph::hs) (⟨c,some i,ts⟩::l)
section
variable {X:Cx} {body:List Stmt} {h0:ExceptHandler} {hs:List ExceptHandler} {l:List qK} {pos:Pos} {tb:WX→TS} {Wo:WX}
theorem acL (e1:X.stack=X.env::X.outer) (e2:X.env.frame=some X.env.locals) (hN:X.N.Nodup) (tk:Takes X Wo)
  (hb:∀(W:WX) (pn:List (Addr×Obj)) (xe:Value→Shared→Prop),Takes (X.tr pn xe) W→PassesOwn (model X.prog X.w) X.A X.env xe→PSs (X.tr pn xe) body (tb W))
  (hh:vU X (h0::hs) l):PS X (.Try body (h0::hs) [] [] pos) (Xq X.K Wo l tb):=by
 refine⟨fun pins s σ H T I q=>?_⟩
 have ok:=I.ok
 have fr:X.A.frames=some (X.env::X.outer):=by rw[ok.frames,e1]
 refine wpAny_Try_except ?_
 refine wpAny_mono ((hb (BP X.K Wo T l) (X.pn++pins) (fun e s1=>wpAny (model X.prog X.w) X.A (noteFrame e X.env) (fun _ s2=>wpAny (model X.prog X.w) X.A (setFlight e none) (fun _ s3=>wpAny (model X.prog X.w) X.A (handleBy e X.env (h0::hs)) (SP X pins T) X.xe s3) X.xe s2) X.xe s1)
  (fun u s' xx=>?_) PassesOwn.looking).run [] s σ H T (I.toTry _) q) (fun f s1 hsp=>?_) (fun _ _ he=>he)
 ·obtain⟨a,B,sI,pins',σ',H',cls,d,rfl,J',nb,up,sky,na,os,ag,wl⟩:=xx
  have J:Inv X pins σ' H' sI:=J'.ofTry ok
  rw[e1] at sky
  show wpAny (model X.prog X.w) X.A (noteFrame (.ref a) X.env) _ _ _
  refine Sky.land Zc.steady fr e2 sky fun h3 fl3 up3=>?_
  have J3:Inv X pins σ' H' {s' with heap:=h3}:=J.landed nb fl3.1 (up.trans up3) os ag
  obtain⟨oe3,vs3,he3,hz3,hd3⟩:=fl3.there
  have nfr:a∉frs (X.env::X.outer):=fun hm=>by
   obtain⟨_,o',e',hnf⟩:=fl3.2.2.1.mem hm
   rw[he3] at e';cases e'
   exact hnf _ hd3
  have nL:a≠X.env.locals:=fun z=>nfr (b0t.mpr ⟨X.env,a0N,by rw[e2,z]⟩)
  have nF:a∉X.fs:=fun hm=>by
   obtain⟨e,he,q⟩:=b0t.mp hm
   exact nfr (b0t.mpr ⟨e,a0K _ he,q⟩)
  have S3:=J3.suite he3 hd3 na nL nF
  have LT:PySem.W.Looks (model X.prog X.w) h3 (typeOf (.ref a)) cls:=fun A Q E s k q=>wpAny_typeOf_ref (k _ _ he3) (by rw[hz3.1];exact q)
  have ask:∀{x:Str} {c:Value} {np:Pos} {Q E:Value→Shared→Prop},Names X x c→Q c {s' with heap:=h3}→wpAny (model X.prog X.w) (X.A.mark (some (.ref a))) (eval (.Name x np) X.env) (fun v s=>Q v s) (fun v s=>E v s) {s' with heap:=h3}:=fun {x c np Q E} hc q=>by
   obtain⟨hg,hdbg,hm|⟨hm,hv,hnn⟩⟩:=hc
   ·exact ld_glob (X:=X.suite a ((a,oe3)::(X.pn++pins))) S3 hg hm q hdbg
   ·exact ld_blt (X:=X.suite a ((a,oe3)::(X.pn++pins))) S3 hg hm hv q hnn hdbg
  have go:∀{hs':List ExceptHandler} {l':List qK},vU X hs' l'→BP X.K Wo T l' cls d σ' H'→wpAny (model X.prog X.w) X.A (handleBy (.ref a) X.env hs') (SP X pins T) X.xe {s' with heap:=h3}:=by
   intro hs' l' hk
   induction hk with
   | nil=>
    intro w
    refine wpAny_handleBy_nil ?_
    obtain⟨_,_,_,oe,vs,R,oR,tt,he,hz,hd,h1,hr⟩:=id fl3
    unfold PySem.passOn
    refine a0U (wpAny_field he hd h1 ?_)
    rw[a0h (show ¬((Value.ref R == Value.none)=true) from by simp)]
    have fin:wpAny (model X.prog X.w) X.A (setFlight (.ref a) X.env.frame) (fun _ s4=>wpAny (model X.prog X.w) X.A (throw (.ref a):Sem Flow) (SP X pins T) X.xe s4) X.xe {s' with heap:=h3}:=by
     rw[e2]
     refine HandSPX.setFlight_upZ fl3 fun h4 hh4 up4=>wpAny_throw (tk _ _ ?_)
     exact⟨a,B,sI,pins,σ',H',cls,d,rfl,J,nb,(up.trans up3).trans up4,.inr (.inr (by rw[e1];exact hh4)),na,os,ag,w⟩
    first
     | exact a0U (b0p (a0U fin))
     | exact a0U fin
   | @only x c ts b su np ph hs2 l2 hn hk r ih=>
    rintro⟨b1,hb1,yes,no⟩
    refine wpAny_handleBy_cons (codeAny_handlers_test ?_) (by intro q;cases q)
    refine ask hn ((PySem.W.exm_one (M:=model X.prog X.w) J3.kIn LT hb1).here ?_)
    cases b1 with
    | true=>
     refine codeAny_handlers_suite ?_
     refine HandSPX.lands_againZ fl3 fun h4 fl4 up4=>?_
     have J4:Inv X pins σ' H' {s' with heap:=h4}:=J.landed nb fl4.1 ((up.trans up3).trans up4) os ag
     obtain⟨oe4,vs4,he4,hz4,hd4⟩:=fl4.there
     refine wpAny_mono ((hk a oe4 cls d (X.pn++pins) hz4 ⟨_,hd4⟩).run [] _ _ H' _ (J4.suite he4 hd4 na nL nF) (yes rfl a na)) (fun f s6 hsp=>?_) (fun _ _ z=>False.elim z)
     cases f with
     | next=>obtain⟨σ6,H6,S6,q6⟩:=hsp;exact⟨_,_,S6.unsuite ok,q6⟩
     | brk=>obtain⟨σ6,H6,S6,q6⟩:=hsp;exact⟨_,_,S6.unsuite ok,q6⟩
     | cont=>obtain⟨σ6,H6,S6,q6⟩:=hsp;exact⟨_,_,S6.unsuite ok,q6⟩
     | ret u=>obtain⟨v6,σ6,H6,S6,r6,q6⟩:=hsp;exact⟨_,_,_,S6.unsuite ok,r6,q6⟩
    | false=>
     show wpAny _ X.A (handleBy (.ref a) X.env hs2) _ _ _
     exact ih (no rfl)
   | @as x n i c ts b su np ph hs2 l2 hn hi hl hk r ih=>
    rintro⟨b1,hb1,yes,no⟩
    refine wpAny_handleBy_cons (codeAny_handlers_test ?_) (by intro q;cases q)
    refine ask hn ((PySem.W.exm_one (M:=model X.prog X.w) J3.kIn LT hb1).here ?_)
    cases b1 with
    | true=>
     refine codeAny_handlers_suite_as ?_
     refine HandSPX.lands_againZ fl3 fun h4 fl4 up4=>?_
     have J4:Inv X pins σ' H' {s' with heap:=h4}:=J.landed nb fl4.1 ((up.trans up3).trans up4) os ag
     obtain⟨oe4,vs4,he4,hz4,hd4⟩:=fl4.there
     refine store_ok (X:=X.suite a ((a,oe4)::(X.pn++pins))) (v:=.ref a) (J4.suite he4 hd4 na nL nF) hN hi (.inl hl) rfl (fun s5 S5=>?_) (.inr hl)
     refine wpAny_mono ((hk a oe4 cls d (X.pn++pins) hz4 ⟨_,hd4⟩).run [] s5 _ H' _ S5 (yes rfl a na)) (fun f s6 hsp=>?_) (fun _ _ z=>False.elim z)
     have fin:∀{σ6:L2.St} {H6:Hp} {Q:Shared→Prop},Inv (X.suite a ((a,oe4)::(X.pn++pins))) [] σ6 H6 s6→(∀s7,Inv X pins (σ6.set i none) H6 s7→Q s7)→
       wpAny (model X.prog X.w) X.A (do bindName X.env n .none;unbindBehindTheSuite X.env n ph) (fun _ s7=>Q s7) X.xe s6:=fun {σ6 H6 Q} S6 hq=>gone_ok (S6.unsuite ok) hN hi hl hq
     cases f with
     | next=>obtain⟨σ6,H6,S6,q6⟩:=hsp;exact fin S6 fun s7 J7=>⟨_,_,J7,q6⟩
     | brk=>obtain⟨σ6,H6,S6,q6⟩:=hsp;exact fin S6 fun s7 J7=>⟨_,_,J7,q6⟩
     | cont=>obtain⟨σ6,H6,S6,q6⟩:=hsp;exact fin S6 fun s7 J7=>⟨_,_,J7,q6⟩
     | ret u=>obtain⟨v6,σ6,H6,S6,r6,q6⟩:=hsp;exact fin S6 fun s7 J7=>⟨_,_,_,J7,r6,q6⟩
    | false=>
     show wpAny _ X.A (handleBy (.ref a) X.env hs2) _ _ _
     exact ih (no rfl)
  exact go hh wl
 ·cases f with
  | next=>obtain⟨σ',H',J',q⟩:=hsp;exact wpAny_execs_nil ⟨σ',H',J'.ofTry ok,q⟩
  | brk=>obtain⟨σ',H',J',q⟩:=hsp;exact⟨σ',H',J'.ofTry ok,q⟩
  | cont=>obtain⟨σ',H',J',q⟩:=hsp;exact⟨σ',H',J'.ofTry ok,q⟩
  | ret u=>obtain⟨v,σ',H',J',r,q⟩:=hsp;exact⟨v,σ',H',J'.ofTry ok,r,q⟩
end
section
variable {K:PySem.W.Frag} {d:D}
def pJ:D→Prop
 | .str x=>(reprText x).length≤1000000
 | .int i=>i.natAbs.log2<1920
 | _=>False
theorem pJ.v {Hb:Hp} {v:V} (h:pJ d) (r:Rp K Hb d v):iQ.Qa v:=by
 cases d<;>first|exact h.elim|(cases (Rp.eG r);exact h)|(cases (Rp.mX r);exact h)
end
instance ahd (k:Key) (ks:List Key):Decidable (k∈ks):=@List.instDecidableMemOfLawfulBEq Key instBEqOfDecidableEq inferInstance k ks
def kD:Key→D
 | .inl i=>.int i
 | .inr s=>.str s
def dget (ks:List Key) (ds:List D) (k:Key):Option D:=((ks.zip ds).find? fun kv=>decide (kv.1=k)).map (·.2)
def mQ (ks:List Key) (k:Key):List Key:=if k∈ks then ks else ks++[k]
def yE (ks:List Key) (ds:List D) (k:Key) (d:D):List D:=if k∈ks then List.zipWith (fun k' d'=>if k'=k then d else d') ks ds else ds++[d]
section
variable {K:PySem.W.Frag}
theorem tK {Hb:Hp} {k:Key} {v:V} (r:Rp K Hb (kD k) v):v=kV k:=by cases k<;>exact r
theorem W3 {Hb:Hp} (k:Key):Rp K Hb (kD k) (kV k):=by cases k<;>(unfold kD kV Rp;rfl)
theorem Vn {Hb:Hp} {k:Key}:∀{ks:List Key} {ds:List D} {vs:List V},ks.length=vs.length→aq K Hb ds vs→(∀d,dget ks ds k=some d→∃v,valV (ks.zip vs) k=some v∧Rp K Hb d v)∧(dget ks ds k).isSome=(valV (ks.zip vs) k).isSome
 | [],ds,vs,_,_=>⟨fun d h=>by simp[dget] at h,rfl⟩
 | q::ks,[],vs,hl,r=>by rw[aq.qI r] at hl;simp at hl
 | q::ks,e::ds,vs,hl,r=>by
  obtain⟨v,t,rfl,rv,rt⟩:=aq.qG r
  have ih:=Vn (k:=k) (ks:=ks) (by simpa using hl) rt
  unfold dget valV at ih ⊢
  simp only[a0w,a0B]
  by_cases z:q=k
  ·simp only[z,decide_true,b0h,Option.isSome_some,and_true]
   intro d h
   cases h
   exact⟨v,rfl,rv⟩
  ·simp only[z,b0q]
   exact ih
theorem abW {k:Key} {v:V} {ks:List Key} {vs:List V} (hl:ks.length=vs.length):putK (ks.zip vs) k v=(mQ ks k).zip (if k∈ks then List.zipWith (fun k' v'=>if k'=k then v else v') ks vs else vs++[v]):=by
 unfold putK mQ
 have e:((ks.zip vs).any fun kv=>decide (kv.1=k))=decide (k∈ks):=by
  induction ks generalizing vs with
  | nil=>simp
  | cons q ks ih=>
   cases vs with
   | nil=>simp at hl
   | cons w vs=>
    have:=ih (vs:=vs) (by simpa using hl)
    simp only[a0w,b0D,this,a0c,Bool.decide_or]
    by_cases z:q=k
    ·simp[z]
    ·have z':¬k=q:=fun e=>z e.symm
     simp[z,z']
 rw[e]
 by_cases m:k∈ks
 ·simp only[m,decide_true,a0W]
  clear e m
  induction ks generalizing vs with
  | nil=>simp
  | cons q ks ih=>
   cases vs with
   | nil=>simp at hl
   | cons w vs=>
    simp only[a0w,a0y,a0I]
    rw[ih (by simpa using hl)]
    by_cases z:q=k<;>simp[z]
 ·simp only[m,b0q,if_false,Bool.false_eq_true]
  rw[List.zip_append hl];rfl
end
def yF (a:Addr) (od:Obj) (u:HO) (W:WX):WX:=fun cls d σ H=>H a=some (.frz od u)∧W cls d σ (upd H a u)
def W4 (a:Addr) (od:Obj) (u:HO) (T:Ends):Ends:=⟨fun σ' H'=>H' a=some (.frz od u)∧T.nx σ' (upd H' a u),fun v H'=>H' a=some (.frz od u)∧T.rt v (upd H' a u),fun σ' H'=>H' a=some (.frz od u)∧T.bk σ' (upd H' a u),fun σ' H'=>H' a=some (.frz od u)∧T.ct σ' (upd H' a u)⟩
def V8 (W:WX) (t:WX→TS):TS:=fun T σ H=>t W T σ H∨∃a u,H a=some u∧Mut (some u)∧∀od,t (yF a od u W) (W4 a od u T) σ (upd H a (.frz od u))
theorem abX {X:Cx} {W:WX} {st:Stmt} {t:WX→TS} (tk:Takes X W) (h:∀W',Takes X W'→PS X st (t W')):PS X st (V8 W t):=⟨fun pins s σ H T I q=>q.elim ((h W tk).run pins s σ H T I) fun⟨a,u,ha,mu,q⟩=>by
 obtain⟨od,I1⟩:=I.lock ha mu
 have tk':Takes X (yF a od u W):=fun e s' xx=>by
  obtain⟨a',B,sI,pins',σ',H',cls,d,e1,J,nb,up,sky,na,os,ag,e2,w⟩:=xx
  refine tk e s' ⟨a',B,sI,pins',σ',upd H' a u,cls,d,e1,J.unlock e2 (I.nofrz ha mu),nb,up,sky,?_,os,ag,w⟩
  have ne:a'≠a:=fun z=>by rw[z,e2] at na;cases na
  rw[a0n ne];exact na
 refine thn ((h _ tk').run pins s σ _ _ I1 (q od)) fun f s1 z=>?_
 cases f with
 | next=>obtain⟨σ',H',I2,e,z⟩:=z;exact⟨σ',_,I2.unlock e (I.nofrz ha mu),z⟩
 | brk=>obtain⟨σ',H',I2,e,z⟩:=z;exact⟨σ',_,I2.unlock e (I.nofrz ha mu),z⟩
 | cont=>obtain⟨σ',H',I2,e,z⟩:=z;exact⟨σ',_,I2.unlock e (I.nofrz ha mu),z⟩
 | ret v=>obtain⟨x,σ',H',I2,r,e,z⟩:=z;exact⟨x,σ',_,I2.unlock e (I.nofrz ha mu),r,z⟩⟩
section
variable {K:PySem.W.Frag} {d:D}
theorem Us {Hb:Hp} {f:Str}:∀{fs:List Str} {ds:List D} {vs:List V},fs.length=vs.length→aq K Hb ds vs→(fs.zip ds).lookup f=some d→∃v,(fs.zip vs).lookup f=some v∧Rp K Hb d v
 | [],ds,vs,_,_,h=>by simp at h
 | q::fs,[],vs,hl,r,h=>by simp at h
 | q::fs,e::ds,vs,hl,r,h=>by
  obtain⟨w,t,rfl,rv,rt⟩:=aq.qG r
  simp only[a0w,List.lookup] at h ⊢
  cases z:(f == q) with
  | true=>rw[z] at h;cases h;exact⟨w,rfl,rv⟩
  | false=>rw[z] at h;exact Us (by simpa using hl) rt h
def Xr (C:Addr) (sp:Sp) (dv:List V) (E:L2.St→XK) (t:TA):TE:=fun σ H Q=>t σ H fun vs H1=>∀x dx,H1 x=none→H1 dx=none→dx≠x→sp (.ref x::(vs++dv)) (upd (upd H1 dx (.own x)) x (.ins C dx [])) (fun v H2=>v=.non∧Q (.ref x) H2) (E σ)
def BR (C:Addr) (m:Str) (sp:Sp) (E:L2.St→XK) (to:TE) (t:TA):TE:=fun σ H Q=>to σ H fun x H1=>∃a dx fs,x=.ref a∧H1 a=some (.ins C dx fs)∧fs.lookup m=none∧t σ H1 fun vs H2=>sp (x::vs) H2 Q (E σ)
def Xu (C:Addr) (sp:Sp) (E:L2.St→XK) (to:TE) (t:TA):TE:=fun σ H Q=>to σ H fun x H1=>∃a,x=.ref a∧t σ H1 fun vs H2=>(∃dx fs,H2 a=some (.ins C dx fs))∧sp (x::vs) H2 Q (E σ)
theorem Tj {f:Str}:∀{fs:List Str} {vs:List V},f∉fs→(fs.zip vs).lookup f=none
 | [],vs,_=>by simp
 | q::fs,[],_=>by simp
 | q::fs,v::vs,h=>by
  have z:(f == q)=false:=by
   simp only[beq_eq_false_iff_ne,ne_eq]
   exact fun e=>h (by simp[e])
  simp only[a0w,List.lookup,z]
  exact Tj fun e=>h (by simp[e])
structure Mak (P:Program) (w:World) (K:PySem.W.Frag) (mg:Str→Option Value) (base:Heap) (x:Str) (C:Addr) (ps:List Str) (ds:List Value) (k:Nat) (sp:Sp):Prop where
 ex:∃f fd,FnOk P w K mg base (L2.CX P w) k f fd ps sp∧Mk K C f∧mg x=some (.ref C)∧Binds K fd ps ds
structure vD (P:Program) (w:World) (K:PySem.W.Frag) (mg:Str→Option Value) (base:Heap) (C:Addr) (m:Str) (ps:List Str) (k:Nat) (sp:Sp):Prop where
 ex:∃f fd,FnOk P w K mg base (L2.CX P w) k f fd ps sp∧Cls K C∧Meth K C m f∧Binds K fd ps []
structure Qc (P:Program) (w:World) (K:PySem.W.Frag) (mg:Str→Option Value) (base:Heap) (C:Addr) (ps:List Str) (k:Nat) (sp:Sp):Prop where
 ex:∃f fd,FnOk P w K mg base (L2.CX P w) k f fd ps sp∧StX.CallO K C f∧Binds K fd ps []
end
section
variable {X:Cx} {x m:Str} {C:Addr} {ps:List Str} {k j:Nat} {sp:Sp} {W:WX} {e o:Expr} {es:List Expr} {t:TA} {to:TE} {p pos apos:Pos}
theorem jR {ds:List Value} {dv:List V} (M:Mak X.prog X.w X.K X.mg X.base x C ps ds k sp) (hd:Vals dv ds) (hr:Room j X.A) (hk:k+1≤j) (tk:Takes X W) (ha:PA X (e::es) t) (hg:Gl X x:=by rfl) (hdb:(x == ("__debug__":Str))=false:=by decide)
  (hs1:starEach (e::es) X.env=(false,eval e X.env)::starEach es X.env:=by rfl) (hs2:(backTo pos (starEach es X.env)).any (·.1)=false:=by rfl):PE X (.Call (.Name x p) (e::es) [] pos) (Xr C sp dv (WE W) t):=by
 obtain⟨f,fd,F,M,hm,hb⟩:=M.ex
 have hr:=hr.mono hk
 refine⟨fun pins s σ H Q I h=>?_⟩
 refine wpAny_Call_Name_kw (ld_glob I hg hm ?_ hdb)
 refine PySem.W.callWith_K (h₀:=X.base) I.ok.mod.kin M.kp (thn (ha.run pos pins s σ H _ I h) fun us s1 ⟨vs,H1,I1,r,q⟩=>⟨I1.kIn,?_⟩) hs1 hs2
 have hq:=q (s1.heap.objs.size+1) s1.heap.objs.size (I1.hok.fresh (b0F _)) (I1.hok.fresh (a0v _)) (b0z (Nat.lt_succ_self _))
 have I2:=Inv.made (C:=C) I1
 have r2:Vals (V.ref (s1.heap.objs.size+1)::(vs++dv)) (Value.ref (s1.heap.objs.size+1)::(us++ds)):=.cons rfl (r.append hd)
 have hl:(Value.ref (s1.heap.objs.size+1)::us++ds).length=ps.length:=by
  have e:=r2.length
  rw[F.len _ _ _ _ hq] at e
  exact e.symm
 refine b0K (make_map (f:=f) I1.kIn M.makes M.init (beq_iff_eq.mp M.fn) (codeAny_mono (F.run _ X.stack _ _ ⟨Value.ref (s1.heap.objs.size+1)::us,[]⟩ (Value.ref (s1.heap.objs.size+1)::(us++ds)) _ _ (WE W σ) (hr.make C us []) (I2.env0.make C us []) (hb _ (Value.ref (s1.heap.objs.size+1)::us) I2.kIn hl) r2 hq) fun z s' hq'=>?_))
 cases z with
 | error er=>exact passAt tk σ pins _ _ er s' I2 hq'
 | ok fl=>
  cases fl with
  | ret u=>
   obtain⟨v,H',I3,rv,ev,q3⟩:=I2.after hq'
   subst ev
   exact⟨rv,⟨V.ref (s1.heap.objs.size+1),H',I3,rfl,q3⟩⟩
  | next=>exact False.elim hq'
  | brk=>exact False.elim hq'
  | cont=>exact False.elim hq'
theorem Vo {pl:Sem Bool} (M:vD X.prog X.w X.K X.mg X.base C m ps k sp) (hr:Room j X.A) (hk:k≤j) (tk:Takes X W) (ho:PE X o to)
  (ht:eval (.Call (.Attribute o m apos) [] [] pos) X.env=(do
   let ov ← eval o X.env
   standAt apos.atName
   let (g,first) ← holding [ov] (getMethod ov m pl)
   callWith pos g first (backTo pos (starEach [] X.env)) (backToKw pos (keywordEach [] X.env))):=by rfl):PE X (.Call (.Attribute o m apos) [] [] pos) (BR C m sp (WE W) to tNil):=by
 obtain⟨f,fd,F,c,hm,hb⟩:=M.ex
 refine⟨fun pins s σ H Q I h=>?_⟩
 refine PySem.W.methodCall_KW (pl:=pl) (thn (ho.run pins s σ H _ I h) fun u s1 ⟨y,H1,I1,ry,a,dx,fs,ey,ea,l,q⟩=>?_) ht
 subst ey
 obtain rfl:u=Value.ref a:=ry
 refine getmeth_ok I1 ea c hm l ?_
 exact PySem.W.callWith_K0 (first:=[.ref a]) I1.kIn hm.kp (run_fnS (us:=[.ref a]) (vs:=[.ref a]) F (hr.mono hk) hb (passAt tk σ) I1 (.cons rfl .nil) q)
theorem adS (M:Qc X.prog X.w X.K X.mg X.base C ps k sp) (hr:Room j X.A) (hk:k≤j) (tk:Takes X W) (ho:PE X o to) (ha:PA X (e::es) t)
  (ht:eval (.Call o (e::es) [] pos) X.env=(do callWith pos (← eval o X.env) [] (backTo pos (starEach (e::es) X.env)) (backToKw pos (keywordEach [] X.env))):=by rfl)
  (hs1:starEach (e::es) X.env=(false,eval e X.env)::starEach es X.env:=by rfl) (hs2:(backTo pos (starEach es X.env)).any (·.1)=false:=by rfl):PE X (.Call o (e::es) [] pos) (Xu C sp (WE W) to t):=by
 obtain⟨f,fd,F,c,hb⟩:=M.ex
 have hr:=hr.mono hk
 refine⟨fun pins s σ H Q I h=>?_⟩
 refine Call_ (thn (ho.run pins s σ H _ I h) fun u s1 ⟨y,H1,I1,ry,a,ey,q⟩=>?_) ht
 subst ey
 obtain rfl:u=Value.ref a:=ry
 refine StX.callO_with (thn (ha.run pos pins s1 σ H1 _ I1 q) fun us s2 ⟨vs,H2,I2,r,⟨dx,fs,hi⟩,q2⟩=>?_) hs1 hs2
 obtain⟨ox,od,J,hd⟩:=StX.insC_at (X:=X) I2 (.inr ⟨dx,fs,hi⟩)
 refine⟨⟨C,ox,od,J,hd⟩,?_⟩
 have r2:Vals (V.ref a::vs) (Value.ref a::us):=.cons rfl r
 have hl:(Value.ref a::us).length=ps.length:=by rw[← r2.length];exact F.len _ _ _ _ q2
 have b:=hb s2 (Value.ref a::us) I2.kIn (by rw[a0O];exact hl)
 rw[a0O] at b
 refine b0K (PySem.W.kco_code I2.kIn J hd c.at_ c.fn c.fi (codeAny_mono (F.run X.A X.stack s2 H2 ⟨Value.ref a::us,[]⟩ (Value.ref a::us) (V.ref a::vs) Q (WE W σ) hr I2.env0 b r2 q2) fun z s' hq=>?_))
 cases z with
 | error er=>exact passAt tk σ pins H2 s2 er s' I2 hq
 | ok fl=>
  cases fl with
  | ret u=>exact I2.after hq
  | next=>exact False.elim hq
  | brk=>exact False.elim hq
  | cont=>exact False.elim hq
end
section
variable {K:PySem.W.Frag} {d x y:D} {ds es:List D}
def CK:D→Option String
 | .non=>some "NoneType" | .bl _=>some "bool" | .int _=>some "int" | .str _=>some "str" | .lst _=>some "list" | .dG _=>some "list" | .tup _=>some "tuple" | .aV _ _=>some "dict" | _=>none
theorem adT {Hb H:Hp} {v:V} {n:String} (e:Ex Hb H) (h:CK d=some n) (r:Rp K Hb d v):TyX K H v (.type n):=by
 cases d<;>simp[CK] at h<;>subst h
 ·cases (show v=.non from r);exact .base .non
 ·cases (Rp.oG r);exact .base (.bl _)
 ·cases (Rp.mX r);exact .base (.int _)
 ·cases (Rp.eG r);exact .base (.str _)
 ·unfold Rp at r
  obtain⟨a,vs,rfl,s,_⟩:=r
  rcases s with s|⟨o,s⟩
  ·exact .base (.lst (e _ _ s))
  ·exact .base (.frz (e _ _ s))
 ·unfold Rp at r
  obtain⟨a,vs,rfl,s,_⟩:=r
  rcases s with (s|⟨o,s⟩)|⟨o,its,n,h1,h2,_⟩
  ·exact .base (.tup (e _ _ s))
  ·exact .fTuple (e _ _ s)
  ·exact .kTuple h1 h2
 ·unfold Rp at r
  obtain⟨a,rfl,s⟩:=r
  rcases s with (s|⟨o,s⟩)|⟨o,its,n,h1,h2,_⟩
  ·exact .base (.lst (e _ _ s))
  ·exact .base (.frz (e _ _ s))
  ·exact .kList h1 h2
 ·unfold Rp at r
  obtain⟨a,vs,rfl,s,_⟩:=r
  rcases s with s|⟨o,s⟩
  ·exact .base (.dK (e _ _ s))
  ·exact .fDict (e _ _ s)
mutual
def toPy:D→PyData
 | .non=>.none|.bl b=>.bool b|.int i=>.int i|.str x=>.str x
 | .lst xs=>.list (d_ xs)|.tup xs=>.tuple (d_ xs)
 | .dG _=>.none|.ref _=>.none|.ty _=>.none|.aV _ _=>.none|.dct _ _=>.none|.oF _ _ _=>.none|.ins _ _ _=>.none|.exc _ _ _ _ _=>.none
def d_:List D→List PyData
 | []=>[]
 | d::ds=>toPy d::d_ ds
end
mutual
def bG:D→Bool
 | .non=>true|.bl b=>true|.int i=>true|.str x=>PyData.strOk x
 | .lst xs=>g_ xs|.tup xs=>g_ xs
 | .dG _=>false|.ref _=>false|.ty _=>false|.aV _ _=>false|.dct _ _=>false|.oF _ _ _=>false|.ins _ _ _=>false|.exc _ _ _ _ _=>false
def g_:List D→Bool
 | []=>true
 | d::ds=>bG d&&g_ ds
end
mutual
theorem vg {H:Hp}:∀(d:D) (v:V),bG d=true→Rp K H d v→Dp K H v (toPy d)
 | .non,v,_,r=>by cases (show v=.non from r);unfold toPy;exact .non
 | .bl b,v,_,r=>by cases (Rp.oG r);unfold toPy;exact .bl b
 | .int b,v,_,r=>by cases (Rp.mX r);unfold toPy;exact .int b
 | .str b,v,_,r=>by cases (Rp.eG r);unfold toPy;exact .str b
 | .lst xs,v,h,r=>by
  unfold Rp at r;unfold toPy
  obtain⟨a,vs,rfl,s,q⟩:=r
  exact .lst (.inl s) (Ou xs vs (by unfold bG at h;exact h) q)
 | .tup xs,v,h,r=>by
  unfold Rp at r;unfold toPy
  obtain⟨a,vs,rfl,s,q⟩:=r
  exact .tup s (Ou xs vs (by unfold bG at h;exact h) q)
 | .ref _,v,h,r=>by simp[bG] at h
 | .dG _,v,h,r=>by simp[bG] at h
 | .ty _,v,h,r=>by simp[bG] at h
 | .aV _ _,v,h,r=>by simp[bG] at h
 | .dct _ _,v,h,r=>by simp[bG] at h
 | .oF _ _ _,v,h,r=>by simp[bG] at h
 | .ins _ _ _,v,h,r=>by simp[bG] at h
 | .exc _ _ _ _ _,v,h,r=>by simp[bG] at h
theorem Ou {H:Hp}:∀(ds:List D) (vs:List V),g_ ds=true→aq K H ds vs→DpAll K H vs (d_ ds)
 | [],vs,_,r=>by rw[aq.qI r];unfold d_;exact .nil
 | d::ds,vs,h,r=>by
  obtain⟨v,t,rfl,rv,rt⟩:=aq.qG r
  unfold g_ at h
  rw[a0o] at h
  unfold d_
  exact .cons (vg d v h.1 rv) (Ou ds t h.2 rt)
end
mutual
theorem lay_of:∀d:D,bG d=true→(toPy d).canLay0=true
 | .non,_=>by unfold toPy;rfl
 | .bl _,_=>by unfold toPy;rfl
 | .int _,_=>by unfold toPy;rfl
 | .str x,h=>by unfold bG at h;unfold toPy PyData.canLay0;exact h
 | .lst xs,h=>by unfold bG at h;unfold toPy PyData.canLay0;exact NZ xs h
 | .tup xs,h=>by unfold bG at h;unfold toPy PyData.canLay0;exact NZ xs h
 | .ref _,h=>by simp[bG] at h
 | .dG _,h=>by simp[bG] at h
 | .ty _,h=>by simp[bG] at h
 | .aV _ _,h=>by simp[bG] at h
 | .dct _ _,h=>by simp[bG] at h
 | .oF _ _ _,h=>by simp[bG] at h
 | .ins _ _ _,h=>by simp[bG] at h
 | .exc _ _ _ _ _,h=>by simp[bG] at h
theorem NZ:∀ds:List D,g_ ds=true→PyData.canLayAll0 (d_ ds)=true
 | [],_=>by unfold d_;rfl
 | d::ds,h=>by
  unfold g_ at h
  rw[a0o] at h
  unfold d_ PyData.canLayAll0
  rw[lay_of d h.1,NZ ds h.2];rfl
end
mutual
def dep:D→Nat
 | .lst xs=>qL xs+1|.tup xs=>qL xs+1
 | .dG _=>0|.non=>0|.bl _=>0|.int _=>0|.str _=>0|.ref _=>0|.ty _=>0|.aV _ _=>0|.dct _ _=>0|.oF _ _ _=>0|.ins _ _ _=>0|.exc _ _ _ _ _=>0
def qL:List D→Nat
 | []=>0
 | d::ds=>max (dep d) (qL ds)
end
mutual
theorem V9:∀d:D,(toPy d).depth=dep d
 | .non=>by unfold toPy dep;rfl
 | .bl _=>by unfold toPy dep;rfl
 | .int _=>by unfold toPy dep;rfl
 | .str x=>by unfold toPy dep;rfl
 | .lst xs=>by unfold toPy dep PyData.depth;rw[N5 xs]
 | .tup xs=>by unfold toPy dep PyData.depth;rw[N5 xs]
 | .ref _=>by unfold toPy dep;rfl
 | .dG _=>by unfold toPy dep;rfl
 | .ty _=>by unfold toPy dep;rfl
 | .aV _ _=>by unfold toPy dep;rfl
 | .dct _ _=>by unfold toPy dep;rfl
 | .oF _ _ _=>by unfold toPy dep;rfl
 | .ins _ _ _=>by unfold toPy dep;rfl
 | .exc _ _ _ _ _=>by unfold toPy dep;rfl
theorem N5:∀ds:List D,PyData.depthAll (d_ ds)=qL ds
 | []=>by unfold d_ qL;rfl
 | d::ds=>by unfold d_ qL PyData.depthAll;rw[V9 d,N5 ds]
end
theorem uQ (h:bG d=true) (hd:dep d≤64):SeqAt.shaped (toPy d)=true:=by
 unfold SeqAt.shaped
 rw[lay_of d h,b0E,V9]
 exact a0q hd
end
section
variable {K:PySem.W.Frag} {z:D}
theorem afj {x y:D} (hx:bG x=true) (hy:bG y=true) (dx:dep x≤64) (dy:dep y≤64):gR K (qQ K) x y (.bl (PyData.eqv (toPy x) (toPy y))):=gR.inr fun Hb H v u Q e hv hu q=>
 ⟨toPy x,toPy y,vg x v hx (Rp.mono e.rl _ _ hv),vg y u hy (Rp.mono e.rl _ _ hu),uQ hx dx,uQ hy dy,q _ fun _=>by unfold Rp;rfl⟩
theorem afk {x y:D} (hx:bG x=true) (hy:bG y=true) (dx:dep x≤64) (dy:dep y≤64):gR K (za K) x y (.bl (!PyData.eqv (toPy x) (toPy y))):=gR.inr fun Hb H v u Q e hv hu q=>
 ⟨toPy x,toPy y,vg x v hx (Rp.mono e.rl _ _ hv),vg y u hy (Rp.mono e.rl _ _ hu),uQ hx dx,uQ hy dy,q _ fun _=>by unfold Rp;rfl⟩
theorem Vp {Hb:Hp}:∀{ks:List Key} {vs:List V},ks.length=vs.length→aq K Hb (ks.map kD) ((ks.zip vs).map fun kv=>kV kv.1)
 | [],vs,_=>aq.nil
 | k::ks,[],h=>by simp at h
 | k::ks,v::vs,h=>aq.cons (W3 k) (Vp (by simpa using h))
end
end DL
namespace DL
open PySem L2 TL
def letters:Str:="abcdefghijklmnopqrstuvwxyz"
def CN (i:Int):Nat:=97+(i%26).toNat
theorem Mz:letters.cps.toList=(List.range 26).map (97 + ·):=by decide +kernel
theorem Vq (i:Int):CN i∈letters.cps.toList:=by
 rw[Mz,a0G]
 exact⟨(i%26).toNat,List.mem_range.mpr (by omega),rfl⟩
def o8 (s:Str):Bool:=(decide (1≤(s.length:Int))&&decide ((s.length:Int)≤8))&&s.cps.toList.all fun c=>decide (c∈letters.cps.toList)
def yw (n:Int):Int:=1+n/2%8
def nW (n k:Int):Int:=if n%2=1 then 1+(yw n+k)%8 else yw n
def Gp (n k:Int):List Nat:=(List.range (nW n k).toNat).map fun(a:Nat)=>CN (n/7+(a:Int))
def uZ (n k:Int):Int:=n/16%yw n%nW n k
def nq (n k:Int):List Nat:=(Gp n k).set (uZ n k).toNat (CN (n/128+k))
def nm (n k:Int):Str:=⟨(nq n k).toArray⟩
theorem abn (n:Int):1≤yw n∧yw n≤8:=by unfold yw;omega
theorem Fl (n k:Int):1≤nW n k∧nW n k≤8:=by
 have:=abn n
 unfold nW
 split<;>omega
theorem abo (n k:Int):0≤uZ n k∧uZ n k<nW n k:=by
 have h:=Fl n k
 exact⟨Int.emod_nonneg _ (by omega),Int.emod_lt_of_pos _ (by omega)⟩
theorem Ui (n k:Int):(Gp n k).length=(nW n k).toNat:=by unfold Gp;simp
theorem MF (n k:Int):(nq n k).length=(nW n k).toNat:=by unfold nq;rw[List.length_set,Ui]
theorem adU (n k:Int):(nm n k).length=(nW n k).toNat:=by
 show (nq n k).toArray.size=_
 rw[List.size_toArray,MF]
theorem Gq (n k:Int):(nm n k).cps.toList=nq n k:=rfl
theorem Ua {n k:Int} {c:Nat} (h:c∈nq n k):c∈letters.cps.toList:=by
 unfold nq at h
 rcases List.mem_or_eq_of_mem_set h with h|rfl
 ·unfold Gp at h
  rw[a0G] at h
  obtain⟨a,_,rfl⟩:=h
  exact Vq _
 ·exact Vq _
theorem W6 (n k:Int):(nq n k)[(uZ n k).toNat]?=some (CN (n/128+k)):=by
 have h:=abo n k
 unfold nq
 rw[a0j,a0g rfl,a0g (by rw[Ui];omega)]
theorem Ov {n k j:Int} (hk:0≤k∧k<26) (hj:0≤j∧j<26) (h:nm n k=nm n j):k=j:=by
 have hc:nq n k=nq n j:=by rw[← Gq,← Gq,h]
 have hl:nW n k=nW n j:=by
  have:=congrArg List.length hc
  rw[MF,MF] at this
  have a:=Fl n k
  have b:=Fl n j
  omega
 have hs:uZ n k=uZ n j:=by unfold uZ;rw[hl]
 have h1:=W6 n k
 rw[hc,hs,W6] at h1
 have h2:=a0z h1
 unfold CN at h2
 omega
end DL
namespace AL
open PySem L2 DL PyProof.Rows
structure XD where
 C:Addr
 fs:List Str
 ds:List D
inductive R where
 | d (x:D)|o (n:Nat)|w (i:Nat)
inductive Ob where
 | lst (ds:List D)|bW (xs:List R)
 | aV (ks:List Key) (ds:List D)|cQ (ks:List Key) (xs:List R)
 | dct (ks:List (List Key)) (ds:List D)
 | dn (w:World) (ks:List NestedKey) (xs:List R)
 | ins (C:Addr) (fs:List Str) (xs:List R)
 | iD (ks:List Key) (ds:List D)|vW (ks:List (List Key)) (ds:List D)
 | vX (w:World) (ks:List NestedKey) (xs:List R)
 | lO (ks:List Key) (xs:List R)
inductive Sv where
 | no|v (r:R)|own (b:Ob)
structure ST where
 s:List Sv
 h:List Ob
abbrev bJ (a b:List Addr):Prop:=∃t,b=a++t
theorem bJ.refl (a:List Addr):bJ a a:=⟨[],by simp⟩
theorem bJ.trans {a b c:List Addr} (h:bJ a b) (k:bJ b c):bJ a c:=by
 obtain⟨t,rfl⟩:=h;obtain⟨u,rfl⟩:=k;exact⟨t++u,by simp⟩
theorem bJ.get {a b:List Addr} (h:bJ a b) {n:Nat} {x:Addr} (e:a[n]?=some x):b[n]?=some x:=by
 obtain⟨t,rfl⟩:=h
 rw[a0u (a0d.mp e).1];exact e
theorem bJ.mem {a b:List Addr} (h:bJ a b) {x:Addr} (e:x∈a):x∈b:=by
 obtain⟨t,rfl⟩:=h;exact List.mem_append_left _ e
theorem bJ.push (a:List Addr) (p:Addr):bJ a (a++[p]):=⟨[p],rfl⟩
section
variable (K:PySem.W.Frag)
def RV (ι:List Addr) (Hb:Hp):R→V→Prop
 | .d x,v=>Rp K Hb x v
 | .o n,v=>∃a,ι[n]?=some a∧v=.ref a
 | .w _,_=>False
abbrev bA (ι:List Addr) (Hb:Hp):List R→List V→Prop:=Paired (RV K ι Hb)
def dN (ι:List Addr) (Hb:Hp):Ob→HO→Prop
 | .lst ds,u=>∃vs,u=.lst vs∧aq K Hb ds vs
 | .bW xs,u=>∃vs,u=.lst vs∧bA K ι Hb xs vs
 | .aV ks ds,u=>∃vs,u=.dK (ks.zip vs)∧ks.length=vs.length∧aq K Hb ds vs
 | .cQ ks xs,u=>∃vs,u=.dK (ks.zip vs)∧ks.length=vs.length∧bA K ι Hb xs vs
 | .dct ks ds,u=>∃vs,u=.dT (ks.zip vs)∧ks.length=vs.length∧aq K Hb ds vs
 | .dn w ks xs,u=>∃(b:Addr) (vs:List V) (cP:List Addr),u=QF w b (ks.zip (cP.zip vs))∧ks.length=cP.length∧iW K Hb ks (cP.map V.ref)∧ks.length=vs.length∧bA K ι Hb xs vs
 | .vX w ks xs,u=>∃(od:Obj) (b:Addr) (vs:List V) (cP:List Addr),u=.frz od (QF w b (ks.zip (cP.zip vs)))∧ks.length=cP.length∧iW K Hb ks (cP.map V.ref)∧ks.length=vs.length∧bA K ι Hb xs vs
 | .ins C fs xs,u=>∃dx vs,u=.ins C dx (fs.zip vs)∧fs.length=vs.length∧bA K ι Hb xs vs
 | .iD ks ds,u=>∃od vs,u=.frz od (.dK (ks.zip vs))∧ks.length=vs.length∧aq K Hb ds vs
 | .lO ks xs,u=>∃od vs,u=.frz od (.dK (ks.zip vs))∧ks.length=vs.length∧bA K ι Hb xs vs
 | .vW ks ds,u=>∃od vs,u=.frz od (.dT (ks.zip vs))∧ks.length=vs.length∧aq K Hb ds vs
variable {K}
theorem RV.mono {ι gU:List Addr} {Hb bB:Hp} (p:bJ ι gU) (r:Rl Hb bB):∀{x:R} {v:V},RV K ι Hb x v→RV K gU bB x v
 | .d x,v,h=>Rp.mono r x v h
 | .o n,v,⟨a,e,q⟩=>⟨a,p.get e,q⟩
 | .w i,v,h=>h.elim
theorem bA.mono {ι gU:List Addr} {Hb bB:Hp} (p:bJ ι gU) (r:Rl Hb bB) {xs:List R} {vs:List V} (h:bA K ι Hb xs vs):bA K gU bB xs vs:=L2.Paired.mapP h fun _ _ q=>q.mono p r
theorem dN.mono {ι gU:List Addr} {Hb bB:Hp} (p:bJ ι gU) (r:Rl Hb bB):∀{b:Ob} {u:HO},dN K ι Hb b u→dN K gU bB b u
 | .lst ds,u,⟨vs,e,q⟩=>⟨vs,e,aq.mono r _ _ q⟩
 | .bW xs,u,⟨vs,e,q⟩=>⟨vs,e,bA.mono p r q⟩
 | .aV ks ds,u,⟨vs,e,z,q⟩=>⟨vs,e,z,aq.mono r _ _ q⟩
 | .cQ ks xs,u,⟨vs,e,z,q⟩=>⟨vs,e,z,bA.mono p r q⟩
 | .dct ks ds,u,⟨vs,e,z,q⟩=>⟨vs,e,z,aq.mono r _ _ q⟩
 | .dn w ks xs,u,⟨b,vs,cP,e,l,n,z,q⟩=>⟨b,vs,cP,e,l,iW.mono r _ _ n,z,bA.mono p r q⟩
 | .vX w ks xs,u,⟨od,b,vs,cP,e,l,n,z,q⟩=>⟨od,b,vs,cP,e,l,iW.mono r _ _ n,z,bA.mono p r q⟩
 | .ins C fs xs,u,⟨dx,vs,e,z,q⟩=>⟨dx,vs,e,z,bA.mono p r q⟩
 | .iD ks ds,u,⟨od,vs,e,z,q⟩=>⟨od,vs,e,z,aq.mono r _ _ q⟩
 | .lO ks xs,u,⟨od,vs,e,z,q⟩=>⟨od,vs,e,z,bA.mono p r q⟩
 | .vW ks ds,u,⟨od,vs,e,z,q⟩=>⟨od,vs,e,z,aq.mono r _ _ q⟩
theorem dN.Yi {ι:List Addr} {Hb:Hp}:∀{b:Ob} {fs:List (Str×V)},¬dN K ι Hb b (.xd fs)
 | .lst ds,fs,⟨vs,e,_⟩=>nomatch e
 | .bW xs,fs,⟨vs,e,q⟩=>nomatch e
 | .aV ks ds,fs,⟨vs,e,_⟩=>nomatch e
 | .cQ ks xs,fs,⟨vs,e,_⟩=>nomatch e
 | .dct ks ds,fs,⟨vs,e,_⟩=>nomatch e
 | .dn w ks xs,fs,⟨b,vs,cP,e,_⟩=>nomatch e
 | .vX w ks xs,fs,⟨od,b,vs,cP,e,_⟩=>nomatch e
 | .ins C fs' xs,fs,⟨dx,vs,e,_⟩=>nomatch e
 | .iD ks ds,fs,⟨od,vs,e,_⟩=>nomatch e
 | .lO ks xs,fs,⟨od,vs,e,_⟩=>nomatch e
 | .vW ks ds,fs,⟨od,vs,e,_⟩=>nomatch e
end
def mU:HO→Bool
 | .frz _ _=>true
 | _=>false
structure Tp where
 p:List Addr→Hp→Prop
 m:∀ι gU Hb bB,bJ ι gU→Rl Hb bB→p ι Hb→p gU bB
 l:∀ι gU Hb bB,bJ ι gU→p ι Hb→p gU bB→p ι bB
structure Ac where
 H:Hp
 B:Hp
 ι:List Addr
section
variable (K:PySem.W.Frag)
def Rt (σ:L2.St) (ι:List Addr) (Hb:Hp):R→V→Prop
 | .d x,v=>Rp K Hb x v
 | .o n,v=>∃a,ι[n]?=some a∧v=.ref a
 | .w i,v=>σ[i]?=some (some v)
def rt (σ:L2.St) (r:R) (v:V):Tp:=⟨fun ι Hb=>Rt K σ ι Hb r v,fun ι gU Hb bB p rl h=>by
 cases r with
 | d x=>exact Rp.mono rl x v h
 | o n=>obtain⟨a,e,q⟩:=h;exact⟨a,p.get e,q⟩
 | w i=>exact h,fun ι gU Hb bB p h h'=>by
 cases r with
 | d x=>exact h'
 | o n=>obtain⟨a,e,q⟩:=h;exact⟨a,e,q⟩
 | w i=>exact h⟩
structure au (A:Ac) (st:ST) (σ:L2.St) (H:Hp) (ts:List Tp) (Hb:Hp) (ι:List Addr):Prop where
 keep:∀a o,A.H a=some o→(a∉A.ι∨mU o=true)→H a=some o
 eB:Ex A.B Hb
 bH:Ex Hb H
 ap:∀a,A.B a=none→A.H a≠none→Hb a=none
 pre:bJ A.ι ι
 hl:ι.length=st.h.length
 len:σ.length=st.s.length
 val:∀(i:Nat) r,st.s[i]?=some (.v r)→∃v,σ[i]?=some (some v)∧RV K ι Hb r v
 obj:∀(n:Nat) b,st.h[n]?=some b→∃a u,ι[n]?=some a∧H a=some u∧dN K ι Hb b u∧Hb a=none
 own:∀(i:Nat) b,st.s[i]?=some (.own b)→∃a u,σ[i]?=some (some (.ref a))∧H a=some u∧dN K ι Hb b u∧Hb a=none∧a∉ι∧A.H a=none∧mU u=false
 inj:ι.Nodup
 new:∀a∈ι,a∈A.ι∨∀o,A.H a=some o→mU o=true
 dsl:∀(i j:Nat) b c a,st.s[i]?=some (.own b)→st.s[j]?=some (.own c)→σ[i]?=some (some (.ref a))→σ[j]?=some (some (.ref a))→i=j
 tmp:∀p∈ts,p.p ι Hb
def Cf (A:Ac) (st:ST) (σ:L2.St) (H:Hp) (ts:List Tp):Prop:=∃Hb ι,au K A st σ H ts Hb ι
def fD (A:Ac) (st:ST) (σ:L2.St) (H:Hp) (ts:List Tp) (b:Ob) (v:V):Prop:=
 ∃Hb ι a u,au K A st σ H ts Hb ι∧v=.ref a∧H a=some u∧dN K ι Hb b u∧Hb a=none∧a∉ι∧A.H a=none∧mU u=false∧∀(i:Nat) c,st.s[i]?=some (.own c)→σ[i]?≠some (some (.ref a))
def XO (A:Ac) (ts:List Tp) (x:XD) (st:ST) (cls:Value) (d:Option Addr) (σ:L2.St) (H:Hp):Prop:=
 ∃Hb ι dd vs,au K A st σ H ts Hb ι∧cls=.ref x.C∧d=some dd∧H dd=some (.xd (x.fs.zip vs))∧x.fs.length=vs.length∧aq K Hb x.ds vs∧A.H dd=none∧Hb dd=none
end
section
variable {K:PySem.W.Frag} {A:Ac} {st st':ST} {σ:L2.St} {H H' Hb bB:Hp} {ts ts':List Tp} {ι gU:List Addr}
theorem au.temps (C:au K A st σ H ts Hb ι) (ht:∀p∈ts',p.p ι Hb):au K A st σ H ts' Hb ι:={C with tmp:=ht}
theorem Cf.temps (C:Cf K A st σ H ts) (h:∀p∈ts',p∈ts∨∀ι Hb,p.p ι Hb):Cf K A st σ H ts':=by
 obtain⟨Hb,ι,C⟩:=C
 exact⟨Hb,ι,C.temps fun p hp=>(h p hp).elim (C.tmp p) fun q=>q ι Hb⟩
theorem Cf.drop {p:Tp} (C:Cf K A st σ H (p::ts)):Cf K A st σ H ts:=C.temps fun q hq=>.inl (by simp[hq])
theorem au.nX (C:au K A st σ H ts Hb ι) {dd:Addr} {fs:List (Str×V)} (h:H dd=some (.xd fs)):dd∉ι∧∀(i:Nat) c,st.s[i]?=some (.own c)→σ[i]?≠some (some (.ref dd)):=by
 refine⟨fun hm=>?_,fun i c hc e=>?_⟩
 ·obtain⟨n,hn⟩:=a0H hm
  have hlt:n<st.h.length:=by rw[← C.hl];exact(a0d.mp hn).1
  obtain⟨a,u,h1,h2,h3,_⟩:=C.obj n _ (a0e hlt)
  rw[hn] at h1;cases h1
  rw[h] at h2;cases h2
  exact dN.Yi h3
 ·obtain⟨a,u,h1,h2,h3,_⟩:=C.own i c hc
  rw[e] at h1;cases h1
  rw[h] at h2;cases h2
  exact dN.Yi h3
theorem au.grow (C:au K A st σ H ts Hb ι) (e:Ex H H') (eb:Ex Hb bB) (bh:Ex bB H') (fr:∀a,Hb a=none→bB a≠none→H a=none) (ht:∀p∈ts',p.p ι bB):au K A st σ H' ts' bB ι where
 keep:=fun a o h n=>e a o (C.keep a o h n)
 eB:=C.eB.trans eb
 bH:=bh
 ap:=fun a h1 h2=>a0R fun q=>by
  have h3:=fr a (C.ap a h1 h2) q
  by_cases hm:a∈A.ι
  ·obtain⟨n,hn⟩:=a0H hm
   have hn':=C.pre.get hn
   have hlt:n<st.h.length:=by rw[← C.hl];exact(a0d.mp hn').1
   obtain⟨b,u,g1,g2,_⟩:=C.obj n _ (a0e hlt)
   rw[hn'] at g1;cases g1
   rw[h3] at g2;cases g2
  ·cases hA:A.H a with
   | none=>exact h2 hA
   | some o=>have:=C.keep a o hA (.inl hm);rw[h3] at this;cases this
 pre:=C.pre
 hl:=C.hl
 len:=C.len
 val:=fun i r h=>let ⟨v,a,b⟩:=C.val i r h;⟨v,a,b.mono (bJ.refl _) eb.rl⟩
 obj:=fun n b h=>by
  obtain⟨a,u,h1,h2,h3,h4⟩:=C.obj n b h
  exact⟨a,u,h1,e _ _ h2,h3.mono (bJ.refl _) eb.rl,(by refine a0R fun q=>?_;rw[fr a h4 q] at h2;cases h2)⟩
 own:=fun i b h=>by
  obtain⟨a,u,h1,h2,h3,h4,h5⟩:=C.own i b h
  exact⟨a,u,h1,e _ _ h2,h3.mono (bJ.refl _) eb.rl,(by refine a0R fun q=>?_;rw[fr a h4 q] at h2;cases h2),h5⟩
 inj:=C.inj
 new:=C.new
 dsl:=C.dsl
 tmp:=ht
theorem au.O9 (C:au K A st σ H ts Hb ι) (e:Ex H H') (eb:Ex Hb bB) (bh:Ex bB H') (fr:∀a,Hb a=none→bB a≠none→H a=none):au K A st σ H' ts bB ι:=
 C.grow e eb bh fr fun p hp=>p.m _ _ _ _ (bJ.refl _) eb.rl (C.tmp p hp)
theorem au.fresh (C:au K A st σ H ts Hb ι) {p:Addr} (hp:H p=none):Hb p=none∧p∉ι∧A.H p=none∧∀(i:Nat) c,st.s[i]?=some (.own c)→σ[i]?≠some (some (.ref p)):=by
 have n1:p∉ι:=fun hm=>by
  obtain⟨n,hn⟩:=a0H hm
  have hlt:n<st.h.length:=by rw[← C.hl];exact(a0d.mp hn).1
  obtain⟨a,u,h1,h2,_⟩:=C.obj n _ (a0e hlt)
  rw[hn] at h1;cases h1
  rw[hp] at h2;cases h2
 refine⟨C.bH.none hp,n1,?_,fun i c hc e=>?_⟩
 ·cases hA:A.H p with
  | none=>rfl
  | some o=>have:=C.keep p o hA (.inl fun z=>n1 (C.pre.mem z));rw[hp] at this;cases this
 ·obtain⟨a,u,h1,h2,_⟩:=C.own i c hc
  rw[e] at h1;cases h1
  rw[hp] at h2;cases h2
theorem au.laid (C:au K A st σ H ts Hb ι) {p:Addr} {o:HO} (hp:H p=none) (ht:∀q∈ts',q.p ι (upd Hb p o)):au K A st σ (upd H p o) ts' (upd Hb p o) ι:=by
 have hb:Hb p=none:=C.bH.none hp
 refine C.grow (Ex.new hp) (Ex.new hb) (fun a u e=>?_) (fun a h1 h2=>?_) ht
 ·by_cases q:a=p
  ·subst q;rw[a0r] at e ⊢;exact e
  ·rw[a0n q] at e ⊢;exact C.bH a u e
 ·by_cases q:a=p
  ·subst q;exact hp
  ·rw[a0n q] at h2;exact absurd h1 h2
theorem au.made (C:au K A st σ H ts Hb ι) {p:Addr} {o:HO} {b:Ob} (hp:H p=none) (hb:dN K ι Hb b o) (hz:mU o=false:=by rfl):fD K A st σ (upd H p o) ts b (.ref p):=by
 obtain⟨f1,f2,f3,f4⟩:=C.fresh hp
 exact⟨Hb,ι,p,o,C.O9 (Ex.new hp) (Ex.refl _) (C.bH.trans (Ex.new hp)) (fun a h1 h2=>absurd h1 h2),rfl,a0r,hb,f1,f2,f3,hz,f4⟩
theorem Fo:∀{l:List Addr} (hN:l.Nodup) {i j:Nat} {x:Addr} (a:l[i]?=some x) (b:l[j]?=some x),i=j:=fun {l} hN {i j x} a b=>by
 obtain⟨h1,e1⟩:=a0d.mp a
 obtain⟨h2,e2⟩:=a0d.mp b
 exact(List.getElem_inj hN).mp (e1.trans e2.symm)
theorem get_set {α:Type} {l:List α} {i j:Nat} {x y:α} (h:(l.set i x)[j]?=some y):(j=i∧y=x∧i<l.length)∨(j≠i∧l[j]?=some y):=by
 rw[a0j] at h
 by_cases q:i=j
 ·subst q
  rw[a0g rfl] at h
  by_cases z:i<l.length
  ·rw[a0g z] at h;cases h;exact .inl ⟨rfl,rfl,z⟩
  ·rw[a0h z] at h;cases h
 ·rw[a0h q] at h;exact .inr ⟨fun z=>q z.symm,h⟩
theorem au.yN (C:au K A st σ H ts Hb ι) {v:V} {r:R} (hr:RV K ι Hb r v) (i:Nat):au K A ⟨st.s.set i (.v r),st.h⟩ (σ.set i (some v)) H ts Hb ι:=
 {C with
  len:=by simp[C.len]
  val:=fun j r' h=>by
   rcases get_set h with ⟨rfl,e,z⟩|⟨n,h⟩
   ·cases e
    exact⟨v,by rw[a0j,a0g rfl,a0g (by rw[C.len];exact z)],hr⟩
   ·obtain⟨u,a,b⟩:=C.val j r' h
    exact⟨u,by rw[a0j,a0h (fun z=>n z.symm)];exact a,b⟩
  own:=fun j b h=>by
   rcases get_set h with ⟨rfl,e,z⟩|⟨n,h⟩
   ·cases e
   ·obtain⟨a,u,h1,h2⟩:=C.own j b h
    exact⟨a,u,by rw[a0j,a0h (fun z=>n z.symm)];exact h1,h2⟩
  dsl:=fun j k b c a h1 h2 e1 e2=>by
   rcases get_set h1 with ⟨rfl,e,z⟩|⟨n1,h1⟩
   ·cases e
   ·rcases get_set h2 with ⟨rfl,e,z⟩|⟨n2,h2⟩
    ·cases e
    ·rw[a0j,a0h (fun z=>n1 z.symm)] at e1
     rw[a0j,a0h (fun z=>n2 z.symm)] at e2
     exact C.dsl j k b c a h1 h2 e1 e2}
theorem au.HX (C:au K A st σ H ts Hb ι) (i:Nat) (o:Option V):au K A ⟨st.s.set i .no,st.h⟩ (σ.set i o) H ts Hb ι:=
 {C with
  len:=by simp[C.len]
  val:=fun j r' h=>by
   rcases get_set h with ⟨rfl,e,z⟩|⟨n,h⟩
   ·cases e
   ·obtain⟨u,a,b⟩:=C.val j r' h
    exact⟨u,by rw[a0j,a0h (fun z=>n z.symm)];exact a,b⟩
  own:=fun j b h=>by
   rcases get_set h with ⟨rfl,e,z⟩|⟨n,h⟩
   ·cases e
   ·obtain⟨a,u,h1,h2⟩:=C.own j b h
    exact⟨a,u,by rw[a0j,a0h (fun z=>n z.symm)];exact h1,h2⟩
  dsl:=fun j k b c a h1 h2 e1 e2=>by
   rcases get_set h1 with ⟨rfl,e,z⟩|⟨n1,h1⟩
   ·cases e
   ·rcases get_set h2 with ⟨rfl,e,z⟩|⟨n2,h2⟩
    ·cases e
    ·rw[a0j,a0h (fun z=>n1 z.symm)] at e1
     rw[a0j,a0h (fun z=>n2 z.symm)] at e2
     exact C.dsl j k b c a h1 h2 e1 e2}
theorem fD.vG {b:Ob} {v:V} (C:fD K A st σ H ts b v) (i:Nat):Cf K A ⟨st.s.set i (.own b),st.h⟩ (σ.set i (some v)) H ts:=by
 obtain⟨Hb,ι,a,u,C,rfl,hu,hb,h1,h2,h3,hz,h4⟩:=C
 refine⟨Hb,ι,{C with len:=by simp[C.len],val:=fun j r' h=>?_,own:=fun j b' h=>?_,dsl:=fun j k b c x g1 g2 e1 e2=>?_}⟩
 ·rcases get_set h with ⟨rfl,e,z⟩|⟨n,h⟩
  ·cases e
  ·obtain⟨u,a,b⟩:=C.val j r' h
   exact⟨u,by rw[a0j,a0h (fun z=>n z.symm)];exact a,b⟩
 ·rcases get_set h with ⟨rfl,e,z⟩|⟨n,h⟩
  ·cases e
   exact⟨a,u,by rw[a0j,a0g rfl,a0g (by rw[C.len];exact z)],hu,hb,h1,h2,h3,hz⟩
  ·obtain⟨a,u,h1,h2⟩:=C.own j b' h
   exact⟨a,u,by rw[a0j,a0h (fun z=>n z.symm)];exact h1,h2⟩
 ·rcases get_set g1 with ⟨rfl,e,z⟩|⟨n1,g1⟩
  ·rcases get_set g2 with ⟨rfl,e',z'⟩|⟨n2,g2⟩
   ·rfl
   ·rw[a0j,a0g rfl,a0g (by rw[C.len];exact z)] at e1
    rw[a0j,a0h (fun z=>n2 z.symm)] at e2
    cases e1
    exact absurd e2 (h4 k c g2)
  ·rcases get_set g2 with ⟨rfl,e',z'⟩|⟨n2,g2⟩
   ·rw[a0j,a0g rfl,a0g (by rw[C.len];exact z')] at e2
    rw[a0j,a0h (fun z=>n1 z.symm)] at e1
    cases e2
    exact absurd e1 (h4 j b (by assumption))
   ·rw[a0j,a0h (fun z=>n1 z.symm)] at e1
    rw[a0j,a0h (fun z=>n2 z.symm)] at e2
    exact C.dsl j k b c x g1 g2 e1 e2
theorem fD.Xv {b:Ob} {v:V} (C:fD K A st σ H ts b v):Cf K A ⟨st.s,st.h++[b]⟩ σ H (rt K σ (.o st.h.length) v::ts):=by
 obtain⟨Hb,ι,a,u,C,rfl,hu,hb,h1,h2,h3,hz,h4⟩:=C
 have pp:=bJ.push ι a
 have nin:∀{x:Addr},x∉ι→x≠a→x∉ι++[a]:=fun n1 n2 hm=>(b0G.mp hm).elim n1 fun z=>n2 (by simpa using z)
 refine⟨Hb,ι++[a],{C with pre:=C.pre.trans pp,hl:=by simp[C.hl],val:=fun i r h=>?_,obj:=fun n c h=>?_,own:=fun i c h=>?_,inj:=?_,new:=fun x hx=>?_,tmp:=fun p hp=>?_}⟩
 ·obtain⟨v,e,q⟩:=C.val i r h
  exact⟨v,e,q.mono pp (Rl.refl _)⟩
 ·by_cases hn:n<st.h.length
  ·rw[a0u hn] at h
   obtain⟨x,w,e1,e2,e3,e4⟩:=C.obj n c h
   exact⟨x,w,pp.get e1,e2,e3.mono pp (Rl.refl _),e4⟩
  ·have e:n=st.h.length:=by
    have:=(a0d.mp h).1
    simp at this;omega
   subst e
   rw[a0t (a0v _),b0i] at h
   cases (show some b=some c from h)
   exact⟨a,u,by rw[← C.hl,a0t (a0v _),b0i];rfl,hu,hb.mono pp (Rl.refl _),h1⟩
 ·obtain⟨x,w,e1,e2,e3,e4,e5,e6⟩:=C.own i c h
  exact⟨x,w,e1,e2,e3.mono pp (Rl.refl _),e4,nin e5 (fun z=>h4 i c h (by rw[e1,z])),e6⟩
 ·rw[List.nodup_append]
  exact⟨C.inj,by simp,fun x hx y hy=>by rw[a0s] at hy;rintro rfl;exact h2 (hy▸hx)⟩
 ·rcases b0G.mp hx with hx|hx
  ·exact C.new x hx
  ·rw[a0s] at hx;rw[hx];exact .inr fun o e=>by rw[h3] at e;cases e
 ·rcases a0c.mp hp with rfl|hp
  ·exact⟨a,by rw[← C.hl,a0t (a0v _),b0i];rfl,rfl⟩
  ·exact p.m _ _ _ _ pp (Rl.refl _) (C.tmp p hp)
theorem fD.frz {b:Ob} {v:V} {d:D} (C:fD K A st σ H ts b v) (hf:∀ι Hb a u,dN K ι Hb b u→Hb a=none→Rp K (upd Hb a u) d (.ref a)):Cf K A st σ H (rt K σ (.d d) v::ts):=by
 obtain⟨Hb,ι,a,u,C,rfl,hu,hb,h1,h2,h3,hz,h4⟩:=C
 have eb:Ex Hb (upd Hb a u):=Ex.new h1
 refine⟨upd Hb a u,ι,{C with eB:=C.eB.trans eb,bH:=fun x o e=>?_,ap:=fun x e1 e2=>?_,val:=fun i r h=>?_,obj:=fun n c h=>?_,own:=fun i c h=>?_,tmp:=fun p hp=>?_}⟩
 ·by_cases z:x=a
  ·subst z;rw[a0r] at e;cases e;exact hu
  ·rw[a0n z] at e;exact C.bH x o e
 ·have z:x≠a:=fun z=>e2 (by rw[z];exact h3)
  rw[a0n z];exact C.ap x e1 e2
 ·obtain⟨v,e,q⟩:=C.val i r h
  exact⟨v,e,q.mono (bJ.refl _) eb.rl⟩
 ·obtain⟨x,w,e1,e2,e3,e4⟩:=C.obj n c h
  have z:x≠a:=fun z=>h2 (by rw[← z];exact a0l e1)
  exact⟨x,w,e1,e2,e3.mono (bJ.refl _) eb.rl,by rw[a0n z];exact e4⟩
 ·obtain⟨x,w,e1,e2,e3,e4,e5⟩:=C.own i c h
  have z:x≠a:=fun z=>h4 i c h (by rw[e1,z])
  exact⟨x,w,e1,e2,e3.mono (bJ.refl _) eb.rl,by rw[a0n z];exact e4,e5⟩
 ·rcases a0c.mp hp with rfl|hp
  ·exact hf ι Hb a u hb h1
  ·exact p.m _ _ _ _ (bJ.refl _) eb.rl (C.tmp p hp)
theorem au.take (C:au K A st σ H ts Hb ι) {i:Nat} {b:Ob} (h:st.s[i]?=some (.own b)):∃v,σ[i]?=some (some v)∧fD K A ⟨st.s.set i .no,st.h⟩ σ H ts b v:=by
 obtain⟨a,u,e1,e2,e3,e4,e5,e6,e7⟩:=C.own i b h
 refine⟨.ref a,e1,Hb,ι,a,u,{C with len:=by simp[C.len],val:=fun j r h'=>?_,own:=fun j c h'=>?_,dsl:=fun j k c1 c2 x h1 h2=>?_},rfl,e2,e3,e4,e5,e6,e7,fun j c h'=>?_⟩
 ·rcases get_set h' with ⟨rfl,e,z⟩|⟨n,h'⟩
  ·cases e
  ·exact C.val j r h'
 ·rcases get_set h' with ⟨rfl,e,z⟩|⟨n,h'⟩
  ·cases e
  ·exact C.own j c h'
 ·rcases get_set h1 with ⟨rfl,e,z⟩|⟨n1,h1⟩
  ·cases e
  ·rcases get_set h2 with ⟨rfl,e,z⟩|⟨n2,h2⟩
   ·cases e
   ·exact C.dsl j k c1 c2 x h1 h2
 ·rcases get_set h' with ⟨rfl,e,z⟩|⟨n,h'⟩
  ·cases e
  ·exact fun z=>n (C.dsl j i c b a h' h z e1)
theorem au.agu (C:au K A st σ H ts Hb ι) {i:Nat} {b b':Ob} {a:Addr} {u':HO} (h:st.s[i]?=some (.own b)) (ea:σ[i]?=some (some (.ref a))) (hb:dN K ι Hb b' u') (hz:mU u'=false):au K A ⟨st.s.set i (.own b'),st.h⟩ σ (upd H a u') ts Hb ι:=by
 obtain⟨a',u,e1,e2,e3,e4,e5,e6,e7⟩:=C.own i b h
 rw[ea] at e1;cases e1
 have ne:∀{x:Addr},A.H x≠none→x≠a:=fun n z=>n (by rw[z];exact e6)
 refine {C with keep:=fun x o e n=>?_,bH:=fun x o e=>?_,len:=by simp[C.len],val:=fun j r h'=>?_,obj:=fun n c h'=>?_,own:=fun j c h'=>?_,dsl:=fun j k c1 c2 x h1 h2=>?_}
 ·rw[a0n (ne (by rw[e];exact fun z=>nomatch z))];exact C.keep x o e n
 ·have z:x≠a:=fun z=>by rw[z,e4] at e;cases e
  rw[a0n z];exact C.bH x o e
 ·rcases get_set h' with ⟨rfl,e,z⟩|⟨n,h'⟩
  ·cases e
  ·exact C.val j r h'
 ·obtain⟨x,w,g1,g2,g3,g4⟩:=C.obj n c h'
  have z:x≠a:=fun z=>e5 (by rw[← z];exact a0l g1)
  exact⟨x,w,g1,by rw[a0n z];exact g2,g3,g4⟩
 ·rcases get_set h' with ⟨rfl,e,z⟩|⟨n,h'⟩
  ·cases e
   exact⟨a,u',ea,a0r,hb,e4,e5,e6,hz⟩
  ·obtain⟨x,w,g1,g2,g3⟩:=C.own j c h'
   have z:x≠a:=fun z=>n (C.dsl j i c b a h' h (by rw[g1,z]) ea)
   exact⟨x,w,g1,by rw[a0n z];exact g2,g3⟩
 ·rcases get_set h1 with ⟨rfl,e,z⟩|⟨n1,h1⟩
  ·rcases get_set h2 with ⟨rfl,e',z'⟩|⟨n2,h2⟩
   ·exact fun _ _=>rfl
   ·exact fun q1 q2=>C.dsl _ k b c2 x h h2 q1 q2
  ·rcases get_set h2 with ⟨rfl,e',z'⟩|⟨n2,h2⟩
   ·exact fun q1 q2=>C.dsl j _ c1 b x (by assumption) h q1 q2
   ·exact C.dsl j k c1 c2 x h1 h2
theorem au.Qe (C:au K A st σ H ts Hb ι) {n:Nat} {b b':Ob} {a:Addr} {u':HO} (h:st.h[n]?=some b) (ea:ι[n]?=some a) (hb:dN K ι Hb b' u') (hz:∀u,H a=some u→mU u=false):au K A ⟨st.s,st.h.set n b'⟩ σ (upd H a u') ts Hb ι:=by
 obtain⟨a',u,e1,e2,e3,e4⟩:=C.obj n b h
 rw[ea] at e1;cases e1
 have hm:a∈ι:=a0l ea
 refine {C with keep:=fun x o e nx=>?_,bH:=fun x o e=>?_,hl:=by simp[C.hl],obj:=fun m c h'=>?_,own:=fun j c h'=>?_}
 ·have z:x≠a:=fun z=>by
   subst z
   have q:mU o=true:=nx.elim (fun nx=>(C.new x hm).elim (fun y=>absurd y nx) fun y=>y o e) id
   rw[hz o (C.keep x o e (.inr q))] at q;cases q
  rw[a0n z];exact C.keep x o e nx
 ·have z:x≠a:=fun z=>by rw[z,e4] at e;cases e
  rw[a0n z];exact C.bH x o e
 ·rcases get_set h' with ⟨rfl,e,z⟩|⟨nm,h'⟩
  ·cases e
   exact⟨a,u',ea,a0r,hb,e4⟩
  ·obtain⟨x,w,g1,g2,g3,g4⟩:=C.obj m c h'
   have z:x≠a:=fun z=>nm (Fo C.inj g1 (by rw[z];exact ea))
   exact⟨x,w,g1,by rw[a0n z];exact g2,g3,g4⟩
 ·obtain⟨x,w,g1,g2,g3,g4,g5,g6⟩:=C.own j c h'
  have z:x≠a:=fun z=>g5 (by rw[z];exact hm)
  exact⟨x,w,g1,by rw[a0n z];exact g2,g3,g4,g5,g6⟩
end
inductive Rx (α:Type) where
 | ok (a:α) (st:ST)|ex (x:XD) (st:ST)
abbrev M (α:Type):=ST→Option (Rx α)
def M.bind {α β:Type} (f:M α) (g:α→M β):M β:=fun st=>match f st with
 | some (.ok a st')=>g a st'
 | some (.ex x st')=>some (.ex x st')
 | none=>none
def M.ret {α:Type} (a:α):M α:=fun st=>some (.ok a st)
def M.of {α β:Type} (f:M α) (g:ST→α→Option β):M β:=fun st=>match f st with
 | some (.ok a st')=>(g st' a).map fun b=>.ok b st'
 | some (.ex x st')=>some (.ex x st')
 | none=>none
section
variable {α β:Type} {f:M α} {g:α→M β} {k:ST→α→Option β} {st st':ST} {a:α} {x:XD}
theorem cM (h:f st=some (.ok a st')):M.bind f g st=g a st':=by unfold M.bind;rw[h]
theorem dI {y:Rx β} (h:M.bind f g st=some y):(∃a st',f st=some (.ok a st')∧g a st'=some y)∨∃x st',f st=some (.ex x st')∧y=.ex x st':=by
 unfold M.bind at h
 cases q:f st with
 | none=>rw[q] at h;cases h
 | some z=>
  rw[q] at h
  cases z with
  | ok a s=>exact .inl ⟨a,s,rfl,h⟩
  | ex x s=>cases h;exact .inr ⟨x,s,rfl,rfl⟩
theorem lg {y:Rx β} (h:M.of f k st=some y):(∃a st' b,f st=some (.ok a st')∧k st' a=some b∧y=.ok b st')∨∃x st',f st=some (.ex x st')∧y=.ex x st':=by
 unfold M.of at h
 cases q:f st with
 | none=>rw[q] at h;cases h
 | some z=>
  rw[q] at h
  cases z with
  | ok a s=>
   cases e:k s a with
   | none=>simp only[e] at h;cases h
   | some b=>simp only[e] at h;cases h;exact .inl ⟨a,s,b,rfl,e,rfl⟩
  | ex x s=>cases h;exact .inr ⟨x,s,rfl,rfl⟩
end
theorem W7 {α β:Type} {F G Z:α→β→Prop} (k:∀a b,F a b→G a b→Z a b):∀{l:List α} {m:List β},Paired F l m→Paired G l m→Paired Z l m
 | [],_,.nil,_=>.nil
 | _::_,_,.cons a b,.cons a' b'=>.cons (k _ _ a a') (W7 k b b')
section
variable (K:PySem.W.Frag) (W:WX)
def QL (A:Ac) (σ:L2.St) (ts:List Tp) (Q:VK):Rx R→Prop
 | .ok r st=>∀v H2,Cf K A st σ H2 (rt K σ r v::ts)→Q v H2
 | .ex x st=>∀cls d H2,XO K A ts x st cls d σ H2→W cls d σ H2
def Yj (A:Ac) (σ:L2.St) (ts:List Tp) (Q:VK):Rx Ob→Prop
 | .ok b st=>∀v H2,fD K A st σ H2 ts b v→Q v H2
 | .ex x st=>∀cls d H2,XO K A ts x st cls d σ H2→W cls d σ H2
def PoT (A:Ac) (σ:L2.St) (ts:List Tp) (Q:Bool→Hp→Prop):Rx Bool→Prop
 | .ok b st=>∀H2,Cf K A st σ H2 ts→Q b H2
 | .ex x st=>∀cls d H2,XO K A ts x st cls d σ H2→W cls d σ H2
def jk (σ:L2.St) (rs:List R) (vs:List V):Tp:=⟨fun ι Hb=>Paired (fun r v=>Rt K σ ι Hb r v) rs vs,fun ι gU Hb bB p rl h=>L2.Paired.mapP h fun r v q=>(rt K σ r v).m _ _ _ _ p rl q,fun ι gU Hb bB p h h'=>W7 (fun r v q q'=>(rt K σ r v).l _ _ _ _ p q q') h h'⟩
def PoA (A:Ac) (σ:L2.St) (ts:List Tp) (Q:List V→Hp→Prop):Rx (List R)→Prop
 | .ok rs st=>∀vs H2,Cf K A st σ H2 (jk K σ rs vs::ts)→Q vs H2
 | .ex x st=>∀cls d H2,XO K A ts x st cls d σ H2→W cls d σ H2
def XE (te:TE) (f:M R):Prop:=∀A st σ H ts,Cf K A st σ H ts→∀Q y,f st=some y→QL K W A σ ts Q y→te σ H Q
def XN (te:TE) (f:M Ob):Prop:=∀A st σ H ts,Cf K A st σ H ts→∀Q y,f st=some y→Yj K W A σ ts Q y→te σ H Q
def XT (tt:TT) (f:M Bool):Prop:=∀A st σ H ts,Cf K A st σ H ts→∀Q y,f st=some y→PoT K W A σ ts Q y→tt σ H Q
def XA (ta:TA) (f:M (List R)):Prop:=∀A st σ H ts,Cf K A st σ H ts→∀Q y,f st=some y→PoA K W A σ ts Q y→ta σ H Q
end
section
variable {K:PySem.W.Frag} {W:WX} {A:Ac} {st st':ST} {σ:L2.St} {H H' Hb:Hp} {ts ts':List Tp} {ι:List Addr} {x:XD} {cls:Value} {d:Option Addr}
theorem XO.temps (X:XO K A ts x st cls d σ H) (h:∀p∈ts',p∈ts):XO K A ts' x st cls d σ H:=by
 obtain⟨Hb,ι,dd,vs,C,r⟩:=X
 exact⟨Hb,ι,dd,vs,C.temps fun p hp=>C.tmp p (h p hp),r⟩
theorem XO.drop {p:Tp} (X:XO K A (p::ts) x st cls d σ H):XO K A ts x st cls d σ H:=X.temps fun q hq=>by simp[hq]
def cZ:List R→Option (List D)
 | []=>some []
 | .d x::rs=>(cZ rs).map (x::·)
 | _::_=>none
def d8:Ob→Option D
 | .lst ds=>some (.lst ds)
 | .bW xs=>(cZ xs).map .lst
 | .aV ks ds=>some (.aV ks ds)
 | .cQ ks xs=>(cZ xs).map (.aV ks)
 | .dct ks ds=>some (.dct ks ds)
 | .dn w ks xs=>(cZ xs).map (.oF w ks)
 | .vX w ks xs=>(cZ xs).map (.oF w ks)
 | .ins C fs xs=>(cZ xs).map (.ins C fs)
 | .iD ks ds=>some (.aV ks ds)
 | .lO ks xs=>(cZ xs).map (.aV ks)
 | .vW ks ds=>some (.dct ks ds)
theorem sH:∀{rs:List R} {ds:List D} {vs:List V},cZ rs=some ds→bA K ι Hb rs vs→aq K Hb ds vs
 | [],ds,vs,h,r=>by cases h;cases r;exact aq.nil
 | .d x::rs,ds,vs,h,r=>by
  unfold cZ at h
  cases q:cZ rs with
  | none=>rw[q] at h;cases h
  | some es=>
   rw[q] at h;cases h
   cases r with
   | cons a b=>exact aq.cons a (sH q b)
 | .o _::_,ds,vs,h,r=>by cases h
 | .w _::_,ds,vs,h,r=>by cases h
theorem Gr:∀{b:Ob} {d:D} {u:HO} {a:Addr} {G:Hp},d8 b=some d→dN K ι Hb b u→Rl Hb G→G a=some u→Rp K G d (.ref a)
 | .lst ds,d,u,a,G,h,⟨vs,e,q⟩,rl,hG=>by cases h;subst e;unfold Rp;exact⟨a,vs,rfl,.inl hG,aq.mono rl _ _ q⟩
 | .bW xs,d,u,a,G,h,⟨vs,e,q⟩,rl,hG=>by
  subst e
  simp only[d8] at h
  cases z:cZ xs with
  | none=>rw[z] at h;cases h
  | some ds=>rw[z] at h;cases h;unfold Rp;exact⟨a,vs,rfl,.inl hG,aq.mono rl _ _ (sH z q)⟩
 | .aV ks ds,d,u,a,G,h,⟨vs,e,l,q⟩,rl,hG=>by cases h;subst e;unfold Rp;exact⟨a,vs,rfl,.inl hG,l,aq.mono rl _ _ q⟩
 | .cQ ks xs,d,u,a,G,h,⟨vs,e,l,q⟩,rl,hG=>by
  subst e
  simp only[d8] at h
  cases z:cZ xs with
  | none=>rw[z] at h;cases h
  | some ds=>rw[z] at h;cases h;unfold Rp;exact⟨a,vs,rfl,.inl hG,l,aq.mono rl _ _ (sH z q)⟩
 | .dct ks ds,d,u,a,G,h,⟨vs,e,l,q⟩,rl,hG=>by cases h;subst e;unfold Rp;exact⟨a,vs,rfl,.inl hG,l,aq.mono rl _ _ q⟩
 | .dn w ks xs,d,u,a,G,h,⟨b,vs,cP,e,l,n,l2,q⟩,rl,hG=>by
  subst e
  simp only[d8] at h
  cases z:cZ xs with
  | none=>rw[z] at h;cases h
  | some ds=>rw[z] at h;cases h;unfold Rp;exact⟨a,b,vs,cP,rfl,.inl hG,l,iW.mono rl _ _ n,l2,aq.mono rl _ _ (sH z q)⟩
 | .vX w ks xs,d,u,a,G,h,⟨od,b,vs,cP,e,l,n,l2,q⟩,rl,hG=>by
  subst e
  simp only[d8] at h
  cases z:cZ xs with
  | none=>rw[z] at h;cases h
  | some ds=>rw[z] at h;cases h;unfold Rp;exact⟨a,b,vs,cP,rfl,.inr ⟨od,hG⟩,l,iW.mono rl _ _ n,l2,aq.mono rl _ _ (sH z q)⟩
 | .ins C fs xs,d,u,a,G,h,⟨dx,vs,e,l,q⟩,rl,hG=>by
  subst e
  simp only[d8] at h
  cases z:cZ xs with
  | none=>rw[z] at h;cases h
  | some ds=>rw[z] at h;cases h;unfold Rp;exact⟨a,dx,vs,rfl,hG,l,aq.mono rl _ _ (sH z q)⟩
 | .iD ks ds,d,u,a,G,h,⟨od,vs,e,l,q⟩,rl,hG=>by cases h;subst e;unfold Rp;exact⟨a,vs,rfl,.inr ⟨od,hG⟩,l,aq.mono rl _ _ q⟩
 | .lO ks xs,d,u,a,G,h,⟨od,vs,e,l,q⟩,rl,hG=>by
  subst e
  simp only[d8] at h
  cases z:cZ xs with
  | none=>rw[z] at h;cases h
  | some ds=>rw[z] at h;cases h;unfold Rp;exact⟨a,vs,rfl,.inr ⟨od,hG⟩,l,aq.mono rl _ _ (sH z q)⟩
 | .vW ks ds,d,u,a,G,h,⟨od,vs,e,l,q⟩,rl,hG=>by cases h;subst e;unfold Rp;exact⟨a,vs,rfl,.inr ⟨od,hG⟩,l,aq.mono rl _ _ q⟩
def bF (st:ST):R→Option Ob
 | .d _=>none
 | .o n=>st.h[n]?
 | .w i=>match st.s[i]? with
  | some (.own b)=>some b
  | _=>none
def snap (st:ST):R→Option D
 | .d x=>some x
 | r=>(bF st r).bind d8
theorem au.at (C:au K A st σ H ts Hb ι) {r:R} {v:V} {b:Ob} (hr:Rt K σ ι Hb r v) (h:bF st r=some b):∃a u,v=.ref a∧H a=some u∧dN K ι Hb b u∧Hb a=none:=by
 cases r with
 | d x=>cases h
 | o n=>
  obtain⟨a,e,rfl⟩:=hr
  obtain⟨a',u,h1,h2,h3,h4⟩:=C.obj n b h
  rw[e] at h1;cases h1
  exact⟨a,u,rfl,h2,h3,h4⟩
 | w i=>
  simp only[bF] at h
  cases q:st.s[i]? with
  | none=>rw[q] at h;cases h
  | some sv=>
   rw[q] at h
   cases sv with
   | no=>cases h
   | v r=>cases h
   | own c=>
    cases h
    obtain⟨a,u,h1,h2,h3,h4,_⟩:=C.own i _ q
    have hr:σ[i]?=some (some v):=hr
    rw[h1] at hr;cases hr
    exact⟨a,u,rfl,h2,h3,h4⟩
theorem au.snap (C:au K A st σ H ts Hb ι) {r:R} {v:V} {d:D} (hr:Rt K σ ι Hb r v) (h:snap st r=some d):Rp K H d v:=by
 have key:(∃b,bF st r=some b∧d8 b=some d)→Rp K H d v:=fun⟨b,h1,h2⟩=>by
  obtain⟨a,u,rfl,g1,g2,_⟩:=C.at hr h1
  exact Gr h2 g2 C.bH.rl g1
 cases r with
 | d x=>cases h;exact Rp.mono C.bH.rl _ _ hr
 | o n=>exact key (a0a.mp h)
 | w i=>exact key (a0a.mp h)
end
def eV (i:Nat):M R:=fun st=>match st.s[i]? with
 | some (.v r)=>some (.ok r st)
 | some (.own _)=>some (.ok (.w i) st)
 | _=>none
def eC (x:D):M R:=fun st=>some (.ok (.d x) st)
def aN:M (List R):=fun st=>some (.ok [] st)
def aC (f:M R) (g:M (List R)):M (List R):=f.bind fun r=>g.bind fun rs st=>some (.ok (r::rs) st)
section
variable {K:PySem.W.Frag} {W:WX} {te ta tb:TE} {tr:TA} {f g:M R} {fr:M (List R)}
theorem yG {ι:List Addr} {Hb:Hp} {σ:L2.St} {r:R} {v:V} (h:RV K ι Hb r v):Rt K σ ι Hb r v:=by
 cases r with
 | d x=>exact h
 | o n=>exact h
 | w i=>exact h.elim
theorem ak {i:Nat}:XE K W (tVar i) (eV i):=fun A st σ H ts ⟨Hb,ι,C⟩ Q y hf p=>by
 unfold eV at hf
 split at hf
 ·rename_i r hr
  cases hf
  obtain⟨v,e,q⟩:=C.val i _ hr
  exact⟨v,e,p v H ⟨Hb,ι,C.temps fun z hz=>(a0c.mp hz).elim (fun e=>by rw[e];exact yG q) (C.tmp z)⟩⟩
 ·rename_i b hb
  cases hf
  obtain⟨a,u,h1,_⟩:=C.own i _ hb
  exact⟨_,h1,p _ H ⟨Hb,ι,C.temps fun z hz=>(a0c.mp hz).elim (fun e=>by rw[e];exact h1) (C.tmp z)⟩⟩
 ·cases hf
theorem HY {x:D} {v:V} (h:∀Hb,Rp K Hb x v):XE K W (tC v) (eC x):=fun A st σ H ts C Q y hf p=>by
 cases hf
 exact p v H (C.temps fun z hz=>(a0c.mp hz).elim (fun e=>.inr fun ι Hb=>by rw[e];exact h Hb) .inl)
theorem bx {i:Int}:XE K W (tC (.int i)) (eC (.int i)):=HY fun _=>by unfold Rp;rfl
theorem dw {i:Str}:XE K W (tC (.str i)) (eC (.str i)):=HY fun _=>by unfold Rp;rfl
theorem jg {i:Bool}:XE K W (tC (.bl i)) (eC (.bl i)):=HY fun _=>by unfold Rp;rfl
theorem BW {i:String}:XE K W (tC (.ty i)) (eC (.ty i)):=HY fun _=>by unfold Rp;rfl
theorem aK:XA K W tNil aN:=fun A st σ H ts C Q y hf p=>by
 cases hf
 exact p [] H (C.temps fun z hz=>(a0c.mp hz).elim (fun e=>.inr fun ι Hb=>by rw[e];exact .nil) .inl)
theorem aF (hf:XE K W te f) (hg:XA K W tr fr):XA K W (tCons te tr) (aC f fr):=fun A st σ H ts C Q y hy p=>by
 rcases dI hy with ⟨r,s1,h1,h2⟩|⟨x,s1,h1,rfl⟩
 ·refine hf A st σ H ts C _ _ h1 fun v H1 C1=>?_
  rcases dI h2 with ⟨rs,s2,h3,h4⟩|⟨x,s2,h3,rfl⟩
  ·cases h4
   refine hg A s1 σ H1 _ C1 _ _ h3 fun vs H2 C2=>p (v::vs) H2 ?_
   obtain⟨Hb,ι,C2⟩:=C2
   exact⟨Hb,ι,C2.temps fun z hz=>(a0c.mp hz).elim (fun e=>by rw[e];exact .cons (C2.tmp (rt K σ r v) (by simp)) (C2.tmp (jk K σ rs vs) (by simp))) fun hz=>C2.tmp z (by simp[hz])⟩
  ·exact hg A s1 σ H1 _ C1 _ _ h3 fun cls d H2 X=>p cls d H2 X.drop
 ·exact hf A st σ H ts C _ _ h1 fun cls d H2 X=>p cls d H2 X
def aZ (K:PySem.W.Frag) (r:R2) (g:ST→R→R→Option R):Prop:=∀A st σ H ts Hb ι x y z v u (Q:VK),au K A st σ H ts Hb ι→Rt K σ ι Hb x v→Rt K σ ι Hb y u→g st x y=some z→(∀w H2,Cf K A st σ H2 (rt K σ z w::ts)→Q w H2)→r v u H Q
def eB (k:ST→R→R→Option R) (f g:M R):M R:=f.bind fun x=>g.bind fun y=>fun st=>(k st x y).map fun z=>.ok z st
theorem aW {r:R2} {k:ST→R→R→Option R} (hk:aZ K r k) (hf:XE K W ta f) (hg:XE K W tb g):XE K W (tOp r ta tb) (eB k f g):=fun A st σ H ts C Q y hy p=>by
 rcases dI hy with ⟨x,s1,h1,h2⟩|⟨x,s1,h1,rfl⟩
 ·refine hf A st σ H ts C _ _ h1 fun v H1 C1=>?_
  rcases dI h2 with ⟨z,s2,h3,h4⟩|⟨x,s2,h3,rfl⟩
  ·refine hg A s1 σ H1 _ C1 _ _ h3 fun u H2 C2=>?_
   obtain⟨Hb,ι,C2⟩:=C2
   cases e:k s2 x z with
   | none=>rw[e] at h4;cases h4
   | some w=>
    rw[e] at h4;cases h4
    exact hk A s2 σ H2 ts Hb ι x z w v u Q (C2.temps fun q hq=>C2.tmp q (by simp[hq])) (C2.tmp (rt K σ x v) (by simp)) (C2.tmp (rt K σ z u) (by simp)) e p
  ·exact hg A s1 σ H1 _ C1 _ _ h3 fun cls d H2 X=>p cls d H2 X.drop
 ·exact hf A st σ H ts C _ _ h1 fun cls d H2 X=>p cls d H2 X
def aU (k:D→D→Option D):ST→R→R→Option R:=fun st x y=>(snap st x).bind fun a=>(snap st y).bind fun b=>(k a b).map .d
theorem lE {r:R2} {k:D→D→Option D} (hk:∀x y z,k x y=some z→gR K r x y z):aZ K r (aU k):=fun A st σ H ts Hb ι x y z v u Q C hx hy e p=>by
 obtain⟨a,ha,e⟩:=a0a.mp e
 obtain⟨b,hb,e⟩:=a0a.mp e
 obtain⟨c,hc,rfl⟩:=a0b.mp e
 exact hk a b c hc H H v u Q (Ex.refl _) (C.snap hx ha) (C.snap hy hb) fun w hw=>p w H ⟨Hb,ι,C.temps fun q hq=>(a0c.mp hq).elim (fun e=>by rw[e];exact hw Hb) (C.tmp q)⟩
end
def iG (st:ST):R→Option (List D)
 | .d (.lst ds)=>some ds
 | .d _=>none
 | r=>match bF st r with
  | some (.lst ds)=>some ds
  | _=>none
def jm (st:ST):R→Option (List Key×List D)
 | .d (.aV ks ds)=>some (ks,ds)
 | .d _=>none
 | r=>match bF st r with
  | some (.aV ks ds)=>some (ks,ds)
  | some (.iD ks ds)=>some (ks,ds)
  | _=>none
def inV (st:ST):R→Option (Addr×List Str×List R)
 | .d (.ins C fs xs)=>some (C,fs,xs.map .d)
 | .d _=>none
 | r=>match bF st r with
  | some (.ins C fs xs)=>some (C,fs,xs)
  | _=>none
section
variable {K:PySem.W.Frag} {A:Ac} {st:ST} {σ:L2.St} {H Hb:Hp} {ts:List Tp} {ι:List Addr} {r:R} {v:V}
theorem yg:∀{ds:List D} {vs:List V},aq K Hb ds vs→bA K ι Hb (ds.map .d) vs
 | [],vs,h=>by rw[aq.qI h];exact .nil
 | d::ds,vs,h=>by
  obtain⟨v,t,rfl,p,q⟩:=aq.qG h
  exact .cons p (yg q)
theorem au.iG (C:au K A st σ H ts Hb ι) {ds:List D} (hr:Rt K σ ι Hb r v) (h:iG st r=some ds):∃a vs,v=.ref a∧Rd H a (.lst vs)∧aq K Hb ds vs:=by
 have key:(∃b,bF st r=some b∧b=.lst ds)→∃a vs,v=.ref a∧Rd H a (.lst vs)∧aq K Hb ds vs:=by
  rintro⟨b,hb,rfl⟩;obtain⟨a,u,rfl,h1,⟨vs,rfl,q⟩,_⟩:=C.at hr hb;exact⟨a,vs,rfl,.inl h1,q⟩
 have key2:(match bF st r with|some (.lst ds)=>some ds|_=>none)=some ds→∃b,bF st r=some b∧b=.lst ds:=fun h=>by
  cases q:bF st r with
  | none=>rw[q] at h;cases h
  | some b=>rw[q] at h;cases b<;>first|cases h;done|(cases h;exact⟨_,rfl,rfl⟩)
 cases r with
 | d x=>
  cases x<;>first|cases h;done|skip
  cases h
  have hr:Rp K Hb (.lst ds) v:=hr
  unfold Rp at hr
  obtain⟨a,vs,rfl,s,q⟩:=hr
  exact⟨a,vs,rfl,C.bH.rl.ls s,q⟩
 | o n=>exact key (key2 h)
 | w i=>exact key (key2 h)
theorem au.jm (C:au K A st σ H ts Hb ι) {p:List Key×List D} (hr:Rt K σ ι Hb r v) (h:jm st r=some p):∃a vs,v=.ref a∧Rd H a (.dK (p.1.zip vs))∧p.1.length=vs.length∧aq K Hb p.2 vs:=by
 have key:(∃b,bF st r=some b∧(b=.aV p.1 p.2∨b=.iD p.1 p.2))→∃a vs,v=.ref a∧Rd H a (.dK (p.1.zip vs))∧p.1.length=vs.length∧aq K Hb p.2 vs:=by
  rintro⟨b,hb,rfl|rfl⟩
  ·obtain⟨a,u,rfl,h1,⟨vs,rfl,l,q⟩,_⟩:=C.at hr hb;exact⟨a,vs,rfl,.inl h1,l,q⟩
  ·obtain⟨a,u,rfl,h1,⟨od,vs,rfl,l,q⟩,_⟩:=C.at hr hb;exact⟨a,vs,rfl,.inr ⟨od,h1⟩,l,q⟩
 have key2:(match bF st r with|some (.aV ks ds)=>some (ks,ds)|some (.iD ks ds)=>some (ks,ds)|_=>none)=some p→∃b,bF st r=some b∧(b=.aV p.1 p.2∨b=.iD p.1 p.2):=fun h=>by
  cases q:bF st r with
  | none=>rw[q] at h;cases h
  | some b=>rw[q] at h;cases b<;>first|cases h;done|(cases h;exact⟨_,rfl,.inl rfl⟩)|(cases h;exact⟨_,rfl,.inr rfl⟩)
 cases r with
 | d x=>
  cases x<;>first|cases h;done|skip
  cases h
  have hr:Rp K Hb (.aV _ _) v:=hr
  unfold Rp at hr
  obtain⟨a,vs,rfl,s,l,q⟩:=hr
  exact⟨a,vs,rfl,C.bH.rl.k s,l,q⟩
 | o n=>exact key (key2 h)
 | w i=>exact key (key2 h)
theorem au.inV (C:au K A st σ H ts Hb ι) {p:Addr×List Str×List R} (hr:Rt K σ ι Hb r v) (h:inV st r=some p):∃a dx vs,v=.ref a∧H a=some (.ins p.1 dx (p.2.1.zip vs))∧p.2.1.length=vs.length∧bA K ι Hb p.2.2 vs:=by
 have key:(∃b,bF st r=some b∧b=.ins p.1 p.2.1 p.2.2)→∃a dx vs,v=.ref a∧H a=some (.ins p.1 dx (p.2.1.zip vs))∧p.2.1.length=vs.length∧bA K ι Hb p.2.2 vs:=by
  rintro⟨b,hb,rfl⟩
  obtain⟨a,u,rfl,h1,⟨dx,vs,rfl,l,q⟩,_⟩:=C.at hr hb;exact⟨a,dx,vs,rfl,h1,l,q⟩
 have key2:(match bF st r with|some (.ins C fs xs)=>some (C,fs,xs)|_=>none)=some p→∃b,bF st r=some b∧b=.ins p.1 p.2.1 p.2.2:=fun h=>by
  cases q:bF st r with
  | none=>rw[q] at h;cases h
  | some b=>rw[q] at h;cases b<;>first|cases h;done|(cases h;exact⟨_,rfl,rfl⟩)
 cases r with
 | d x=>
  cases x<;>first|cases h;done|skip
  cases h
  have hr:Rp K Hb (.ins _ _ _) v:=hr
  unfold Rp at hr
  obtain⟨a,dx,vs,rfl,s,l,q⟩:=hr
  exact⟨a,dx,vs,rfl,C.bH _ _ s,l,yg q⟩
 | o n=>exact key (key2 h)
 | w i=>exact key (key2 h)
end
def kI (f:Int→Int→D):D→D→Option D
 | .int i,.int j=>some (f i j)
 | _,_=>none
instance aha (i j:Int):Decidable (CMul i j):=by unfold CMul;infer_instance
instance ahb (i j:Int):Decidable (CDiv i j):=by unfold CDiv;infer_instance
instance ahc (i j:Int):Decidable (CPow i j):=by unfold CPow;infer_instance
def zf (C:Int→Int→Prop) [∀i j,Decidable (C i j)] (f:Int→Int→D):D→D→Option D
 | .int i,.int j=>if C i j then some (f i j) else none
 | _,_=>none
def Qg:=kI fun i j=>.int (i-j)
def pK:=zf CMul fun i j=>.int (i*j)
def jh:=zf (fun _ j=>0<j) fun i j=>.int (i%j)
def Hf:=zf CDiv fun i j=>.int (i/j)
def BX:=zf CPow fun i j=>.int (i ^ j.toNat)
def kLt:=kI fun i j=>.bl (decide (i<j))
def jJ:=kI fun i j=>.bl (decide (i≤j))
def QM:=kI fun i j=>.bl (decide (j≤i))
def isNon:D→Bool
 | .non=>true
 | _=>false
mutual
def cG:D→D→Bool
 | .non,.non=>true
 | .bl a,.bl b=>a == b
 | .bl a,.int j=>(if a then 1 else 0) == j
 | .int i,.bl b=>i == (if b then 1 else 0)
 | .int i,.int j=>i == j
 | .str x,.str y=>x == y
 | .lst xs,.lst ys=>j7 xs ys
 | .tup xs,.tup ys=>j7 xs ys
 | _,_=>false
def j7:List D→List D→Bool
 | [],[]=>true
 | x::xs,y::ys=>cG x y&&j7 xs ys
 | _,_=>false
end
mutual
theorem Gu:∀x y:D,bG x=true→bG y=true→PyData.eqv (toPy x) (toPy y)=cG x y
 | x,y,hx,hy=>by
  cases x<;>cases y<;>first
   | (simp[bG] at hx;done)|(simp[bG] at hy;done)
   | (simp only[toPy,cG,PyData.eqv];done)
   | (simp only[toPy,cG,PyData.eqv];simp only[bG] at hx hy;exact Vr _ _ hx hy)
theorem Vr:∀xs ys:List D,g_ xs=true→g_ ys=true→PyData.eqvAll (d_ xs) (d_ ys)=j7 xs ys
 | [],[],_,_=>by simp only[d_,j7,PyData.eqvAll]
 | [],y::ys,_,_=>by simp only[d_,j7,PyData.eqvAll]
 | x::xs,[],_,_=>by simp only[d_,j7,PyData.eqvAll]
 | x::xs,y::ys,hx,hy=>by
  simp only[g_,a0o] at hx hy
  simp only[d_,j7,PyData.eqvAll]
  rw[Gu x y hx.1 hy.1,Vr xs ys hx.2 hy.2]
end
def dB:D→Bool
 | .non=>true|.bl _=>true|.int _=>true|.str _=>true|_=>false
def fK (x:D):Bool:=bG x&&decide (dep x≤64)
def kEq (neg:Bool):D→D→Option D:=fun x y=>if (dB x&&dB y) || (fK x&&fK y) then some (.bl (if neg then !cG x y else cG x y)) else none
section
variable {K:PySem.W.Frag}
theorem CP {g:Int→Int→V} {f:Int→Int→D} (h:∀i j Hb,Rp K Hb (f i j) (g i j)):∀x y z,kI f x y=some z→gR K (rI0 g) x y z:=fun x y z e=>by
 cases x<;>first|cases e;done|skip
 cases y<;>first|cases e;done|skip
 cases e
 exact ae2 (h _ _)
theorem Hg {C:Int→Int→Prop} [∀i j,Decidable (C i j)] {g:Int→Int→V} {f:Int→Int→D} (h:∀i j Hb,Rp K Hb (f i j) (g i j)):∀x y z,zf C f x y=some z→gR K (rI C g) x y z:=fun x y z e=>by
 cases x<;>first|cases e;done|skip
 cases y<;>first|cases e;done|skip
 rename_i i j
 simp only[zf] at e
 by_cases q:C i j
 ·rw[a0g q] at e;cases e;exact agn q (h _ _)
 ·rw[a0h q] at e;cases e
theorem W8:aZ K Py (aU Qg):=lE (CP fun i j Hb=>by unfold Rp;rfl)
theorem Br:aZ K PB (aU pK):=lE (Hg fun i j Hb=>by unfold Rp;rfl)
theorem mV:aZ K PL (aU jh):=lE (Hg fun i j Hb=>by unfold Rp;rfl)
theorem afl:aZ K PN (aU Hf):=lE (Hg fun i j Hb=>by unfold Rp;rfl)
theorem W9:aZ K P0 (aU BX):=lE (Hg fun i j Hb=>by unfold Rp;rfl)
theorem x_lt:aZ K QG (aU kLt):=lE (CP fun i j Hb=>by unfold Rp;rfl)
theorem lF:aZ K Ye (aU jJ):=lE (CP fun i j Hb=>by unfold Rp;rfl)
theorem x_ge:aZ K QH (aU QM):=lE (CP fun i j Hb=>by unfold Rp;rfl)
theorem jP {x:D} (h:fK x=true):bG x=true∧dep x≤64:=by
 unfold fK at h;rw[a0o] at h;exact⟨h.1,b0y h.2⟩
theorem k_eq:∀x y z,kEq false x y=some z→gR K (qQ K) x y z:=fun x y z e=>by
 unfold kEq at e
 by_cases h2:(fK x&&fK y)=true
 ·rw[a0o] at h2
  have h3:((dB x&&dB y) || (fK x&&fK y))=true:=by rw[h2.1,h2.2];simp
  rw[a0g h3] at e
  cases e
  have:=afj (K:=K) (jP h2.1).1 (jP h2.2).1 (jP h2.1).2 (jP h2.2).2
  rw[Gu x y (jP h2.1).1 (jP h2.2).1] at this
  exact this
 ·by_cases h1:(dB x&&dB y)=true
  ·rw[a0g (by rw[h1];rfl)] at e
   cases e
   refine gR.inl fun Hb H v u Q ex hv hu q=>?_
   cases x<;>cases y<;>first|(simp[dB] at h1;done)|(exfalso;simp[fK,bG,dep] at h2;done)|skip
   ·cases (show v=.non from hv);cases (Rp.eG hu);exact⟨rfl,q _ fun bB=>by unfold Rp;rfl⟩
   ·cases (Rp.oG hv);cases (Rp.eG hu);exact⟨rfl,q _ fun bB=>by unfold Rp;rfl⟩
   ·cases (Rp.mX hv);cases (Rp.eG hu);exact⟨rfl,q _ fun bB=>by unfold Rp;rfl⟩
   ·cases (Rp.eG hv);cases (show u=.non from hu);exact⟨rfl,q _ fun bB=>by unfold Rp;rfl⟩
   ·cases (Rp.eG hv);cases (Rp.oG hu);exact⟨rfl,q _ fun bB=>by unfold Rp;rfl⟩
   ·cases (Rp.eG hv);cases (Rp.mX hu);exact⟨rfl,q _ fun bB=>by unfold Rp;rfl⟩
   ·cases (Rp.eG hv);cases (Rp.eG hu);exact⟨rfl,q _ fun bB=>by unfold Rp;rw[L2.dec_str];simp[cG]⟩
  ·rw[a0h (by simp only[Bool.or_eq_true];exact fun z=>z.elim h1 h2)] at e;cases e
theorem k_ne:∀x y z,kEq true x y=some z→gR K (za K) x y z:=fun x y z e=>by
 unfold kEq at e
 by_cases h2:(fK x&&fK y)=true
 ·rw[a0o] at h2
  have h3:((dB x&&dB y) || (fK x&&fK y))=true:=by rw[h2.1,h2.2];simp
  rw[a0g h3] at e
  cases e
  have:=afk (K:=K) (jP h2.1).1 (jP h2.2).1 (jP h2.1).2 (jP h2.2).2
  rw[Gu x y (jP h2.1).1 (jP h2.2).1] at this
  exact this
 ·by_cases h1:(dB x&&dB y)=true
  ·rw[a0g (by rw[h1];rfl)] at e
   cases e
   refine gR.inl fun Hb H v u Q ex hv hu q=>?_
   cases x<;>cases y<;>first|(simp[dB] at h1;done)|(exfalso;simp[fK,bG,dep] at h2;done)|skip
   ·cases (show v=.non from hv);cases (Rp.eG hu);exact⟨rfl,q _ fun bB=>by unfold Rp;rfl⟩
   ·cases (Rp.oG hv);cases (Rp.eG hu);exact⟨rfl,q _ fun bB=>by unfold Rp;rfl⟩
   ·cases (Rp.mX hv);cases (Rp.eG hu);exact⟨rfl,q _ fun bB=>by unfold Rp;rfl⟩
   ·cases (Rp.eG hv);cases (show u=.non from hu);exact⟨rfl,q _ fun bB=>by unfold Rp;rfl⟩
   ·cases (Rp.eG hv);cases (Rp.oG hu);exact⟨rfl,q _ fun bB=>by unfold Rp;rfl⟩
   ·cases (Rp.eG hv);cases (Rp.mX hu);exact⟨rfl,q _ fun bB=>by unfold Rp;rfl⟩
   ·cases (Rp.eG hv);cases (Rp.eG hu);exact⟨rfl,q _ fun bB=>by unfold Rp;rw[L2.dec_str];simp[cG]⟩
  ·rw[a0h (by simp only[Bool.or_eq_true];exact fun z=>z.elim h1 h2)] at e;cases e
theorem x_eq:aZ K (qQ K) (aU (kEq false)):=lE k_eq
theorem yO:aZ K (za K) (aU (kEq true)):=lE k_ne
end
end AL
namespace AL
open PySem L2 DL PyProof.Rows
abbrev K2:=ST→R→R→Option R
def K2.or (k l:K2):K2:=fun st x y=>(k st x y).or (l st x y)
section
variable {K:PySem.W.Frag} {r r':R2} {k l:K2}
theorem aZ.or (h:aZ K r k) (h':aZ K r l):aZ K r (k.or l):=fun A st σ H ts Hb ι x y z v u Q C hx hy e p=>by
 unfold K2.or at e
 cases q:k st x y with
 | some w=>rw[q] at e;cases e;exact h A st σ H ts Hb ι x y _ v u Q C hx hy q p
 | none=>rw[q] at e;exact h' A st σ H ts Hb ι x y z v u Q C hx hy e p
theorem aZ.inl (h:aZ K r k):aZ K (iY r r') k:=fun A st σ H ts Hb ι x y z v u Q C hx hy e p=>.inl (h A st σ H ts Hb ι x y z v u Q C hx hy e p)
theorem aZ.inr (h:aZ K r' k):aZ K (iY r r') k:=fun A st σ H ts Hb ι x y z v u Q C hx hy e p=>.inr (h A st σ H ts Hb ι x y z v u Q C hx hy e p)
end
def afm:K2:=aU (kI fun i j=>.int (i+j))
def afn:K2:=aU fun x y=>match x,y with
 | .str s,.str t=>if s.length+t.length≤16000000 then some (.str (s++t)) else none
 | _,_=>none
def afo:K2:=fun st x y=>(iG st x).bind fun xs=>(iG st y).bind fun ys=>if xs.length+ys.length≤16000000 then some (.d (.lst (xs++ys))) else none
def W_:K2:=fun _ x y=>match x,y with
 | .d (.tup xs),.d (.tup ys)=>if xs.length+ys.length≤16000000 then some (.d (.tup (xs++ys))) else none
 | _,_=>none
def jC:K2:=afm.or (afn.or (W_.or afo))
section
variable {K:PySem.W.Frag} {A:Ac} {st:ST} {σ:L2.St} {H Hb:Hp} {ts:List Tp} {ι:List Addr} {r:R} {v:V}
theorem au.one (C:au K A st σ H ts Hb ι) {r:R} {v:V} (h:Rt K σ ι Hb r v):Cf K A st σ H (rt K σ r v::ts):=⟨Hb,ι,C.temps fun q hq=>(a0c.mp hq).elim (fun e=>by rw[e];exact h) (C.tmp q)⟩
theorem au.gQ (C:au K A st σ H ts Hb ι) {x:D} {v:V} (h:Rp K Hb x v):Cf K A st σ H (rt K σ (.d x) v::ts):=C.one (r:=.d x) h
theorem au.newL (C:au K A st σ H ts Hb ι) {p:Addr} {ds:List D} {vs:List V} (hp:H p=none) (r:aq K Hb ds vs):Cf K A st σ (upd H p (.lst vs)) (rt K σ (.d (.lst ds)) (.ref p)::ts):=by
 have hb:Hb p=none:=C.bH.none hp
 refine⟨_,ι,C.laid hp fun q hq=>?_⟩
 rcases a0c.mp hq with rfl|hq
 ·show Rp K _ _ _
  unfold Rp;exact⟨p,vs,rfl,.inl a0r,aq.mono (Ex.new hb).rl _ _ r⟩
 ·exact q.m _ _ _ _ (bJ.refl _) (Ex.new hb).rl (C.tmp q hq)
theorem au.newT (C:au K A st σ H ts Hb ι) {p:Addr} {ds:List D} {vs:List V} (hp:H p=none) (r:aq K Hb ds vs):Cf K A st σ (upd H p (.tup vs)) (rt K σ (.d (.tup ds)) (.ref p)::ts):=by
 have hb:Hb p=none:=C.bH.none hp
 refine⟨_,ι,C.laid hp fun q hq=>?_⟩
 rcases a0c.mp hq with rfl|hq
 ·show Rp K _ _ _
  unfold Rp;exact⟨p,vs,rfl,.inl (.inl a0r),aq.mono (Ex.new hb).rl _ _ r⟩
 ·exact q.m _ _ _ _ (bJ.refl _) (Ex.new hb).rl (C.tmp q hq)
theorem ite_some {α:Type} {c:Prop} [Decidable c] {a b:α} (h:(if c then some a else none)=some b):c∧a=b:=by
 by_cases q:c
 ·rw[a0g q] at h;exact⟨q,a0z h⟩
 ·rw[a0h q] at h;cases h
theorem mW:aZ K (G9 K) jC:=by
 refine aZ.or (aZ.inl (lE (CP fun i j Hb=>by unfold Rp;rfl))) (aZ.or (aZ.inr (aZ.inl (lE fun x y z e Hb H v u Q ex hv hu q=>?_))) (aZ.or (aZ.inr (aZ.inr (aZ.inr ?_))) (aZ.inr (aZ.inr (aZ.inl ?_)))))
 ·cases x<;>first|cases e;done|skip
  cases y<;>first|cases e;done|skip
  obtain⟨hl,rfl⟩:=ite_some e
  exact⟨_,_,hv,hu,by rw[a0E];omega,q _ fun _=>by unfold Rp;rfl⟩
 ·intro A st σ H ts Hb ι x y z v u Q C hx hy e p
  unfold W_ at e
  cases x with
  | d x=>
   cases x<;>first|cases e;done|skip
   cases y with
   | d y=>
    cases y<;>first|cases e;done|skip
    rename_i xs ys
    obtain⟨hl,rfl⟩:=ite_some e
    have hx:Rp K Hb (.tup xs) v:=hx
    have hy:Rp K Hb (.tup ys) u:=hy
    have hx':=hx
    have hy':=hy
    unfold Rp at hx hy
    obtain⟨a,vs,rfl,s1,r1⟩:=hx
    obtain⟨b,us,rfl,s2,r2⟩:=hy
    refine⟨a,b,vs,us,rfl,rfl,C.bH.rl.t s1,C.bH.rl.t s2,by rw[← r1.len,← r2.len,a0E];omega,fun e=>p _ _ (C.gQ ?_),fun _ e=>p _ _ (C.gQ ?_),fun _ _ q hq=>p _ _ (C.newT hq (r1.app r2))⟩
    ·have:xs=[]:=List.eq_nil_of_length_eq_zero (by rw[r1.len,e];rfl)
     rw[this];exact hy'
    ·have:ys=[]:=List.eq_nil_of_length_eq_zero (by rw[r2.len,e];rfl)
     rw[this,a0O];exact hx'
   | o n=>cases e
   | w i=>cases e
  | o n=>cases e
  | w i=>cases e
 ·intro A st σ H ts Hb ι x y z v u Q C hx hy e p
  obtain⟨xs,h1,e⟩:=a0a.mp e
  obtain⟨ys,h2,e⟩:=a0a.mp e
  obtain⟨hl,rfl⟩:=ite_some e
  obtain⟨a,vs,rfl,s1,r1⟩:=C.iG hx h1
  obtain⟨b,us,rfl,s2,r2⟩:=C.iG hy h2
  exact⟨a,b,vs,us,rfl,rfl,s1,s2,by rw[← r1.len,← r2.len,a0E];omega,fun q hq=>p _ _ (C.newL hq (r1.app r2))⟩
end
def keyD:D→Option Key
 | .int i=>some (.inl i)
 | .str s=>some (.inr s)
 | _=>none
def vH:K2:=fun _ x y=>match x,y with
 | .d (.tup ds),.d (.int i)=>(atI ds i).map .d
 | .d (.str s),.d (.int i)=>if s.length≤16000000 then(atI s.cps.toList i).map fun c=>.d (.str ⟨#[c]⟩) else none
 | .d (.dG ns),.d (.int i)=>(atI ns i).map fun n=>.d (.int n)
 | _,_=>none
def vI:K2:=fun st x y=>match y with
 | .d (.int i)=>(iG st x).bind fun ds=>(atI ds i).map .d
 | _=>none
def vJ:K2:=fun st x y=>match y with
 | .d y=>(jm st x).bind fun p=>(keyD y).bind fun k=>(dget p.1 p.2 k).map .d
 | _=>none
def bW (st:ST) (x:R):Option (List R):=match bF st x with
 | some (.bW xs)=>some xs
 | _=>none
def cQ (st:ST) (x:R):Option (List Key×List R):=match bF st x with
 | some (.cQ ks xs)=>some (ks,xs)
 | some (.lO ks xs)=>some (ks,xs)
 | _=>none
def BZ:K2:=fun st x y=>match y with
 | .d (.int i)=>(bW st x).bind fun xs=>atI xs i
 | _=>none
def B_ (ks:List Key) (xs:List R) (k:Key):Option R:=((ks.zip xs).find? fun kv=>decide (kv.1=k)).map (·.2)
def Ca:K2:=fun st x y=>match y with
 | .d y=>(cQ st x).bind fun p=>(keyD y).bind fun k=>B_ p.1 p.2 k
 | _=>none
def bY:K2:=vH.or (vI.or (vJ.or (BZ.or Ca)))
section
variable {K:PySem.W.Frag} {A:Ac} {st:ST} {σ:L2.St} {H Hb:Hp} {ts:List Tp} {ι:List Addr} {r:R} {v:V}
theorem ql {y:D} {k:Key} (h:keyD y=some k):y=kD k:=by cases y<;>first|cases h;done|(cases h;rfl)
theorem bA.get {xs:List R} {vs:List V}:∀{n:Nat} {x:R},bA K ι Hb xs vs→xs[n]?=some x→∃v,vs[n]?=some v∧RV K ι Hb x v:=fun {n x} r e=>by
 induction r generalizing n with
 | nil=>simp at e
 | cons a b ih=>
  cases n with
  | zero=>simp at e;subst e;exact⟨_,rfl,a⟩
  | succ n=>obtain⟨v,h1,h2⟩:=ih (n:=n) (by simpa using e);exact⟨v,by simpa using h1,h2⟩
theorem bA.atI {xs:List R} {vs:List V} {i:Int} {x:R} (r:bA K ι Hb xs vs) (h:L2.atI xs i=some x):∃v,L2.atI vs i=some v∧RV K ι Hb x v:=by
 unfold L2.atI at h ⊢
 have hl:xs.length=vs.length:=Paired.length r
 rw[← hl]
 cases q:ixN xs.length i with
 | none=>rw[q] at h;cases h
 | some j=>
  rw[q,a0i] at h
  rw[a0i]
  exact r.get h
theorem Vs {k:Key}:∀{ks:List Key} {xs:List R} {vs:List V} {x:R},ks.length=vs.length→bA K ι Hb xs vs→B_ ks xs k=some x→∃v,valV (ks.zip vs) k=some v∧RV K ι Hb x v
 | [],xs,vs,x,_,_,h=>by simp[B_] at h
 | q::ks,[],vs,x,hl,r,h=>by simp[B_] at h
 | q::ks,e::ds,vs,x,hl,r,h=>by
  cases r with
  | cons rv rt=>
   have ih:=Vs (k:=k) (ks:=ks) (x:=x) (by simpa using hl) rt
   unfold B_ at h ih
   unfold valV at ih ⊢
   simp only[a0w,a0B] at h ⊢
   by_cases z:q=k
   ·simp only[z,decide_true,b0h] at h ⊢
    cases h
    exact⟨_,rfl,rv⟩
   ·simp only[z,b0q] at h ⊢
    exact ih h
theorem au.bW (C:au K A st σ H ts Hb ι) {xs:List R} (hr:Rt K σ ι Hb r v) (h:bW st r=some xs):∃a vs,v=.ref a∧H a=some (.lst vs)∧bA K ι Hb xs vs:=by
 unfold AL.bW at h
 cases q:bF st r with
 | none=>rw[q] at h;cases h
 | some b=>
  rw[q] at h
  cases b<;>first|cases h;done|skip
  cases h
  obtain⟨a,u,rfl,h1,⟨vs,rfl,q⟩,_⟩:=C.at hr q
  exact⟨a,vs,rfl,h1,q⟩
theorem au.cQ (C:au K A st σ H ts Hb ι) {p:List Key×List R} (hr:Rt K σ ι Hb r v) (h:cQ st r=some p):∃a vs,v=.ref a∧Rd H a (.dK (p.1.zip vs))∧p.1.length=vs.length∧bA K ι Hb p.2 vs:=by
 unfold AL.cQ at h
 cases q:bF st r with
 | none=>rw[q] at h;cases h
 | some b=>
  rw[q] at h
  cases b<;>first|cases h;done|skip
  all_goals cases h
  ·obtain⟨a,u,rfl,h1,⟨vs,rfl,l,q⟩,_⟩:=C.at hr q
   exact⟨a,vs,rfl,.inl h1,l,q⟩
  ·obtain⟨a,u,rfl,h1,⟨od,vs,rfl,l,q⟩,_⟩:=C.at hr q
   exact⟨a,vs,rfl,.inr ⟨od,h1⟩,l,q⟩
theorem Vt {α β:Type} (f:α→β) (l:List α) (i:Int):atI (l.map f) i=(atI l i).map f:=by
 unfold atI
 rw[a0C]
 cases ixN l.length i with
 | none=>rfl
 | some j=>simp
theorem fY:aZ K (HS K) bY:=by
 refine aZ.or ?_ (aZ.or (aZ.inl ?_) (aZ.or (aZ.inr (aZ.inr (aZ.inr ?_))) (aZ.or (aZ.inl ?_) (aZ.inr (aZ.inr (aZ.inr ?_))))))
 ·intro A st σ H ts Hb ι x y z v u Q C hx hy e p
  unfold vH at e
  cases x with
  | d x=>
   cases y with
   | d y=>
    cases x<;>cases y<;>first|cases e;done|skip
    ·rename_i s i
     have e:(if s.length≤16000000 then(atI s.cps.toList i).map fun c=>R.d (.str ⟨#[c]⟩) else none)=some z:=e
     by_cases hl:s.length≤16000000
     ·rw[a0g hl] at e
      obtain⟨c,hc,rfl⟩:=a0b.mp e
      exact .inr (.inr (.inl ⟨s,i,c,hx,hy,by rw[a0E];omega,hc,p _ _ (C.gQ (by unfold Rp;rfl))⟩))
     ·rw[a0h hl] at e;cases e
    ·rename_i ds i
     obtain⟨c,hc,rfl⟩:=a0b.mp e
     have hx:Rp K Hb (.tup ds) v:=hx
     unfold Rp at hx
     obtain⟨a,vs,rfl,s,r⟩:=hx
     obtain⟨w,hw,rw'⟩:=Vm r hc
     exact .inr (.inl ⟨a,vs,i,w,rfl,hy,C.bH.rl.t s,hw,p _ _ (C.gQ rw')⟩)
    ·rename_i ns i
     obtain⟨c,hc,rfl⟩:=a0b.mp e
     have hx:Rp K Hb (.dG ns) v:=hx
     unfold Rp at hx
     obtain⟨a,rfl,s⟩:=hx
     exact .inl ⟨a,_,i,.int c,rfl,hy,C.bH.rl.l s,by rw[Vt,hc];rfl,p _ _ (C.gQ (by unfold Rp;rfl))⟩
   | o n=>cases x<;>cases e
   | w i=>cases x<;>cases e
  | o n=>cases e
  | w i=>cases e
 ·intro A st σ H ts Hb ι x y z v u Q C hx hy e p
  unfold vI at e
  cases y with
  | d y=>
   cases y<;>first|cases e;done|skip
   rename_i i
   obtain⟨ds,h1,e⟩:=a0a.mp e
   obtain⟨c,hc,rfl⟩:=a0b.mp e
   obtain⟨a,vs,rfl,s,r⟩:=C.iG hx h1
   obtain⟨w,hw,rw'⟩:=Vm r hc
   exact⟨a,vs,i,w,rfl,hy,.inl s,hw,p _ _ (C.gQ rw')⟩
  | o n=>cases e
  | w i=>cases e
 ·intro A st σ H ts Hb ι x y z v u Q C hx hy e p
  unfold vJ at e
  cases y with
  | d y=>
   obtain⟨q,h1,e⟩:=a0a.mp e
   obtain⟨k,h2,e⟩:=a0a.mp e
   obtain⟨c,hc,rfl⟩:=a0b.mp e
   obtain⟨a,vs,rfl,s,l,r⟩:=C.jm hx h1
   obtain⟨w,hw,rw'⟩:=(Vn (k:=k) l r).1 c hc
   have hy:Rp K Hb y u:=hy
   rw[ql h2] at hy
   exact⟨a,w,rfl,.inl ⟨_,k,s,tK hy,hw.symm⟩,p _ _ (C.gQ rw')⟩
  | o n=>cases e
  | w i=>cases e
 ·intro A st σ H ts Hb ι x y z v u Q C hx hy e p
  unfold BZ at e
  cases y with
  | d y=>
   cases y<;>first|cases e;done|skip
   rename_i i
   obtain⟨ds,h1,hc⟩:=a0a.mp e
   obtain⟨a,vs,rfl,s,r⟩:=C.bW hx h1
   obtain⟨w,hw,rw'⟩:=r.atI hc
   exact⟨a,vs,i,w,rfl,hy,.inl (.inl s),hw,p _ _ (C.one (yG rw'))⟩
  | o n=>cases e
  | w i=>cases e
 ·intro A st σ H ts Hb ι x y z v u Q C hx hy e p
  unfold Ca at e
  cases y with
  | d y=>
   obtain⟨q,h1,e⟩:=a0a.mp e
   obtain⟨k,h2,hc⟩:=a0a.mp e
   obtain⟨a,vs,rfl,s,l,r⟩:=C.cQ hx h1
   obtain⟨w,hw,rw'⟩:=Vs (k:=k) l r hc
   have hy:Rp K Hb y u:=hy
   rw[ql h2] at hy
   exact⟨a,w,rfl,.inl ⟨_,k,s,tK hy,hw.symm⟩,p _ _ (C.one (yG rw'))⟩
  | o n=>cases e
  | w i=>cases e
end
def lG (st:ST):R→Option (List D)
 | .d (.tup ds)=>some ds
 | r=>iG st r
def Hh (neg:Bool):K2:=fun st x y=>(snap st x).bind fun a=>(lG st y).bind fun ds=>if dB a&&ds.all dB then some (.d (.bl (if neg then !ds.any (fun z=>cG z a) else ds.any (fun z=>cG z a)))) else none
def Xw (neg:Bool):K2:=fun st x y=>(snap st x).bind fun a=>(snap st y).bind fun b=>match b with
 | .lst ds=>if fK a&&fK (.lst ds) then some (.d (.bl (if neg then !ds.any (fun z=>cG z a) else ds.any (fun z=>cG z a)))) else none
 | _=>none
def Cd (neg:Bool):K2:=fun st x y=>match x with
 | .d a=>(keyD a).bind fun k=>(jm st y).bind fun p=>some (.d (.bl (if neg then !decide (k∈p.1) else decide (k∈p.1))))
 | _=>none
def Qh (neg:Bool):K2:=fun st x y=>match x with
 | .d a=>(keyD a).bind fun k=>(cQ st y).bind fun p=>some (.d (.bl (if neg then !decide (k∈p.1) else decide (k∈p.1))))
 | _=>none
def Qi (s:Str):Option Nat:=match s.cps.toList with
 | [c]=>some c
 | _=>none
def Ce (neg:Bool):K2:=aU fun x y=>match x,y with
 | .str s,.str t=>(Qi s).map fun c=>.bl (if neg then !decide (c∈t.cps.toList) else decide (c∈t.cps.toList))
 | _,_=>none
def kIn (neg:Bool):K2:=(Ce neg).or ((Hh neg).or ((Cd neg).or ((Xw neg).or (Qh neg))))
section
variable {K:PySem.W.Frag} {A:Ac} {st:ST} {σ:L2.St} {H Hb:Hp} {ts:List Tp} {ι:List Addr} {r:R} {v:V}
theorem Vu {x:D} {v:V} (h:dB x=true) (hr:Rp K Hb x v):flatV v=true:=by
 cases x<;>first|(simp[dB] at h;done)|skip
 ·cases (show v=.non from hr);rfl
 ·cases (Rp.oG hr);rfl
 ·cases (Rp.mX hr);rfl
 ·cases (Rp.eG hr);rfl
theorem adV {x y:D} {v u:V} (hx:dB x=true) (hy:dB y=true) (rx:Rp K Hb x v) (ry:Rp K H y u):L2.eqV v u=cG x y:=by
 cases x<;>first|(simp[dB] at hx;done)|skip
 all_goals
  cases y<;>first|(simp[dB] at hy;done)|skip
 all_goals
  first
  | (cases (show v=.non from rx))
  | (cases (Rp.oG rx))
  | (cases (Rp.mX rx))
  | (cases (Rp.eG rx))
 all_goals
  first
  | (cases (show u=.non from ry))
  | (cases (Rp.oG ry))
  | (cases (Rp.mX ry))
  | (cases (Rp.eG ry))
 all_goals rfl
theorem UW:∀{ds:List D} {vs:List V},ds.all dB=true→aq K Hb ds vs→vs.all flatV=true
 | [],vs,_,r=>by rw[aq.qI r];rfl
 | d::ds,vs,h,r=>by
  obtain⟨v,t,rfl,p,q⟩:=aq.qG r
  rw[a0S,a0o] at h
  rw[a0S,Vu h.1 p,UW h.2 q];rfl
theorem U0 {x:D} {u:V} (hx:dB x=true) (rx:Rp K H x u):∀{ds:List D} {vs:List V},ds.all dB=true→aq K Hb ds vs→L2.inV u vs=ds.any (fun z=>cG z x)
 | [],vs,_,r=>by rw[aq.qI r];rfl
 | d::ds,vs,h,r=>by
  obtain⟨v,t,rfl,p,q⟩:=aq.qG r
  rw[a0S,a0o] at h
  have ih:=U0 hx rx h.2 q
  unfold L2.inV at ih ⊢
  rw[b0D,b0D,ih,adV h.1 hx p rx]
theorem Ny {x:D} (hx:bG x=true):∀{ds:List D},g_ ds=true→((d_ ds).any fun z=>PyData.eqv z (toPy x))=ds.any (fun z=>cG z x)
 | [],_=>by unfold d_;rfl
 | d::ds,h=>by
  simp only[g_,a0o] at h
  simp only[d_,b0D]
  rw[Gu d x h.1 hx,Ny hx h.2]
theorem au.lG (C:au K A st σ H ts Hb ι) {ds:List D} (hr:Rt K σ ι Hb r v) (h:lG st r=some ds):∃a vs,v=.ref a∧(SqL K H a vs∨SqT K H a vs)∧aq K Hb ds vs:=by
 have key:AL.iG st r=some ds→∃a vs,v=.ref a∧(SqL K H a vs∨SqT K H a vs)∧aq K Hb ds vs:=fun h=>by
  obtain⟨a,vs,e,s,q⟩:=C.iG hr h
  exact⟨a,vs,e,.inl (.inl s),q⟩
 cases r with
 | d x=>
  cases x<;>first|exact key h|skip
  cases h
  have hr:Rp K Hb (.tup ds) v:=hr
  unfold Rp at hr
  obtain⟨a,vs,rfl,s,q⟩:=hr
  exact⟨a,vs,rfl,.inr (C.bH.rl.t s),q⟩
 | o n=>exact key h
 | w i=>exact key h
theorem Vv {ks:List Key} {vs:List V} {k:Key} (hl:ks.length=vs.length):(valV (ks.zip vs) k).isSome=decide (k∈ks):=by
 induction ks generalizing vs with
 | nil=>simp[valV]
 | cons q ks ih=>
  cases vs with
  | nil=>simp at hl
  | cons w vs=>
   have ih:=ih (vs:=vs) (by simpa using hl)
   unfold valV at ih ⊢
   simp only[a0w,a0B,a0c]
   by_cases z:q=k
   ·simp[z]
   ·have z':¬k=q:=fun e=>z e.symm
    simp only[z,b0q,z',false_or]
    exact ih
theorem afp {neg:Bool}:aZ K (rSIn neg) (Ce neg):=lE fun x y z e Hb H v u Q ex hv hu q=>by
 cases x<;>first|cases e;done|skip
 cases y<;>first|cases e;done|skip
 rename_i s t
 obtain⟨c,hc,rfl⟩:=a0b.mp e
 have es:s=⟨#[c]⟩:=by
  unfold Qi at hc
  obtain⟨⟨l⟩⟩:=s
  match l,hc with
  | [c'],hc=>cases hc;rfl
 subst es
 exact⟨c,t,hv,hu,q _ fun _=>by unfold Rp;rfl⟩
theorem afq {neg:Bool}:aZ K (rIn K neg) (Hh neg):=fun A st σ H ts Hb ι x y z v u Q C hx hy e p=>by
 obtain⟨a,h1,e⟩:=a0a.mp e
 obtain⟨ds,h2,e⟩:=a0a.mp e
 obtain⟨hc,rfl⟩:=ite_some e
 rw[a0o] at hc
 have hv:=C.snap hx h1
 obtain⟨q,vs,rfl,s,r⟩:=C.lG hy h2
 refine⟨q,vs,rfl,s,Vu hc.1 hv,UW hc.2 r,p _ _ (C.gQ ?_)⟩
 unfold Rp;rw[U0 hc.1 hv hc.2 r]
theorem afr {neg:Bool}:aZ K (G_ neg) (Cd neg):=fun A st σ H ts Hb ι x y z v u Q C hx hy e p=>by
 unfold Cd at e
 cases x with
 | d a=>
  obtain⟨k,h1,e⟩:=a0a.mp e
  obtain⟨q,h2,e⟩:=a0a.mp e
  cases e
  obtain⟨a',vs,rfl,s,l,r⟩:=C.jm hy h2
  have hx:Rp K Hb a v:=hx
  rw[ql h1] at hx
  refine⟨a',valV (q.1.zip vs) k,rfl,.inl ⟨_,k,s,tK hx,rfl⟩,p _ _ (C.gQ ?_)⟩
  rw[Vv l]
  unfold Rp;rfl
 | o n=>cases e
 | w i=>cases e
theorem afs {neg:Bool}:aZ K (G_ neg) (Qh neg):=fun A st σ H ts Hb ι x y z v u Q C hx hy e p=>by
 unfold Qh at e
 cases x with
 | d a=>
  obtain⟨k,h1,e⟩:=a0a.mp e
  obtain⟨q,h2,e⟩:=a0a.mp e
  cases e
  obtain⟨a',vs,rfl,s,l,r⟩:=C.cQ hy h2
  have hx:Rp K Hb a v:=hx
  rw[ql h1] at hx
  refine⟨a',valV (q.1.zip vs) k,rfl,.inl ⟨_,k,s,tK hx,rfl⟩,p _ _ (C.gQ ?_)⟩
  rw[Vv l]
  unfold Rp;rfl
 | o n=>cases e
 | w i=>cases e
theorem aft {neg:Bool}:aZ K (WM K neg) (Xw neg):=fun A st σ H ts Hb ι x y z v u Q C hx hy e p=>by
 obtain⟨a,h1,e⟩:=a0a.mp e
 obtain⟨b,h2,e⟩:=a0a.mp e
 cases b<;>first|cases e;done|skip
 rename_i ds
 obtain⟨hc,rfl⟩:=ite_some e
 rw[a0o] at hc
 have ha:=jP hc.1
 have hb:=jP hc.2
 have d1:=vg a v ha.1 (C.snap hx h1)
 have d2:=vg (.lst ds) u hb.1 (C.snap hy h2)
 have e2:toPy (.lst ds)=.list (d_ ds):=by simp only[toPy]
 have s2:=uQ hb.1 hb.2
 rw[e2] at d2 s2
 have hb':g_ ds=true:=by have:=hb.1;simp only[bG] at this;exact this
 cases neg with
 | false=>
  refine⟨toPy a,d_ ds,d1,d2,uQ ha.1 ha.2,s2,p _ _ (C.gQ ?_)⟩
  unfold Rp;rw[Ny ha.1 hb'];rfl
 | true=>
  refine⟨toPy a,d_ ds,d1,d2,uQ ha.1 ha.2,s2,p _ _ (C.gQ ?_)⟩
  unfold Rp;rw[Ny ha.1 hb'];rfl
theorem Xx {neg:Bool}:aZ K (HJ K neg) (kIn neg):=
 aZ.or (aZ.inr (aZ.inr (aZ.inl afp))) (aZ.or (aZ.inl afq) (aZ.or (aZ.inr (aZ.inl afr)) (aZ.or (aZ.inr (aZ.inr (aZ.inr aft))) (aZ.inr (aZ.inl afs)))))
end
def Xy:R→Option Bool
 | .d (.bl b)=>some b
 | _=>none
def tF (f:M R):M Bool:=f.of fun _ r=>Xy r
def vY (st:ST):R→Option Bool
 | .d .non=>some false
 | .d (.bl b)=>some b
 | .d (.int i)=>some (i != 0)
 | .d (.str s)=>if s.length≤16000000 then some ((s.length:Int) != 0) else none
 | r=>(lG st r).map fun ds=>!ds.isEmpty
def tR (f:M R):M Bool:=f.of vY
def kE (f g:M Bool):M Bool:=f.bind fun b=>if b then M.ret true else g
def fM (f:M Bool):M Bool:=f.bind fun b=>M.ret (!b)
def CQ (f g:M R):M R:=(tF f).bind fun b=>if b then g else M.ret (.d (.bl false))
def H_ (f:M R):M R:=(tF f).bind fun b=>M.ret (.d (.bl (!b)))
def m7 (k l:K2) (f g h:M R):M R:=f.bind fun x=>g.bind fun y=>fun st=>match k st x y with
 | some (.d (.bl true))=>(h.bind fun w st'=>(l st' y w).map fun z=>.ok z st') st
 | some (.d (.bl false))=>some (.ok (.d (.bl false)) st)
 | _=>none
section
variable {K:PySem.W.Frag} {W:WX} {te ta tb tc:TE} {tt tu:TT} {f g h:M R} {t u:M Bool}
theorem adW {σ:L2.St} {ι:List Addr} {Hb:Hp} {r:R} {b:Bool} {v:V} (h:Xy r=some b) (hr:Rt K σ ι Hb r v):v=.bl b:=by
 cases r with
 | d x=>cases x<;>first|cases h;done|(cases h;exact hr)
 | o n=>cases h
 | w i=>cases h
theorem cW (hf:XE K W te f):XT K W (tTest te) (tF f):=fun A st σ H ts C Q y hy p=>by
 rcases lg hy with ⟨r,s1,b,h1,h2,rfl⟩|⟨x,s1,h1,rfl⟩
 ·refine hf A st σ H ts C _ _ h1 fun v H1 ⟨Hb,ι,C1⟩=>⟨b,adW h2 (C1.tmp (rt K σ r v) (by simp)),p H1 ⟨Hb,ι,C1.temps fun q hq=>C1.tmp q (by simp[hq])⟩⟩
 ·exact hf A st σ H ts C _ _ h1 p
theorem au.vY {A:Ac} {st:ST} {σ:L2.St} {H Hb:Hp} {ts:List Tp} {ι:List Addr} {r:R} {v:V} {b:Bool} (C:au K A st σ H ts Hb ι) (hr:Rt K σ ι Hb r v) (h:vY st r=some b):TruV K v H b:=by
 have key:(AL.lG st r).map (fun ds=>!ds.isEmpty)=some b→TruV K v H b:=fun h=>by
  obtain⟨ds,hd,rfl⟩:=a0b.mp h
  obtain⟨a,vs,rfl,s,q⟩:=C.lG hr hd
  have e:(!ds.isEmpty)=!vs.isEmpty:=by
   have:=q.len
   cases ds<;>cases vs<;>first|rfl|(simp at this)
  rw[e]
  rcases s with s|s
  ·exact .inl ⟨vs,s,rfl⟩
  ·exact .inr (.inl ⟨vs,s,rfl⟩)
 cases r with
 | d x=>
  cases x<;>first|exact key h|skip
  ·cases h;cases (show v=.non from hr);rfl
  ·cases h;cases (Rp.oG (K:=K) (H:=Hb) hr);rfl
  ·cases h;cases (Rp.mX (K:=K) (H:=Hb) hr);rfl
  ·obtain⟨hl,rfl⟩:=ite_some h
   cases (Rp.eG (K:=K) (H:=Hb) hr)
   exact⟨by rw[a0E];omega,rfl⟩
 | o n=>exact key h
 | w i=>exact key h
theorem nM (hf:XE K W te f):XT K W (tTru K te) (tR f):=fun A st σ H ts C Q y hy p=>by
 rcases lg hy with ⟨r,s1,b,h1,h2,rfl⟩|⟨x,s1,h1,rfl⟩
 ·refine hf A st σ H ts C _ _ h1 fun v H1 ⟨Hb,ι,C1⟩=>⟨b,C1.vY (C1.tmp (rt K σ r v) (by simp)) h2,p H1 ⟨Hb,ι,C1.temps fun q hq=>C1.tmp q (by simp[hq])⟩⟩
 ·exact hf A st σ H ts C _ _ h1 p
theorem vh (ht:XT K W tt t) (hu:XT K W tu u):XT K W (tOr tt tu) (kE t u):=fun A st σ H ts C Q y hy p=>by
 rcases dI hy with ⟨b,s1,h1,h2⟩|⟨x,s1,h1,rfl⟩
 ·refine ht A st σ H ts C _ _ h1 fun H1 C1=>?_
  cases b with
  | true=>rw[a0g rfl] at h2 ⊢;cases h2;exact p H1 C1
  | false=>rw[a0h a0V] at h2 ⊢;exact hu A s1 σ H1 ts C1 Q _ h2 p
 ·exact ht A st σ H ts C _ _ h1 p
theorem g8 (ht:XT K W tt t):XT K W (tNot tt) (fM t):=fun A st σ H ts C Q y hy p=>by
 rcases dI hy with ⟨b,s1,h1,h2⟩|⟨x,s1,h1,rfl⟩
 ·cases h2
  exact ht A st σ H ts C _ _ h1 fun H1 C1=>p H1 C1
 ·exact ht A st σ H ts C _ _ h1 p
theorem sU:XT K W tYes (M.ret true):=fun A st σ H ts C Q y hy p=>by cases hy;exact p H C
theorem Cf.bl {A:Ac} {st:ST} {σ:L2.St} {H:Hp} {ts:List Tp} {b:Bool} (C:Cf K A st σ H ts):Cf K A st σ H (rt K σ (.d (.bl b)) (.bl b)::ts):=C.temps fun q hq=>(a0c.mp hq).elim (fun e=>.inr fun ι Hb=>by rw[e];show Rp K Hb _ _;unfold Rp;rfl) .inl
theorem adX (hf:XE K W ta f) (hg:XE K W tb g):XE K W (tAndV ta tb) (CQ f g):=fun A st σ H ts C Q y hy p=>by
 rcases dI hy with ⟨b,s1,h1,h2⟩|⟨x,s1,h1,rfl⟩
 ·refine cW hf A st σ H ts C (fun b H1=>if b=true then tb σ H1 Q else Q (.bl false) H1) _ h1 fun H1 C1=>?_
  cases b with
  | true=>rw[a0g rfl] at h2 ⊢;exact hg A s1 σ H1 ts C1 Q _ h2 p
  | false=>rw[a0h a0V] at h2 ⊢;cases h2;exact p _ H1 C1.bl
 ·exact cW hf A st σ H ts C (fun b H1=>if b=true then tb σ H1 Q else Q (.bl false) H1) _ h1 p
theorem adY (hf:XE K W ta f):XE K W (tNotV ta) (H_ f):=fun A st σ H ts C Q y hy p=>by
 rcases dI hy with ⟨b,s1,h1,h2⟩|⟨x,s1,h1,rfl⟩
 ·cases h2
  exact cW hf A st σ H ts C (fun b H1=>Q (.bl (!b)) H1) _ h1 fun H1 C1=>p _ H1 C1.bl
 ·exact cW hf A st σ H ts C (fun b H1=>Q (.bl (!b)) H1) _ h1 p
theorem sJ {r r':R2} {k l:K2} (hk:aZ K r k) (hl:aZ K r' l) (hf:XE K W ta f) (hg:XE K W tb g) (hh:XE K W tc h):XE K W (tChain r r' ta tb tc) (m7 k l f g h):=fun A st σ H ts C Q y hy p=>by
 rcases dI hy with ⟨x,s1,h1,h2⟩|⟨x,s1,h1,rfl⟩
 ·refine hf A st σ H ts C _ _ h1 fun v H1 C1=>?_
  rcases dI h2 with ⟨z,s2,h3,h4⟩|⟨x,s2,h3,rfl⟩
  ·refine hg A s1 σ H1 _ C1 _ _ h3 fun u H2 C2=>?_
   obtain⟨Hb,ι,C2⟩:=C2
   have go:∀b,k s2 x z=some (.d (.bl b))→(∀H3,Cf K A s2 σ H3 (rt K σ z u::ts)→if b=true then tc σ H3 fun w' H4=>r' u w' H4 Q else Q (.bl false) H3)→
     r v u H2 fun z H3=>∃k,z=.bl k∧(if k=true then tc σ H3 fun w' H4=>r' u w' H4 Q else Q (.bl false) H3):=fun b e q=>
    hk A s2 σ H2 (rt K σ z u::ts) Hb ι x z _ v u _ (C2.temps fun q hq=>C2.tmp q (by rcases a0c.mp hq with h|h<;>simp[h])) (C2.tmp (rt K σ x v) (by simp)) (C2.tmp (rt K σ z u) (by simp)) e fun w H3 C3=>by
     obtain⟨iZ,jo,C3⟩:=C3
     have:w=.bl b:=C3.tmp (rt K σ (.d (.bl b)) w) (by simp)
     exact⟨b,this,q H3 ⟨iZ,jo,C3.temps fun q hq=>C3.tmp q (by simp[hq])⟩⟩
   cases e:k s2 x z with
   | none=>rw[e] at h4;cases h4
   | some w=>
    rw[e] at h4
    cases w with
    | o n=>cases h4
    | w i=>cases h4
    | d dd=>
     cases dd<;>first|cases h4;done|skip
     rename_i b
     cases b with
     | false=>
      cases h4
      refine go false e fun H3 C3=>?_
      rw[a0h a0V]
      exact p _ H3 C3.drop.bl
     | true=>
      refine go true e fun H3 C3=>?_
      rw[a0g rfl]
      rcases dI (show (h.bind fun w st'=>(l st' z w).map fun z=>Rx.ok z st') s2=some y from h4) with ⟨w,s3,h5,h6⟩|⟨x,s3,h5,rfl⟩
      ·refine hh A s2 σ H3 _ C3 _ _ h5 fun w' H4 C4=>?_
       obtain⟨Hb4,ι4,C4⟩:=C4
       cases e2:l s3 z w with
       | none=>rw[e2] at h6;cases h6
       | some o=>
        rw[e2] at h6;cases h6
        exact hl A s3 σ H4 ts Hb4 ι4 z w o u w' Q (C4.temps fun q hq=>C4.tmp q (by simp[hq])) (C4.tmp (rt K σ z u) (by simp)) (C4.tmp (rt K σ w w') (by simp)) e2 p
      ·exact hh A s2 σ H3 _ C3 _ _ h5 fun cls d H4 X=>p cls d H4 X.drop
  ·exact hg A s1 σ H1 _ C1 _ _ h3 fun cls d H2 X=>p cls d H2 X.drop
 ·exact hf A st σ H ts C _ _ h1 p
def Hi (f:M R):M R:=f.of fun _ r=>match r with
 | .d (.int i)=>some (.d (.int (-i)))
 | _=>none
theorem Xa (hf:XE K W ta f):XE K W (tUn (rU fun i=>.int (-i)) ta) (Hi f):=fun A st σ H ts C Q y hy p=>by
 rcases lg hy with ⟨r,s1,b,h1,h2,rfl⟩|⟨x,s1,h1,rfl⟩
 ·cases r with
  | o n=>cases h2
  | w i=>cases h2
  | d x=>
   cases x<;>first|cases h2;done|skip
   rename_i i
   cases h2
   refine hf A st σ H ts C _ _ h1 fun v H1 C1=>?_
   obtain⟨Hb,ι,C1⟩:=C1
   exact⟨i,C1.tmp (rt K σ (.d (.int i)) v) (by simp),p _ H1 ((C1.temps fun q hq=>C1.tmp q (by simp[hq])).gQ (by unfold Rp;rfl))⟩
 ·exact hf A st σ H ts C _ _ h1 p
end
def dX:R→Bool
 | .w _=>false
 | _=>true
def Hj (rs:List R):Option Ob:=match cZ rs with
 | some ds=>some (.lst ds)
 | none=>if rs.all dX then some (.bW rs) else none
def j8 (f:M (List R)):M R:=f.of fun _ rs=>(cZ rs).bind fun ds=>if ds.length≤16000000 then some (.d (.tup ds)) else none
def iy (f:M (List R)):M Ob:=f.of fun _ rs=>if rs.length≤16000000 then Hj rs else none
def dh (f:M Ob):M R:=f.of fun _ b=>(d8 b).map .d
def Ib (f:M Ob):M R:=f.bind fun b st=>some (.ok (.o st.h.length) ⟨st.s,st.h++[b]⟩)
section
variable {K:PySem.W.Frag} {W:WX} {A:Ac} {st:ST} {σ:L2.St} {H Hb:Hp} {ts:List Tp} {ι:List Addr} {te ta tb:TE} {tar:TA} {f g:M R} {fa:M (List R)} {n:M Ob}
theorem N6:∀{rs:List R} {ds:List D} {vs:List V},cZ rs=some ds→Paired (fun r v=>Rt K σ ι Hb r v) rs vs→aq K Hb ds vs
 | [],ds,vs,h,r=>by cases h;cases r;exact aq.nil
 | .d x::rs,ds,vs,h,r=>by
  unfold cZ at h
  cases q:cZ rs with
  | none=>rw[q] at h;cases h
  | some es=>
   rw[q] at h;cases h
   cases r with
   | cons a b=>exact aq.cons a (N6 q b)
 | .o _::_,ds,vs,h,r=>by cases h
 | .w _::_,ds,vs,h,r=>by cases h
theorem Ge:∀{rs:List R} {vs:List V},rs.all dX=true→Paired (fun r v=>Rt K σ ι Hb r v) rs vs→bA K ι Hb rs vs
 | [],vs,h,r=>by cases r;exact .nil
 | x::rs,vs,h,r=>by
  cases r with
  | cons a b=>
   rw[a0S,a0o] at h
   refine .cons ?_ (Ge h.2 b)
   cases x with
   | d x=>exact a
   | o n=>exact a
   | w i=>exact absurd h.1 a0V
theorem nY (hf:XA K W tar fa):XE K W (tTup tar) (j8 fa):=fun A st σ H ts C Q y hy p=>by
 rcases lg hy with ⟨rs,s1,b,h1,h2,rfl⟩|⟨x,s1,h1,rfl⟩
 ·obtain⟨ds,h3,h4⟩:=a0a.mp h2
  obtain⟨hl,rfl⟩:=ite_some h4
  refine hf A st σ H ts C _ _ h1 fun vs H1 ⟨Hb,ι,C1⟩=>?_
  have r:=N6 h3 (C1.tmp (jk K σ rs vs) (by simp))
  exact⟨by rw[← r.len,a0E];omega,fun q hq=>p _ _ ((C1.temps fun q hq=>C1.tmp q (by simp[hq])).newT hq r)⟩
 ·exact hf A st σ H ts C _ _ h1 p
theorem jT (hf:XA K W tar fa):XN K W (tLst tar) (iy fa):=fun A st σ H ts C Q y hy p=>by
 rcases lg hy with ⟨rs,s1,b,h1,h2,rfl⟩|⟨x,s1,h1,rfl⟩
 ·refine hf A st σ H ts C _ _ h1 fun vs H1 ⟨Hb,ι,C1⟩=>?_
  have r:Paired (fun r v=>Rt K σ ι Hb r v) rs vs:=C1.tmp (jk K σ rs vs) (by simp)
  have C2:au K A s1 σ H1 ts Hb ι:=C1.temps fun q hq=>C1.tmp q (by simp[hq])
  have h2:(if rs.length≤16000000 then Hj rs else none)=some b:=h2
  by_cases hl:rs.length≤16000000
  ·rw[a0g hl] at h2
   have hlen:=Paired.length r
   refine⟨by rw[← hlen,a0E];omega,fun q hq=>p _ _ ?_⟩
   unfold Hj at h2
   cases e:cZ rs with
   | some ds=>rw[e] at h2;cases h2;exact C2.made hq ⟨vs,rfl,N6 e r⟩
   | none=>
    rw[e] at h2
    obtain⟨hw,rfl⟩:=ite_some h2
    exact C2.made hq ⟨vs,rfl,Ge hw r⟩
  ·rw[a0h hl] at h2;cases h2
 ·exact hf A st σ H ts C _ _ h1 p
theorem dY (hn:XN K W te n):XE K W te (dh n):=fun A st σ H ts C Q y hy p=>by
 rcases lg hy with ⟨b,s1,r,h1,h2,rfl⟩|⟨x,s1,h1,rfl⟩
 ·obtain⟨d,hd,rfl⟩:=a0b.mp h2
  exact hn A st σ H ts C _ _ h1 fun v H1 C1=>p v H1 (C1.frz fun ι Hb a u hu hb=>Gr hd hu (Ex.new hb).rl a0r)
 ·exact hn A st σ H ts C _ _ h1 p
theorem agv (hn:XN K W te n):XE K W te (Ib n):=fun A st σ H ts C Q y hy p=>by
 rcases dI hy with ⟨b,s1,h1,h2⟩|⟨x,s1,h1,rfl⟩
 ·cases h2
  exact hn A st σ H ts C _ _ h1 fun v H1 C1=>p v H1 C1.Xv
 ·exact hn A st σ H ts C _ _ h1 p
def Hl:M Ob:=M.ret (.aV [] [])
theorem V_:XN K W tDNewK Hl:=fun A st σ H ts C Q y hy p=>by
 cases hy
 obtain⟨Hb,ι,C⟩:=C
 exact fun q hq=>p _ _ (C.made hq ⟨[],rfl,rfl,aq.nil⟩)
def zj (K:PySem.W.Frag) (r:List V→Hp→VK→Prop) (g:ST→List R→Option R):Prop:=∀A st σ H ts Hb ι xs z vs (Q:VK),au K A st σ H ts Hb ι→Paired (fun r v=>Rt K σ ι Hb r v) xs vs→g st xs=some z→(∀w H2,Cf K A st σ H2 (rt K σ z w::ts)→Q w H2)→r vs H Q
def Yk (K:PySem.W.Frag) (r:List V→Hp→VK→Prop) (g:ST→List R→Option Ob):Prop:=∀A st σ H ts Hb ι xs z vs (Q:VK),au K A st σ H ts Hb ι→Paired (fun r v=>Rt K σ ι Hb r v) xs vs→g st xs=some z→(∀w H2,fD K A st σ H2 ts z w→Q w H2)→r vs H Q
theorem fu {r:List V→Hp→VK→Prop} {k:ST→List R→Option R} (hk:zj K r k) (hf:XA K W tar fa):XE K W (tCB r tar) (fa.of k):=fun A st σ H ts C Q y hy p=>by
 rcases lg hy with ⟨rs,s1,b,h1,h2,rfl⟩|⟨x,s1,h1,rfl⟩
 ·exact hf A st σ H ts C _ _ h1 fun vs H1 ⟨Hb,ι,C1⟩=>hk A s1 σ H1 ts Hb ι rs b vs Q (C1.temps fun q hq=>C1.tmp q (by simp[hq])) (C1.tmp (jk K σ rs vs) (by simp)) h2 p
 ·exact hf A st σ H ts C _ _ h1 p
theorem O_ {r:List V→Hp→VK→Prop} {k:ST→List R→Option Ob} (hk:Yk K r k) (hf:XA K W tar fa):XN K W (tCB r tar) (fa.of k):=fun A st σ H ts C Q y hy p=>by
 rcases lg hy with ⟨rs,s1,b,h1,h2,rfl⟩|⟨x,s1,h1,rfl⟩
 ·exact hf A st σ H ts C _ _ h1 fun vs H1 ⟨Hb,ι,C1⟩=>hk A s1 σ H1 ts Hb ι rs b vs Q (C1.temps fun q hq=>C1.tmp q (by simp[hq])) (C1.tmp (jk K σ rs vs) (by simp)) h2 p
 ·exact hf A st σ H ts C _ _ h1 p
def Ql:D→Option Nat
 | .lst ds=>some ds.length
 | .tup ds=>some ds.length
 | .dG ns=>some ns.length
 | .str s=>if s.length≤16000000 then some s.length else none
 | .aV ks _=>some ks.length
 | _=>none
def kLen:ST→List R→Option R:=fun st xs=>match xs with
 | [x]=>((snap st x).bind Ql).map fun(n:Nat)=>R.d (.int (n:Int))
 | _=>none
def Pa:ST→List R→Option R:=fun st xs=>match xs with
 | [x]=>(bW st x).map fun ys=>R.d (.int (ys.length:Int))
 | _=>none
def fZ:ST→List R→Option R:=fun st xs=>(kLen st xs).or (Pa st xs)
def jD:ST→List R→Option R:=fun _ xs=>match xs with
 | [.d (.int i)]=>some (.d (.int i))
 | [.d (.bl b)]=>some (.d (.int (if b then 1 else 0)))
 | _=>none
def tys:List String:=["int","bool","str","list","tuple","dict","NoneType"]
def isT (n m:String):Option Bool:=if tys.contains n&&tys.contains m then some (n == m || (n == "bool"&&m == "int")) else none
def ou:ST→List R→Option R:=fun st xs=>match xs with
 | [x,.d (.ty m)]=>(snap st x).bind fun a=>(CK a).bind fun n=>(isT n m).map fun b=>.d (.bl b)
 | _=>none
theorem qH {F:R→V→Prop} {x:R} {vs:List V} (h:Paired F [x] vs):∃v,vs=[v]∧F x v:=by
 cases h with
 | cons a b=>cases b;exact⟨_,rfl,a⟩
theorem afu {F:R→V→Prop} {x y:R} {vs:List V} (h:Paired F [x,y] vs):∃v u,vs=[v,u]∧F x v∧F y u:=by
 cases h with
 | cons a b=>obtain⟨u,rfl,c⟩:=qH b;exact⟨_,u,rfl,a,c⟩
theorem adZ:zj K (yL K) kLen:=fun A st σ H ts Hb ι xs z vs Q C r e p=>by
 unfold kLen at e
 split at e
 ·rename_i x
  obtain⟨v,rfl,hr⟩:=qH r
  obtain⟨n,e1,rfl⟩:=a0b.mp e
  clear e
  obtain⟨a,ha,e⟩:=a0a.mp e1
  have hv:=C.snap hr ha
  have fin:∀m:Nat,m=n→Q (.int m) H:=fun m hm=>by subst hm;exact p _ _ (C.gQ (by unfold Rp;rfl))
  cases a<;>first|cases e;done|skip
  ·obtain⟨hl,rfl⟩:=ite_some e
   cases (Rp.eG hv)
   exact .inl ⟨_,_,rfl,⟨by rw[a0E];omega,rfl⟩,fin _ rfl⟩
  ·cases e
   unfold Rp at hv
   obtain⟨a,us,rfl,s,rr⟩:=hv
   exact .inl ⟨_,_,rfl,.inl ⟨us,.inl s,rr.len⟩,fin _ rfl⟩
  ·cases e
   unfold Rp at hv
   obtain⟨a,us,rfl,s,rr⟩:=hv
   exact .inl ⟨_,_,rfl,.inr ⟨us,s,rr.len⟩,fin _ rfl⟩
  ·cases e
   unfold Rp at hv
   obtain⟨a,rfl,s⟩:=hv
   exact .inl ⟨_,_,rfl,.inl ⟨_,s,(a0C _).symm⟩,fin _ rfl⟩
  ·cases e
   unfold Rp at hv
   obtain⟨a,us,rfl,s,hl,rr⟩:=hv
   exact .inr ⟨a,_,rfl,s,fin _ (by rw[b0u,← hl,b0r])⟩
 ·cases e
theorem ad0:zj K (yL K) Pa:=fun A st σ H ts Hb ι xs z vs Q C r e p=>by
 unfold Pa at e
 split at e
 ·rename_i x
  obtain⟨v,rfl,hr⟩:=qH r
  obtain⟨ys,e1,rfl⟩:=a0b.mp e
  obtain⟨a,us,rfl,s,rr⟩:=C.bW hr e1
  exact .inl ⟨_,ys.length,rfl,.inl ⟨us,.inl (.inl s),Paired.length rr⟩,p _ _ (C.gQ (by unfold Rp;rfl))⟩
 ·cases e
theorem x_len:zj K (yL K) fZ:=fun A st σ H ts Hb ι xs z vs Q C r e p=>by
 unfold fZ at e
 cases q:kLen st xs with
 | some w=>rw[q] at e;cases e;exact adZ A st σ H ts Hb ι xs _ vs Q C r q p
 | none=>rw[q] at e;exact ad0 A st σ H ts Hb ι xs z vs Q C r e p
theorem nO:zj K P_ jD:=fun A st σ H ts Hb ι xs z vs Q C r e p=>by
 unfold jD at e
 split at e
 ·cases e
  obtain⟨v,rfl,hr⟩:=qH r
  cases (Rp.mX (K:=K) (H:=Hb) hr)
  exact .inl ⟨_,rfl,p _ _ (C.gQ (by unfold Rp;rfl))⟩
 ·cases e
  obtain⟨v,rfl,hr⟩:=qH r
  cases (Rp.oG (K:=K) (H:=Hb) hr)
  exact .inr ⟨_,rfl,p _ _ (C.gQ (by unfold Rp;rfl))⟩
 ·cases e
theorem acM:∀n∈tys,∀m∈tys,kitB n m=some (n == m || (n == "bool"&&m == "int")):=by decide +kernel
theorem Bs:zj K (rIsi K) ou:=fun A st σ H ts Hb ι xs z vs Q C r e p=>by
 unfold ou at e
 split at e
 ·rename_i x m
  obtain⟨v,u,rfl,hv,hu⟩:=afu r
  cases (show u=.ty m from hu)
  obtain⟨a,ha,e⟩:=a0a.mp e
  obtain⟨n,hn,e⟩:=a0a.mp e
  obtain⟨b,hb,rfl⟩:=a0b.mp e
  have hq:=C.snap hv ha
  unfold isT at hb
  obtain⟨hc,rfl⟩:=ite_some hb
  rw[a0o,List.contains_iff_mem,List.contains_iff_mem] at hc
  exact⟨v,.ty m,.type n,.type m,_,rfl,.ty m,adT (Ex.refl _) hn hq,kit_ty (acM n hc.1 m hc.2),p _ _ (C.gQ (by unfold Rp;rfl))⟩
 ·cases e
def kList:ST→List R→Option Ob:=fun st xs=>match xs with
 | [x]=>match lG st x with
  | some ds=>some (.lst ds)
  | none=>(jm st x).map fun p=>.lst (p.1.map kD)
 | _=>none
theorem N7:Yk K (O8 K) kList:=fun A st σ H ts Hb ι xs z vs Q C r e p=>by
 unfold kList at e
 split at e
 ·rename_i x
  obtain⟨v,rfl,hv⟩:=qH r
  split at e
  ·rename_i ds hds
   cases e
   obtain⟨a,us,rfl,s,q⟩:=C.lG hv hds
   exact .inl ⟨a,us,rfl,s,fun l hl=>p _ _ (C.made hl ⟨us,rfl,q⟩)⟩
  ·obtain⟨q,hq,rfl⟩:=a0b.mp e
   obtain⟨a,us,rfl,s,hl,rr⟩:=C.jm hv hq
   exact .inr ⟨a,_,rfl,s,fun l hh=>p _ _ (C.made hh ⟨_,rfl,Vp hl⟩)⟩
 ·cases e
def kTuple:ST→List R→Option R:=fun st xs=>match xs with
 | [x]=>(lG st x).map fun ds=>.d (.tup ds)
 | _=>none
def PoO (K:PySem.W.Frag) (W:WX) (A:Ac) (σ:L2.St) (ts:List Tp) (Q:Option Int→Hp→Prop):Rx (Option Int)→Prop
 | .ok b st=>∀H2,Cf K A st σ H2 ts→Q b H2
 | .ex x st=>∀cls d H2,XO K A ts x st cls d σ H2→W cls d σ H2
def XP (K:PySem.W.Frag) (W:WX) (to:TO) (f:M (Option Int)):Prop:=∀A st σ H ts,Cf K A st σ H ts→∀Q y,f st=some y→PoO K W A σ ts Q y→to σ H Q
def fget (fs:List Str) (xs:List R) (f:Str):Option R:=(fs.zip xs).lookup f
def iT (Cs:List Addr) (nm:Str) (f:M R):M R:=f.of fun st r=>(inV st r).bind fun p=>if p.1∈Cs then fget p.2.1 p.2.2 nm else none
theorem Vw {nm:Str}:∀{fs:List Str} {xs:List R} {vs:List V} {x:R},fs.length=vs.length→bA K ι Hb xs vs→fget fs xs nm=some x→∃v,(fs.zip vs).lookup nm=some v∧RV K ι Hb x v
 | [],xs,vs,x,_,_,h=>by simp[fget] at h
 | q::fs,[],vs,x,hl,r,h=>by simp[fget] at h
 | q::fs,e::ds,vs,x,hl,r,h=>by
  cases r with
  | cons rv rt=>
   unfold fget at h
   simp only[a0w,List.lookup] at h ⊢
   cases z:(nm == q) with
   | true=>rw[z] at h;cases h;exact⟨_,rfl,rv⟩
   | false=>rw[z] at h;exact Vw (by simpa using hl) rt h
theorem jA {Cs:List Addr} {nm:Str} (hC:∀C∈Cs,Cls K C∧NoAttr K C nm) (hf:XE K W te f):XE K W (tFld K te nm) (iT Cs nm f):=fun A st σ H ts C Q y hy p=>by
 rcases lg hy with ⟨r,s1,b,h1,h2,rfl⟩|⟨x,s1,h1,rfl⟩
 ·refine hf A st σ H ts C _ _ h1 fun v H1 ⟨Hb,ι,C1⟩=>?_
  have C2:au K A s1 σ H1 ts Hb ι:=C1.temps fun q hq=>C1.tmp q (by simp[hq])
  obtain⟨q,hq,h3⟩:=a0a.mp h2
  obtain⟨a,dx,vs,rfl,ha,hl,rr⟩:=C2.inV (C1.tmp (rt K σ r v) (by simp)) hq
  by_cases hm:q.1∈Cs
  ·rw[a0g hm] at h3
   obtain⟨u,hu,ru⟩:=Vw hl rr h3
   exact⟨a,q.1,dx,_,u,rfl,ha,(hC _ hm).1,(hC _ hm).2,hu,p _ _ (C2.one (yG ru))⟩
  ·rw[a0h hm] at h3;cases h3
 ·exact hf A st σ H ts C _ _ h1 p
end
inductive Rs where
 | nx (st:ST)|rt (r:R) (st:ST)|rn (b:Ob) (st:ST)|bk (st:ST)|ct (st:ST)|ex (x:XD) (st:ST)
abbrev S:=ST→Option Rs
section
variable (K:PySem.W.Frag) (W:WX)
def m9 (A:Ac) (fs:List Tp) (T:Ends):Rs→Prop
 | .nx st=>∀σ H,Cf K A st σ H fs→T.nx σ H
 | .bk st=>∀σ H,Cf K A st σ H fs→T.bk σ H
 | .ct st=>∀σ H,Cf K A st σ H fs→T.ct σ H
 | .rt r st=>∀σ v H,Cf K A st σ H (rt K σ r v::fs)→T.rt v H
 | .rn b st=>∀σ v H,fD K A st σ H fs b v→T.rt v H
 | .ex x st=>∀cls d σ H,XO K A fs x st cls d σ H→W cls d σ H
def XS (ts:TS) (g:S):Prop:=∀A st σ H fs,Cf K A st σ H fs→∀T y,g st=some y→m9 K W A fs T y→ts T σ H
def PoG (A:Ac) (σ:L2.St) (ts:List Tp) (Q:L2.St→Hp→Prop):Rx Unit→Prop
 | .ok _ st=>∀σ2 H2,Cf K A st σ2 H2 ts→Q σ2 H2
 | .ex x st=>∀cls d H2,XO K A ts x st cls d σ H2→W cls d σ H2
abbrev G:=R→M Unit
def XG (g:TG) (k:G):Prop:=∀A st σ H ts r v,Cf K A st σ H (rt K σ r v::ts)→∀Q y,k r st=some y→PoG K W A σ ts Q y→g v σ H Q
end
def aM:S:=fun st=>some (.nx st)
def ao (a b:S):S:=fun st=>match a st with
 | some (.nx st')=>b st'
 | o=>o
def bT (t:M Bool) (a b:S):S:=fun st=>match t st with
 | some (.ok true st')=>a st'
 | some (.ok false st')=>b st'
 | some (.ex x st')=>some (.ex x st')
 | none=>none
def jX (f:M R):S:=fun st=>match f st with
 | some (.ok _ st')=>some (.nx st')
 | some (.ex x st')=>some (.ex x st')
 | none=>none
def bV (f:M R):S:=fun st=>match f st with
 | some (.ok r st')=>some (.rt r st')
 | some (.ex x st')=>some (.ex x st')
 | none=>none
def yH (f:M Ob):S:=fun st=>match f st with
 | some (.ok b st')=>some (.rn b st')
 | some (.ex x st')=>some (.ex x st')
 | none=>none
def bQ (f:M R) (k:G):S:=fun st=>match f st with
 | some (.ok r st1)=>(match k r st1 with
  | some (.ok _ st2)=>some (.nx st2)
  | some (.ex x s)=>some (.ex x s)
  | none=>none)
 | some (.ex x s)=>some (.ex x s)
 | none=>none
def jE (i:Nat) (f:M Ob):S:=fun st=>match f st with
 | some (.ok b st')=>some (.nx ⟨st'.s.set i (.own b),st'.h⟩)
 | some (.ex x st')=>some (.ex x st')
 | none=>none
section
variable {K:PySem.W.Frag} {W:WX} {t1 t2:TS} {g1 g2:S} {tt:TT} {t:M Bool} {te to ti:TE} {f fo fi:M R} {n:M Ob} {g:TG} {k:G} {i:Nat}
theorem aP:XS K W tNext aM:=fun A st σ H fs C T y h p=>by cases h;exact p σ H C
theorem aG (h1:XS K W t1 g1) (h2:XS K W t2 g2):XS K W (tSeq t1 t2) (ao g1 g2):=fun A st σ H fs C T y h p=>by
 unfold ao at h
 cases e:g1 st with
 | none=>rw[e] at h;cases h
 | some z=>
  rw[e] at h
  refine h1 A st σ H fs C {T with nx:=t2 T} z e ?_
  cases z with
  | nx st'=>exact fun σ' H' C'=>h2 A st' σ' H' fs C' T y h p
  | rt r st'=>cases h;exact p
  | rn r st'=>cases h;exact p
  | bk st'=>cases h;exact p
  | ct st'=>cases h;exact p
  | ex x st'=>cases h;exact p
theorem cX (ht:XT K W tt t) (h1:XS K W t1 g1) (h2:XS K W t2 g2):XS K W (tIfS tt t1 t2) (bT t g1 g2):=fun A st σ H fs C T y h p=>by
 unfold bT at h
 cases e:t st with
 | none=>rw[e] at h;cases h
 | some z=>
  rw[e] at h
  cases z with
  | ex x st'=>cases h;exact ht A st σ H fs C _ _ e fun cls d H2 X=>p cls d σ H2 X
  | ok b st'=>
   refine ht A st σ H fs C _ _ e fun H1 C1=>?_
   cases b with
   | true=>rw[a0g rfl];exact h1 A st' σ H1 fs C1 T y h p
   | false=>rw[a0h a0V];exact h2 A st' σ H1 fs C1 T y h p
theorem uU (hf:XE K W te f):XS K W (tDrop te) (jX f):=fun A st σ H fs C T y h p=>by
 unfold jX at h
 cases e:f st with
 | none=>rw[e] at h;cases h
 | some z=>
  rw[e] at h
  cases z with
  | ex x st'=>cases h;exact hf A st σ H fs C _ _ e fun cls d H2 X=>p cls d σ H2 X
  | ok r st'=>cases h;exact hf A st σ H fs C _ _ e fun v H1 C1=>p σ H1 C1.drop
theorem cH (hf:XE K W te f):XS K W (tRet te) (bV f):=fun A st σ H fs C T y h p=>by
 unfold bV at h
 cases e:f st with
 | none=>rw[e] at h;cases h
 | some z=>
  rw[e] at h
  cases z with
  | ex x st'=>cases h;exact hf A st σ H fs C _ _ e fun cls d H2 X=>p cls d σ H2 X
  | ok r st'=>cases h;exact hf A st σ H fs C _ _ e fun v H1 C1=>p σ v H1 C1
theorem Vx (hf:XN K W te n):XS K W (tRet te) (yH n):=fun A st σ H fs C T y h p=>by
 unfold yH at h
 cases e:n st with
 | none=>rw[e] at h;cases h
 | some z=>
  rw[e] at h
  cases z with
  | ex x st'=>cases h;exact hf A st σ H fs C _ _ e fun cls d H2 X=>p cls d σ H2 X
  | ok r st'=>cases h;exact hf A st σ H fs C _ _ e fun v H1 C1=>p σ v H1 C1
theorem cI (hf:XE K W te f) (hg:XG K W g k):XS K W (tAsg te g) (bQ f k):=fun A st σ H fs C T y h p=>by
 unfold bQ at h
 cases e:f st with
 | none=>rw[e] at h;cases h
 | some z=>
  rw[e] at h
  cases z with
  | ex x st'=>cases h;exact hf A st σ H fs C _ _ e fun cls d H2 X=>p cls d σ H2 X
  | ok r st'=>
   refine hf A st σ H fs C _ _ e fun v H1 C1=>?_
   cases e2:k r st' with
   | none=>simp only[e2] at h;cases h
   | some z=>
    simp only[e2] at h
    cases z with
    | ex x s=>cases h;exact hg A st' σ H1 fs r v C1 _ _ e2 fun cls d H2 X=>p cls d σ H2 X
    | ok _ s=>cases h;exact hg A st' σ H1 fs r v C1 _ _ e2 fun σ2 H2 C2=>p σ2 H2 C2
theorem o_ (hn:XN K W te n):XS K W (tAsg te (gName i)) (jE i n):=fun A st σ H fs C T y h p=>by
 unfold jE at h
 cases e:n st with
 | none=>rw[e] at h;cases h
 | some z=>
  rw[e] at h
  cases z with
  | ex x st'=>cases h;exact hn A st σ H fs C _ _ e fun cls d H2 X=>p cls d σ H2 X
  | ok b st'=>cases h;exact hn A st σ H fs C _ _ e fun v H1 C1=>p _ H1 (C1.vG i)
def gN (i:Nat):G:=fun r st=>match r with
 | .w _=>none
 | r=>some (.ok () ⟨st.s.set i (.v r),st.h⟩)
theorem fJ:XG K W (gName i) (gN i):=fun A st σ H ts r v ⟨Hb,ι,C⟩ Q y h p=>by
 have hr:Rt K σ ι Hb r v:=C.tmp (rt K σ r v) (by simp)
 have C2:au K A st σ H ts Hb ι:=C.temps fun q hq=>C.tmp q (by simp[hq])
 cases r with
 | w j=>cases h
 | d x=>cases h;exact p _ H ⟨Hb,ι,C2.yN (r:=.d x) hr i⟩
 | o n=>cases h;exact p _ H ⟨Hb,ι,C2.yN (r:=.o n) hr i⟩
def pP:List G→List D→M Unit
 | [],[]=>M.ret ()
 | k::ks,d::ds=>(k (.d d)).bind fun _=>pP ks ds
 | _,_=>fun _=>none
def gT (ks:List G):G:=fun r=>match r with
 | .d (.tup ds)=>pP ks ds
 | _=>fun _=>none
def Ie (K:PySem.W.Frag) (g:TGs) (ks:List G):Prop:=∀A st σ H ts ds vs,(∃Hb ι,au K A st σ H ts Hb ι∧aq K Hb ds vs)→∀(Q:L2.St→Hp→Prop) st',pP ks ds st=some (.ok () st')→(∀σ2 H2,Cf K A st' σ2 H2 ts→Q σ2 H2)→g vs σ H Q
def CT (K:PySem.W.Frag) (ds:List D) (vs:List V):Tp:=⟨fun ι Hb=>aq K Hb ds vs,fun _ _ _ _ _ rl h=>aq.mono rl _ _ h,fun _ _ _ _ _ _ h=>h⟩
theorem acN:Ie K gNil []:=fun A st σ H ts ds vs ⟨Hb,ι,C,r⟩ Q st' h p=>by
 cases ds with
 | nil=>cases h;exact⟨aq.qI r,p σ H ⟨Hb,ι,C⟩⟩
 | cons d ds=>cases h
def vZ (K:PySem.W.Frag) (g:TG) (k:G):Prop:=∀A st σ H ts r v,Cf K A st σ H (rt K σ r v::ts)→∀(Q:L2.St→Hp→Prop) st',k r st=some (.ok () st')→(∀σ2 H2,Cf K A st' σ2 H2 ts→Q σ2 H2)→g v σ H Q
theorem mF:vZ K (gName i) (gN i):=fun A st σ H ts r v C Q st' h p=>fJ (W:=fun _ _ _ _=>True) A st σ H ts r v C Q _ h p
theorem Pb {r:R} {st:ST} {y:Rx Unit} (h:gN i r st=some y):∃st',y=.ok () st':=by
 cases r with
 | w j=>cases h
 | d x=>cases h;exact⟨_,rfl⟩
 | o n=>cases h;exact⟨_,rfl⟩
theorem U3 {ks:List G} {gs:TGs} (hg:vZ K g k) (hs:Ie K gs ks) (hx:∀r st y,k r st=some y→∃st',y=.ok () st'):Ie K (gCons g gs) (k::ks):=fun A st σ H ts ds vs ⟨Hb,ι,C,r⟩ Q st' h p=>by
 cases ds with
 | nil=>cases h
 | cons d ds=>
  obtain⟨v,t,rfl,rv,rr⟩:=aq.qG r
  rcases dI (show (k (.d d)).bind (fun _=>pP ks ds) st=some _ from h) with ⟨_,s1,h1,h2⟩|⟨x,s1,h1,e⟩
  ·refine⟨v,t,rfl,hg A st σ H (CT K ds t::ts) (.d d) v ⟨Hb,ι,C.temps fun q hq=>?_⟩ _ s1 h1 fun σ2 H2 C2=>?_⟩
   ·rcases a0c.mp hq with rfl|hq
    ·exact rv
    ·rcases a0c.mp hq with rfl|hq
     ·exact rr
     ·exact C.tmp q hq
   ·obtain⟨bK,bL,C2⟩:=C2
    exact hs A s1 σ2 H2 ts ds t ⟨bK,bL,C2.temps fun q hq=>C2.tmp q (by simp[hq]),C2.tmp (CT K ds t) (by simp)⟩ Q st' h2 p
  ·cases e
theorem Wb:∀{ks:List G} {ds:List D} {st:ST} {y:Rx Unit},(∀k∈ks,∀r st y,k r st=some y→∃st',y=.ok () st')→pP ks ds st=some y→∃st',y=.ok () st'
 | [],[],st,y,_,h=>by cases h;exact⟨_,rfl⟩
 | [],_::_,st,y,_,h=>by cases h
 | k::ks,[],st,y,_,h=>by cases h
 | k::ks,d::ds,st,y,hk,h=>by
  rcases dI (show (k (.d d)).bind (fun _=>pP ks ds) st=some _ from h) with ⟨_,s1,h1,h2⟩|⟨x,s1,h1,e⟩
  ·exact Wb (fun k' hk'=>hk k' (by simp[hk'])) h2
  ·obtain⟨s,e⟩:=hk k (by simp) _ _ _ h1;cases e
theorem acO {gs:TGs} {ks:List G} {m:Nat} (hs:Ie K gs ks) (hm:ks.length=m):vZ K (gTup K m gs) (gT ks):=fun A st σ H ts r v ⟨Hb,ι,C⟩ Q st' h p=>by
 have hr:Rt K σ ι Hb r v:=C.tmp (rt K σ r v) (by simp)
 have C2:au K A st σ H ts Hb ι:=C.temps fun q hq=>C.tmp q (by simp[hq])
 cases r with
 | o n=>cases h
 | w j=>cases h
 | d x=>
  obtain⟨ds,rfl⟩:∃ds,x=.tup ds:=by cases x<;>first|exact⟨_,rfl⟩|cases h
  have hr:Rp K Hb (.tup ds) v:=hr
  unfold Rp at hr
  obtain⟨a,vs,rfl,s,q⟩:=hr
  have hl:∀{ks:List G} {ds:List D} {st:ST} {y:Rx Unit},pP ks ds st=some y→y=.ok () st'→ks.length=ds.length:=by
   intro ks
   induction ks with
   | nil=>intro ds st y h _;cases ds with|nil=>rfl|cons d ds=>cases h
   | cons k ks ih=>
    intro ds st y h e
    cases ds with
    | nil=>cases h
    | cons d ds=>
     rcases dI (show (k (.d d)).bind (fun _=>pP ks ds) st=some _ from h) with ⟨_,s1,h1,h2⟩|⟨x,s1,h1,e'⟩
     ·rw[a0P,a0P,ih h2 e]
     ·rw[e] at e';cases e'
  exact⟨a,vs,rfl,C2.bH.rl.t s,by rw[← q.len,← hl h rfl];exact hm,hs A st σ H ts ds vs ⟨Hb,ι,C2,q⟩ Q st' h p⟩
theorem afv {ks:List G} (hk:∀k∈ks,∀r st y,k r st=some y→∃st',y=.ok () st'):∀r st y,gT ks r st=some y→∃st',y=.ok () st':=fun r st y h=>by
 cases r with
 | o n=>cases h
 | w j=>cases h
 | d x=>cases x<;>first|cases h;done|exact Wb hk h
theorem afw (hg:vZ K g k) (hx:∀r st y,k r st=some y→∃st',y=.ok () st'):XG K W g k:=fun A st σ H ts r v C Q y h p=>by
 obtain⟨st',rfl⟩:=hx r st y h
 exact hg A st σ H ts r v C Q st' h p
end
def pG (st:ST) (r:R) (b:Ob):ST:=match r with
 | .o n=>⟨st.s,st.h.set n b⟩
 | .w i=>⟨st.s.set i (.own b),st.h⟩
 | .d _=>st
section
variable {K:PySem.W.Frag} {W:WX} {A:Ac} {st:ST} {σ:L2.St} {H Hb:Hp} {ts:List Tp} {ι:List Addr} {r:R} {v:V} {b b':Ob} {u':HO} {te to ti tv:TE} {ta:TA} {f g fo fi fv:M R} {fa:M (List R)}
theorem au.put (C:au K A st σ H ts Hb ι) {a:Addr} (hr:Rt K σ ι Hb r (.ref a)) (h:bF st r=some b) (hu:dN K ι Hb b' u') (hz:∀u,H a=some u→mU u=false) (hz':mU u'=false:=by rfl):au K A (pG st r b') σ (upd H a u') ts Hb ι:=by
 cases r with
 | d x=>cases h
 | o n=>
  obtain⟨a',e,z⟩:=hr
  cases z
  exact C.Qe h e hu hz
 | w i=>
  simp only[bF] at h
  cases q:st.s[i]? with
  | none=>rw[q] at h;cases h
  | some sv=>
   rw[q] at h
   cases sv with
   | no=>cases h
   | v r=>cases h
   | own c=>exact C.agu q hr hu hz'
def Xz:Ob→R→Option Ob
 | .lst ds,.d x=>if ds.length<16000000 then some (.lst (ds++[x])) else none
 | .lst [],.o n=>some (.bW [.o n])
 | .bW xs,.d x=>if xs.length<16000000 then some (.bW (xs++[.d x])) else none
 | .bW xs,.o n=>if xs.length<16000000 then some (.bW (xs++[.o n])) else none
 | _,_=>none
def yP (st:ST) (r:R):Bool:=match bF st r with
 | some (.lst _)=>true
 | some (.bW _)=>true
 | _=>false
def CV (f:M R) (fa:M (List R)) (k:ST→R→List R→Option (R×ST)):M R:=f.bind fun t st1=>if yP st1 t then(fa.bind fun rs st=>(k st t rs).map fun p=>.ok p.1 p.2) st1 else none
def yQ:ST→R→List R→Option (R×ST):=fun st t rs=>match rs with
 | [r]=>(bF st t).bind fun b=>(Xz b r).map fun b'=>(.d .non,pG st t b')
 | _=>none
theorem Paired.G3 {xs:List R} {vs:List V} {x:R} {v:V} (h:bA K ι Hb xs vs) (hx:RV K ι Hb x v):bA K ι Hb (xs++[x]) (vs++[v]):=Paired.snoc h hx
theorem acP {A:Ac} {st:ST} {σ:L2.St} {H Hb:Hp} {ts:List Tp} {ι:List Addr} {t:R} {v:V} (C:au K A st σ H ts Hb ι) (hr:Rt K σ ι Hb t v) (h:yP st t=true):tyV K "list" v H:=by
 unfold yP at h
 cases q:bF st t with
 | none=>rw[q] at h;cases h
 | some b=>
  rw[q] at h
  obtain⟨a,u,rfl,h1,h2,_⟩:=C.at hr q
  cases b<;>first|cases h;done|(obtain⟨vs,rfl,_⟩:=h2;exact .inl ⟨rfl,vs,.inl (.inl h1)⟩)
def Yl (K:PySem.W.Frag) (r:V→List V→Hp→VK→Prop) (k:ST→R→List R→Option (R×ST)):Prop:=∀A st σ H ts Hb ι t rs z v vs (Q:VK),au K A st σ H ts Hb ι→Rt K σ ι Hb t v→Paired (fun r v=>Rt K σ ι Hb r v) rs vs→k st t rs=some z→(∀w H2,Cf K A z.2 σ H2 (rt K σ z.1 w::ts)→Q w H2)→r v vs H Q
theorem agw {rr:V→List V→Hp→VK→Prop} {k:ST→R→List R→Option (R×ST)} (hk:Yl K rr k) (hf:XE K W to f) (ha:XA K W ta fa):XE K W (tBM K "list" rr to ta) (CV f fa k):=fun A st σ H ts C Q y hy p=>by
 rcases dI hy with ⟨t,s1,h1,h2⟩|⟨x,s1,h1,rfl⟩
 ·refine hf A st σ H ts C _ _ h1 fun v H1 C1=>?_
  obtain⟨fU,gq,tU⟩:=id C1
  cases q:yP s1 t with
  | false=>simp only[q] at h2;cases h2
  | true=>
   simp only[q,a0W] at h2
   refine⟨acP tU (tU.tmp (rt K σ t v) (by simp)) q,?_⟩
   rcases dI h2 with ⟨rs,s2,h3,h4⟩|⟨x,s2,h3,rfl⟩
   ·refine ha A s1 σ H1 _ C1 _ _ h3 fun vs H2 ⟨Hb,ι,C2⟩=>?_
    cases e:k s2 t rs with
    | none=>simp only[e] at h4;cases h4
    | some z=>
     simp only[e] at h4
     cases h4
     exact hk A s2 σ H2 ts Hb ι t rs z v vs Q (C2.temps fun q hq=>C2.tmp q (by simp[hq])) (C2.tmp (rt K σ t v) (by simp)) (C2.tmp (jk K σ rs vs) (by simp)) e p
   ·exact ha A s1 σ H1 _ C1 _ _ h3 fun cls d H2 X=>p cls d H2 X.drop
 ·exact hf A st σ H ts C _ _ h1 p
theorem Cf.non {A:Ac} {st:ST} {σ:L2.St} {H:Hp} {ts:List Tp} (C:Cf K A st σ H ts):Cf K A st σ H (rt K σ (.d .non) .non::ts):=C.temps fun q hq=>(a0c.mp hq).elim (fun e=>.inr fun ι Hb=>by rw[e];show Rp K Hb _ _;unfold Rp;rfl) .inl
theorem afx:Yl K rAppend yQ:=fun A st σ H ts Hb ι t rs z v vs Q C ht hr e p=>by
 unfold yQ at e
 split at e
 ·rename_i r
  obtain⟨u,rfl,hu⟩:=qH hr
  obtain⟨b,hb,e⟩:=a0a.mp e
  obtain⟨b',hb',rfl⟩:=a0b.mp e
  obtain⟨a,u0,rfl,h1,h2,_⟩:=C.at ht hb
  have go:∀{xs:List V},u0=.lst xs→xs.length<sizeLine→dN K ι Hb b' (.lst (xs++[u]))→rAppend (.ref a) [u] H Q:=fun {xs} e0 hl ho=>
   ⟨a,xs,u,rfl,rfl,by rw[← e0];exact h1,hl,p _ _ (Cf.non ⟨Hb,ι,C.put ht hb ho fun z hz=>by rw[h1,e0] at hz;cases hz;rfl⟩)⟩
  cases b with
  | lst ds=>
   obtain⟨xs,e0,q⟩:=h2
   cases r with
   | d x=>
    obtain⟨hl,rfl⟩:=ite_some hb'
    exact go e0 (by rw[← q.len,a0E];omega) ⟨_,rfl,q.app (aq.one hu)⟩
   | o n=>
    cases ds with
    | nil=>cases hb';rw[aq.qI q] at e0;exact go e0 (by rw[a0E];decide) ⟨_,rfl,.cons hu .nil⟩
    | cons d ds=>cases hb'
   | w i=>cases ds<;>cases hb'
  | bW ys=>
   obtain⟨xs,e0,q⟩:=h2
   cases r with
   | d x=>
    obtain⟨hl,rfl⟩:=ite_some hb'
    exact go e0 (by rw[← Paired.length q,a0E];omega) ⟨_,rfl,Paired.G3 q hu⟩
   | o n=>
    obtain⟨hl,rfl⟩:=ite_some hb'
    exact go e0 (by rw[← Paired.length q,a0E];omega) ⟨_,rfl,Paired.G3 q hu⟩
   | w i=>cases hb'
  | _=>cases r<;>cases hb'
 ·cases e
def Cg:TSet:=fun o i v H Q=>rSetL o i v H Q∨rSetD o i v H Q
theorem PSet.or {X:Cx} {t t':TSet} (h:PSet X t) (h':PSet X t'):PSet X (fun o i v H Q=>t o i v H Q∨t' o i v H Q):=fun pins s σ H o i v ov iv u Q I r1 r2 r3 q=>q.elim (h pins s σ H o i v ov iv u Q I r1 r2 r3) (h' pins s σ H o i v ov iv u Q I r1 r2 r3)
theorem oZ {X:Cx} {k:Nat} (hr:Room k X.A):PSet X Cg:=PSet.or set_list (set_dict (hu_of hr))
def Cj (ks:List Key) (xs:List R) (k:Key) (r:R):List R:=if k∈ks then List.zipWith (fun k' x'=>if k'=k then r else x') ks xs else xs++[r]
def vG (b:Ob) (i r:R):Option Ob:=match b,i,r with
 | .lst ds,.d (.int k),.d x=>(ixN ds.length k).map fun j=>.lst (ds.set j x)
 | .bW xs,.d (.int k),.o n=>(ixN xs.length k).map fun j=>.bW (xs.set j (.o n))
 | .bW xs,.d (.int k),.d x=>(ixN xs.length k).map fun j=>.bW (xs.set j (.d x))
 | .aV ks ds,.d y,.d x=>(keyD y).bind fun k=>if ks.length<16000000 then some (.aV (mQ ks k) (yE ks ds k x)) else none
 | .aV ks ds,.d y,.o n=>(keyD y).bind fun k=>if ks.length<16000000 then some (.cQ (mQ ks k) (Cj ks (ds.map .d) k (.o n))) else none
 | .cQ ks xs,.d y,.d x=>(keyD y).bind fun k=>if ks.length<16000000 then some (.cQ (mQ ks k) (Cj ks xs k (.d x))) else none
 | .cQ ks xs,.d y,.o n=>(keyD y).bind fun k=>if ks.length<16000000 then some (.cQ (mQ ks k) (Cj ks xs k (.o n))) else none
 | _,_,_=>none
def gS (fo fi:M R):G:=fun r=>fo.bind fun o=>fi.bind fun i st=>(bF st o).bind fun b=>(vG b i r).map fun b'=>.ok () (pG st o b')
theorem bA.set {xs:List R} {vs:List V} {x:R} {v:V} (h:bA K ι Hb xs vs) (hx:RV K ι Hb x v):∀j,bA K ι Hb (xs.set j x) (vs.set j v):=by
 induction h with
 | nil=>intro j;exact .nil
 | cons a b ih=>
  intro j
  cases j with
  | zero=>exact .cons hx b
  | succ j=>exact .cons a (ih j)
theorem acQ {ks:List Key} {k:Key} {d:D} {v:V} (hd:Rp K Hb d v):∀{ds:List D} {vs:List V},aq K Hb ds vs→aq K Hb (List.zipWith (fun k' d'=>if k'=k then d else d') ks ds) (List.zipWith (fun k' v'=>if k'=k then v else v') ks vs):=by
 induction ks with
 | nil=>intro ds vs _;simp;exact aq.nil
 | cons q ks ih=>
  intro ds vs r
  cases ds with
  | nil=>rw[aq.qI r];simp;exact aq.nil
  | cons e ds=>
   obtain⟨w,t,rfl,p,q'⟩:=aq.qG r
   simp only[a0I]
   refine aq.cons ?_ (ih q')
   by_cases z:q=k
   ·rw[a0g z,a0g z];exact hd
   ·rw[a0h z,a0h z];exact p
theorem acR {ks:List Key} {k:Key} {x:R} {v:V} (hd:RV K ι Hb x v):∀{xs:List R} {vs:List V},bA K ι Hb xs vs→bA K ι Hb (List.zipWith (fun k' d'=>if k'=k then x else d') ks xs) (List.zipWith (fun k' v'=>if k'=k then v else v') ks vs):=by
 induction ks with
 | nil=>intro xs vs _;simp;exact .nil
 | cons q ks ih=>
  intro xs vs r
  cases r with
  | nil=>simp;exact .nil
  | cons a b=>
   simp only[a0I]
   refine .cons ?_ (ih b)
   by_cases z:q=k
   ·rw[a0g z,a0g z];exact hd
   ·rw[a0h z,a0h z];exact a
theorem N8 {ks:List Key} {k:Key} {xs:List R} {vs:List V} {x:R} {v:V} (r:bA K ι Hb xs vs) (hx:RV K ι Hb x v):bA K ι Hb (Cj ks xs k x) (if k∈ks then List.zipWith (fun k' v'=>if k'=k then v else v') ks vs else vs++[v]):=by
 unfold Cj
 by_cases z:k∈ks
 ·rw[a0g z,a0g z];exact acR hx r
 ·rw[a0h z,a0h z];exact Paired.G3 r hx
theorem acS {ks:List Key} {k:Key} {ds:List D} {vs:List V} {x:D} {v:V} (r:aq K Hb ds vs) (hx:Rp K Hb x v):aq K Hb (yE ks ds k x) (if k∈ks then List.zipWith (fun k' v'=>if k'=k then v else v') ks vs else vs++[v]):=by
 unfold yE
 by_cases z:k∈ks
 ·rw[a0g z,a0g z];exact acQ hx r
 ·rw[a0h z,a0h z];exact r.app (aq.one hx)
theorem Fw {ks:List Key} {k:Key} {vs:List V} {v:V} (hl:ks.length=vs.length):(mQ ks k).length=(if k∈ks then List.zipWith (fun k' v'=>if k'=k then v else v') ks vs else vs++[v]).length:=by
 unfold mQ
 by_cases z:k∈ks
 ·rw[a0g z,a0g z,List.length_zipWith,← hl,b0r]
 ·rw[a0h z,a0h z];simp[hl]
theorem ad1 {A:Ac} {st:ST} {σ:L2.St} {H Hb:Hp} {ts:List Tp} {ι:List Addr} {o i r:R} {vo vi vr:V} {b b':Ob} {Q:Hp→Prop} (C:au K A st σ H ts Hb ι) (ho:Rt K σ ι Hb o vo) (hi:Rt K σ ι Hb i vi) (hr:Rt K σ ι Hb r vr)
  (hb:bF st o=some b) (hs:vG b i r=some b') (p:∀H2,Cf K A (pG st o b') σ H2 ts→Q H2):Cg vo vi vr H Q:=by
 obtain⟨a,u0,rfl,h1,h2,_⟩:=C.at ho hb
 have lst:∀{xs:List V} {k:Int} {j:Nat},u0=.lst xs→vi=.int k→ixN xs.length k=some j→dN K ι Hb b' (.lst (xs.set j vr))→Cg (.ref a) vi vr H Q:=fun {xs k j} e0 e1 hj hu=>
  .inl ⟨a,xs,k,j,rfl,e1,by rw[← e0];exact h1,hj,p _ ⟨Hb,ι,C.put ho hb hu fun z hz=>by rw[h1,e0] at hz;cases hz;rfl⟩⟩
 have aV:∀{ks:List Key} {vs:List V} {k:Key},u0=.dK (ks.zip vs)→ks.length=vs.length→vi=kV k→ks.length<16000000→dN K ι Hb b' (.dK ((mQ ks k).zip (if k∈ks then List.zipWith (fun k' v'=>if k'=k then vr else v') ks vs else vs++[vr])))→Cg (.ref a) vi vr H Q:=fun {ks vs k} e0 hl e1 hz hu=>
  .inr ⟨a,_,rfl,.inl ⟨_,k,by rw[← e0];exact h1,e1,by rw[b0u,← hl,b0r,a0E];omega,rfl⟩,p _ ⟨Hb,ι,by rw[abW hl];exact C.put ho hb hu fun z hz=>by rw[h1,e0] at hz;cases hz;rfl⟩⟩
 unfold vG at hs
 split at hs
 ·obtain⟨j,hj,rfl⟩:=a0b.mp hs
  obtain⟨xs,e0,q⟩:=h2
  exact lst e0 hi (by rw[← q.len];exact hj) ⟨_,rfl,q.set j hr⟩
 ·obtain⟨j,hj,rfl⟩:=a0b.mp hs
  obtain⟨xs,e0,q⟩:=h2
  exact lst e0 hi (by rw[← Paired.length q];exact hj) ⟨_,rfl,bA.set (x:=.o _) q hr j⟩
 ·obtain⟨j,hj,rfl⟩:=a0b.mp hs
  obtain⟨xs,e0,q⟩:=h2
  exact lst e0 hi (by rw[← Paired.length q];exact hj) ⟨_,rfl,bA.set (x:=.d _) q hr j⟩
 ·obtain⟨k,hk,hs⟩:=a0a.mp hs
  obtain⟨hz,rfl⟩:=ite_some hs
  obtain⟨vs,e0,hl,q⟩:=h2
  have hi:Rp K Hb _ vi:=hi
  rw[ql hk] at hi
  exact aV e0 hl (tK hi) hz ⟨_,rfl,Fw hl,acS q hr⟩
 ·obtain⟨k,hk,hs⟩:=a0a.mp hs
  obtain⟨hz,rfl⟩:=ite_some hs
  obtain⟨vs,e0,hl,q⟩:=h2
  have hi:Rp K Hb _ vi:=hi
  rw[ql hk] at hi
  exact aV e0 hl (tK hi) hz ⟨_,rfl,Fw hl,N8 (yg q) hr⟩
 ·obtain⟨k,hk,hs⟩:=a0a.mp hs
  obtain⟨hz,rfl⟩:=ite_some hs
  obtain⟨vs,e0,hl,q⟩:=h2
  have hi:Rp K Hb _ vi:=hi
  rw[ql hk] at hi
  exact aV e0 hl (tK hi) hz ⟨_,rfl,Fw hl,N8 q hr⟩
 ·obtain⟨k,hk,hs⟩:=a0a.mp hs
  obtain⟨hz,rfl⟩:=ite_some hs
  obtain⟨vs,e0,hl,q⟩:=h2
  have hi:Rp K Hb _ vi:=hi
  rw[ql hk] at hi
  exact aV e0 hl (tK hi) hz ⟨_,rfl,Fw hl,N8 q hr⟩
 ·cases hs
theorem pq (ho:XE K W to fo) (hi:XE K W ti fi):XG K W (gSub to ti Cg) (gS fo fi):=fun A st σ H ts r v C Q y hy p=>by
 rcases dI hy with ⟨o,s1,h1,h2⟩|⟨x,s1,h1,rfl⟩
 ·refine ho A st σ H _ C _ _ h1 fun vo H1 C1=>?_
  rcases dI h2 with ⟨i,s2,h3,h4⟩|⟨x,s2,h3,rfl⟩
  ·refine hi A s1 σ H1 _ C1 _ _ h3 fun vi H2 ⟨Hb,ι,C2⟩=>?_
   obtain⟨b,hb,h5⟩:=a0a.mp h4
   obtain⟨b',hb',rfl⟩:=a0b.mp h5
   exact ad1 (C2.temps (ts':=ts) fun q hq=>C2.tmp q (by simp[hq])) (C2.tmp (rt K σ o vo) (by simp)) (C2.tmp (rt K σ i vi) (by simp)) (C2.tmp (rt K σ r v) (by simp)) hb hb' fun H3 C3=>p σ H3 C3
  ·exact hi A s1 σ H1 _ C1 _ _ h3 fun cls d H2 X=>p cls d H2 X.drop.drop
 ·exact ho A st σ H _ C _ _ h1 fun cls d H2 X=>p cls d H2 X.drop
def vK (i:Nat):M R:=fun st=>match st.s[i]? with
 | some (.own b)=>(d8 b).map fun x=>.ok (.d x) ⟨st.s.set i (.v (.d x)),st.h⟩
 | some (.v r)=>some (.ok r st)
 | _=>none
theorem Cf.reset {A:Ac} {s:List Sv} {h:List Ob} {σ:L2.St} {H:Hp} {ts:List Tp} {i:Nat} {r:R} {v:V} (hn:∀j,r≠.w j) (e:σ[i]?=some (some v)) (C:Cf K A ⟨s.set i .no,h⟩ σ H (rt K σ r v::ts)):Cf K A ⟨s.set i (.v r),h⟩ σ H (rt K σ r v::ts):=by
 obtain⟨Hb,ι,C⟩:=C
 have hr:RV K ι Hb r v:=by
  have q:Rt K σ ι Hb r v:=C.tmp (rt K σ r v) (by simp)
  cases r with
  | d x=>exact q
  | o n=>exact q
  | w j=>exact absurd rfl (hn j)
 have C2:=C.yN hr i
 have e1:σ.set i (some v)=σ:=by
  refine a0L fun j=>?_
  rw[a0j]
  by_cases z:i=j
  ·subst z
   rw[a0g rfl,a0g (a0d.mp e).1,e]
  ·rw[a0h z]
 rw[e1] at C2
 simp only[List.set_set] at C2
 exact⟨Hb,ι,C2⟩
theorem Xb {i:Nat}:XE K W (tVar i) (vK i):=fun A st σ H ts C Q y hf p=>by
 unfold vK at hf
 cases q:st.s[i]? with
 | none=>rw[q] at hf;cases hf
 | some sv=>
  rw[q] at hf
  cases sv with
  | no=>cases hf
  | v r=>
   refine ak A st σ H ts C Q y ?_ p
   unfold eV;rw[q];exact hf
  | own b=>
   obtain⟨x,hx,rfl⟩:=a0b.mp hf
   obtain⟨Hb,ι,C⟩:=C
   obtain⟨v,e,CO⟩:=C.take q
   exact⟨v,e,p v H (Cf.reset (fun j z=>nomatch z) e (CO.frz fun ι Hb a u hu hb=>Gr hx hu (Ex.new hb).rl a0r))⟩
def vm (fs:List Str) (f:Str):List Str:=if f∈fs then fs else fs++[f]
def Bt (fs:List Str) (xs:List R) (f:Str) (r:R):List R:=if f∈fs then List.zipWith (fun g x=>if g=f then r else x) fs xs else xs++[r]
def tV (Cs:List Addr) (nm:Str) (fo fv:M R):S:=fun st=>match (fv.bind fun r=>fo.bind fun o st=>(bF st o).bind fun b=>match b with
  | .ins C fs xs=>if C∈Cs∧dX r=true∧fs.length<900∧fs.Nodup then some (Rx.ok () (pG st o (.ins C (vm fs nm) (Bt fs xs nm r)))) else none
  | _=>none) st with
 | some (.ok _ st')=>some (.nx st')
 | some (.ex x st')=>some (.ex x st')
 | none=>none
theorem U4 {f:Str} {v:V}:∀{fs:List Str} {vs:List V},fs.Nodup→fs.length=vs.length→putF f v (fs.zip vs)=(vm fs f).zip (if f∈fs then List.zipWith (fun g x=>if g=f then v else x) fs vs else vs++[v])
 | [],[],_,_=>rfl
 | [],_::_,_,h=>by simp at h
 | _::_,[],_,h=>by simp at h
 | q::fs,w::vs,hn,h=>by
  have h':fs.length=vs.length:=by simpa using h
  obtain⟨n1,n2⟩:=a0Y.mp hn
  have ih:=U4 (f:=f) (v:=v) n2 h'
  show (if q=f then(q,v)::fs.zip vs else(q,w)::putF f v (fs.zip vs))=_
  unfold vm at ih ⊢
  by_cases z:q=f
  ·subst z
   rw[a0g rfl,a0g (a0N ..),a0g (a0N ..)]
   simp only[a0I,a0W,a0w]
   congr 1
   have:List.zipWith (fun g x=>if g=q then v else x) fs vs=vs:=by
    clear ih hn n2 h
    induction fs generalizing vs with
    | nil=>cases vs with|nil=>rfl|cons _ _=>simp at h'
    | cons g fs ih=>
     cases vs with
     | nil=>simp at h'
     | cons u vs=>
      simp only[a0I]
      rw[a0h (fun z=>n1 (by simp[z])),ih _ (by simpa using h') (fun z=>n1 (by simp[z]))]
   rw[this]
  ·rw[a0h z,ih]
   by_cases m:f∈fs
   ·rw[a0g m,a0g m,a0g (a0K _ m),a0g (a0K _ m)]
    simp only[a0I,a0h z,a0w]
   ·have m':f∉q::fs:=fun y=>(a0c.mp y).elim (fun e=>z e.symm) m
    rw[a0h m,a0h m,a0h m',a0h m']
    rfl
theorem acT {fs:List Str} {f:Str} {x:R} {v:V} (hd:RV K ι Hb x v):∀{xs:List R} {vs:List V},bA K ι Hb xs vs→bA K ι Hb (List.zipWith (fun k' d'=>if k'=f then x else d') fs xs) (List.zipWith (fun k' v'=>if k'=f then v else v') fs vs):=by
 induction fs with
 | nil=>intro xs vs _;simp;exact .nil
 | cons q ks ih=>
  intro xs vs r
  cases r with
  | nil=>simp;exact .nil
  | cons a b=>
   simp only[a0I]
   refine .cons ?_ (ih b)
   by_cases z:q=f
   ·rw[a0g z,a0g z];exact hd
   ·rw[a0h z,a0h z];exact a
theorem Gv {Cs:List Addr} {nm:Str} (hC:∀C∈Cs,Cls K C∧NoAttr K C nm) (ho:XE K W to fo) (hv:XE K W tv fv):XS K W (sFld K to tv nm) (tV Cs nm fo fv):=fun A st σ H ts C T y hy p=>by
 unfold tV at hy
 cases e:(fv.bind fun r=>fo.bind fun o st=>(bF st o).bind fun b=>match b with
  | .ins C fs xs=>if C∈Cs∧dX r=true∧fs.length<900∧fs.Nodup then some (Rx.ok () (pG st o (.ins C (vm fs nm) (Bt fs xs nm r)))) else none
  | _=>none) st with
 | none=>rw[e] at hy;cases hy
 | some z=>
  rw[e] at hy
  rcases dI e with ⟨r,s1,h1,h2⟩|⟨x,s1,h1,rfl⟩
  ·refine hv A st σ H ts C _ _ h1 fun v H1 C1=>?_
   rcases dI h2 with ⟨o,s2,h3,h4⟩|⟨x,s2,h3,rfl⟩
   ·refine ho A s1 σ H1 _ C1 _ _ h3 fun vo H2 ⟨Hb,ι,C2⟩=>?_
    obtain⟨b,hb,h5⟩:=a0a.mp h4
    cases b with
    | ins C0 fs xs=>
     obtain⟨⟨hc,hw,hl,hn⟩,rfl⟩:=ite_some h5
     cases hy
     have hr:Rt K σ ι Hb r v:=C2.tmp (rt K σ r v) (by simp)
     have hr':RV K ι Hb r v:=by
      cases r with
      | d x=>exact hr
      | o n=>exact hr
      | w j=>exact absurd hw a0V
     have ho':Rt K σ ι Hb o vo:=C2.tmp (rt K σ o vo) (by simp)
     obtain⟨a,u0,rfl,g1,⟨dx,vs,rfl,hlen,q⟩,_⟩:=C2.at ho' hb
     refine⟨a,C0,dx,_,rfl,g1,(hC _ hc).1,(hC _ hc).2,by rw[b0u,← hlen,b0r];omega,p σ _ ⟨Hb,ι,?_⟩⟩
     rw[U4 hn hlen]
     refine(C2.temps (ts':=ts) fun q hq=>C2.tmp q (by simp[hq])).put ho' hb ⟨dx,_,rfl,?_,?_⟩ (fun z hz=>by rw[g1] at hz;cases hz;rfl)
     ·unfold vm
      by_cases m:nm∈fs
      ·rw[a0g m,a0g m,List.length_zipWith,← hlen,b0r]
      ·rw[a0h m,a0h m];simp[hlen]
     ·unfold Bt
      by_cases m:nm∈fs
      ·rw[a0g m,a0g m];exact acT hr' q
      ·rw[a0h m,a0h m];exact Paired.G3 q hr'
    | _=>cases h5
   ·cases hy
    exact ho A s1 σ H1 _ C1 _ _ h3 fun cls d H2 X=>p cls d σ H2 X.drop
  ·cases hy
   exact hv A st σ H ts C _ _ h1 fun cls d H2 X=>p cls d σ H2 X
end
inductive Rr where
 | d (x:D)|o (n:Nat)|n (b:Ob)
inductive Ot where
 | ret (r:Rr)|exc (x:XD)
abbrev Fn:=List R→List Ob→Option (Ot×List Ob)
def endF:Rs→Option (Ot×List Ob)
 | .nx st=>some (.ret (.d .non),st.h)
 | .rt (.d x) st=>some (.ret (.d x),st.h)
 | .rt (.o n) st=>some (.ret (.o n),st.h)
 | .rt (.w i) st=>match st.s[i]? with
  | some (.own b)=>some (.ret (.n b),st.h)
  | _=>none
 | .rn b st=>some (.ret (.n b),st.h)
 | .ex x st=>some (.exc x,st.h)
 | .bk _=>none
 | .ct _=>none
def qM (n:Nat) (args:List R):List Sv:=args.map .v++List.replicate (n-args.length) .no
def yR (n:Nat) (body:S):Fn:=fun args h=>(body ⟨qM n args,h⟩).bind endF
section
variable (K:PySem.W.Frag)
def QS (H Hb:Hp) (ι:List Addr) (Q:VK) (E:XK):Ot×List Ob→Prop
 | (.ret (.d x),h)=>∀v H2,Cf K ⟨H,Hb,ι⟩ ⟨[],h⟩ [] H2 [rt K [] (.d x) v]→Q v H2
 | (.ret (.o n),h)=>∀v H2,Cf K ⟨H,Hb,ι⟩ ⟨[],h⟩ [] H2 [rt K [] (.o n) v]→Q v H2
 | (.ret (.n b),h)=>∀v H2,fD K ⟨H,Hb,ι⟩ ⟨[],h⟩ [] H2 [] b v→Q v H2
 | (.exc x,h)=>∀cls d H2,XO K ⟨H,Hb,ι⟩ [] x ⟨[],h⟩ cls d [] H2→E cls d H2
def aQ (F:Fn):Sp:=fun vs H Q E=>∃Hb ι args h y,au K ⟨H,Hb,ι⟩ ⟨[],h⟩ [] H [] Hb ι∧bA K ι Hb args vs∧F args h=some y∧QS K H Hb ι Q E y
end
section
variable {K:PySem.W.Frag} {W:WX} {A:Ac} {st:ST} {σ:L2.St} {H H2 Hb bK:Hp} {ts ts':List Tp} {ι bL:List Addr} {te to:TE} {ta:TA} {f fo:M R} {fa:M (List R)} {F:Fn}
theorem au.bare (C:au K A st σ H ts Hb ι):au K A ⟨[],st.h⟩ [] H ts Hb ι:=
 {C with len:=rfl,val:=fun i r h=>by simp at h,own:=fun i b h=>by simp at h,dsl:=fun i j b c a h=>by simp at h}
theorem au.enter (C:au K A st σ H ts Hb ι):au K ⟨H,Hb,ι⟩ ⟨[],st.h⟩ [] H [] Hb ι:=
 {keep:=fun a o h _=>h,eB:=Ex.refl _,bH:=C.bH,ap:=fun a h _=>h,pre:=bJ.refl _,hl:=C.hl,len:=rfl,val:=fun i r h=>by simp at h,obj:=C.obj,own:=fun i b h=>by simp at h,inj:=C.inj,new:=fun a h=>.inl h,dsl:=fun i j b c a h=>by simp at h,tmp:=fun p hp=>nomatch hp}
theorem au.there (C:au K A st σ H ts Hb ι) {a:Addr} (h:A.H a≠none):H a≠none:=by
 by_cases hm:a∈A.ι
 ·obtain⟨n,hn⟩:=a0H (C.pre.mem hm)
  have hlt:n<st.h.length:=by rw[← C.hl];exact(a0d.mp hn).1
  obtain⟨b,u,g1,g2,_⟩:=C.obj n _ (a0e hlt)
  rw[hn] at g1;cases g1
  rw[g2];exact fun z=>nomatch z
 ·cases q:A.H a with
  | none=>exact absurd q h
  | some o=>rw[C.keep a o q (.inl hm)];exact fun z=>nomatch z
theorem au.back {h':List Ob} (C:au K A st σ H ts Hb ι) (C2:au K ⟨H,Hb,ι⟩ ⟨[],h'⟩ [] H2 ts' bK bL) {us:List Tp} (hu:∀p∈us,p.p bL bK):au K A ⟨st.s,h'⟩ σ H2 us bK bL where
 keep:=fun a o e n=>C2.keep a o (C.keep a o e n) (by
  by_cases hm:a∈ι
  ·exact .inr (n.elim (fun n=>(C.new a hm).elim (fun y=>absurd y n) fun y=>y o e) id)
  ·exact .inl hm)
 eB:=C.eB.trans C2.eB
 bH:=C2.bH
 ap:=fun a h1 h2=>C2.ap a (C.ap a h1 h2) (C.there h2)
 pre:=C.pre.trans C2.pre
 hl:=C2.hl
 len:=C.len
 val:=fun i r h=>let ⟨v,e,q⟩:=C.val i r h;⟨v,e,q.mono C2.pre C2.eB.rl⟩
 obj:=C2.obj
 own:=fun i b h=>by
  obtain⟨a,u,e1,e2,e3,e4,e5,e6,e7⟩:=C.own i b h
  have hn:H a≠none:=by rw[e2];exact fun z=>nomatch z
  exact⟨a,u,e1,C2.keep a u e2 (.inl e5),e3.mono C2.pre C2.eB.rl,C2.ap a e4 hn,fun hm=>(C2.new a hm).elim e5 (fun z=>by have:=z u e2;rw[e7] at this;cases this),e6,e7⟩
 inj:=C2.inj
 new:=fun a hm=>by
  rcases C2.new a hm with q|q
  ·exact C.new a q
  ·by_cases hA:a∈A.ι
   ·exact .inl hA
   ·exact .inr fun o e=>q o (C.keep a o e (.inl hA))
 dsl:=C.dsl
 tmp:=hu
theorem au.afy {h':List Ob} {b:Ob} {v:V} (C:au K A st σ H ts Hb ι) (C2:fD K ⟨H,Hb,ι⟩ ⟨[],h'⟩ [] H2 [] b v):fD K A ⟨st.s,h'⟩ σ H2 ts b v:=by
 obtain⟨bK,bL,a,u,C2,rfl,h1,h2,h3,h4,h5,hz,_⟩:=C2
 refine⟨bK,bL,a,u,C.back C2 fun p hp=>p.m _ _ _ _ C2.pre C2.eB.rl (C.tmp p hp),rfl,h1,h2,h3,h4,a0R fun z=>C.there z h5,hz,fun i c hc e=>?_⟩
 obtain⟨a',u',e1,e2,_⟩:=C.own i c hc
 rw[e] at e1;cases e1
 have h5:H a=none:=h5
 rw[e2] at h5;cases h5
theorem au.Xc {h':List Ob} {x:XD} {cls:Value} {d:Option Addr} (C:au K A st σ H ts Hb ι) (X:XO K ⟨H,Hb,ι⟩ [] x ⟨[],h'⟩ cls d [] H2):XO K A ts x ⟨st.s,h'⟩ cls d σ H2:=by
 obtain⟨bK,bL,dd,vs,C2,h1,h2,h3,h4,h5,h6,h7⟩:=X
 exact⟨bK,bL,dd,vs,C.back C2 fun p hp=>p.m _ _ _ _ C2.pre C2.eB.rl (C.tmp p hp),h1,h2,h3,h4,h5,a0R fun z=>C.there z h6,h7⟩
theorem N_ {N:List Str} {args:List R} {vs:List V} {h:List Ob} (C:au K ⟨H,Hb,ι⟩ ⟨[],h⟩ [] H [] Hb ι) (r:bA K ι Hb args vs):au K ⟨H,Hb,ι⟩ ⟨qM N.length args,h⟩ (L2.start N vs) H [] Hb ι:=by
 have at_:∀{i:Nat} {s:Sv},(qM N.length args)[i]?=some s→s=.no∨∃x,args[i]?=some x∧s=.v x:=fun {i s} h=>by
  unfold qM at h
  by_cases q:i<args.length
  ·rw[a0u (by simpa using q),a0p] at h
   cases z:args[i]? with
   | none=>rw[z] at h;cases h
   | some e=>rw[z] at h;cases h;exact .inr ⟨e,rfl,rfl⟩
  ·rw[a0t (by simpa using q),b0v] at h
   split at h
   ·cases h;exact .inl rfl
   ·cases h
 refine {C with len:=?_,val:=fun i x h=>?_,own:=fun i b h=>?_,dsl:=fun i j b c a h=>?_}
 ·unfold qM L2.start;simp[Paired.length r]
 ·rcases at_ h with z|⟨y,e,z⟩
  ·cases z
  ·cases z
   obtain⟨v,hv,rv⟩:=bA.get r e
   exact⟨v,abS hv,rv⟩
 ·rcases at_ h with z|⟨y,e,z⟩<;>cases z
 ·rcases at_ h with z|⟨y,e,z⟩<;>cases z
theorem fnF {P:Program} {w:World} {mg:Str→Option Value} {base:Heap} {nm qual:Str} {st:Stmt} {f:Addr} {fd:FuncData} {N ps:List Str} {k:Nat} {g:S} (F:fX K nm qual st f fd) (sc:FnScope N ps (defScope st)) (F':Fn) (hF:∀args h y,F' args h=some y→args.length=ps.length∧yR N.length g args h=some y)
  (hbody:∀(cdv:Value) (A:Around) (outer:List Env) (s:Shared) (H:Hp) (aY:XK),Room k (A.deeper (envOfC qual (defScope st) s.heap.objs.size f cdv))→
   ∃t,PSs (cxOf (L2.CX P w) P w K mg base N qual (defScope st) f cdv A outer s H aY) (defBody st) t∧XS K (fun cls d _ H=>aY cls d H) t g) :
  FnOk P w K mg base (L2.CX P w) (k+1) f fd ps (aQ K F'):=by
 refine F.okX sc (fun vs H Q aY h=>?_) fun cdv A outer s H vs Q aY hr h=>?_
 ·obtain⟨Hb,ι,args,h,y,C,r,e,_⟩:=h
  rw[← Paired.length r];exact(hF args h y e).1
 ·obtain⟨Hb,ι,args,h,y,C,r,e,p⟩:=h
  obtain⟨t,ht,hx⟩:=hbody cdv A outer s H aY hr
  refine⟨t,ht,?_⟩
  obtain⟨z,hz,ez⟩:=a0a.mp (hF args h y e).2
  refine hx ⟨H,Hb,ι⟩ _ _ H [] ⟨Hb,ι,N_ C r⟩ _ z hz ?_
  cases z with
  | nx st=>cases ez;exact fun σ H2 ⟨bK,bL,C2⟩=>p .non H2 ⟨bK,bL,C2.bare.temps fun q hq=>by rw[a0s.mp hq];show Rp K _ _ _;unfold Rp;rfl⟩
  | rn b st=>
   cases ez
   intro σ v H2 C2
   obtain⟨bK,bL,a,u,C2,h1,h2,h3,h4,h5,h6,hz,_⟩:=C2
   exact p v H2 ⟨bK,bL,a,u,C2.bare,h1,h2,h3,h4,h5,h6,hz,fun i c h=>by simp at h⟩
  | bk st=>cases ez
  | ct st=>cases ez
  | ex x st=>
   cases ez
   intro cls d σ H2 X
   obtain⟨bK,bL,dd,vs',C2,rr⟩:=X
   exact p cls d H2 ⟨bK,bL,dd,vs',C2.bare,rr⟩
  | rt r st=>
   intro σ v H2 ⟨bK,bL,C2⟩
   have hv:Rt K σ bL bK r v:=C2.tmp (rt K σ r v) (by simp)
   cases r with
   | d x=>cases ez;exact p v H2 ⟨bK,bL,C2.bare.temps fun q hq=>by rw[a0s.mp hq];exact hv⟩
   | o n=>cases ez;exact p v H2 ⟨bK,bL,C2.bare.temps fun q hq=>by rw[a0s.mp hq];exact hv⟩
   | w i=>
    simp only[endF] at ez
    cases q:st.s[i]? with
    | none=>rw[q] at ez;cases ez
    | some sv=>
     rw[q] at ez
     cases sv with
     | no=>cases ez
     | v r=>cases ez
     | own b=>
      cases ez
      obtain⟨v',e',CO⟩:=C2.take q
      have hv:σ[i]?=some (some v):=hv
      rw[hv] at e';cases e'
      obtain⟨iZ,jo,a,u,C3,h1,h2,h3,h4,h5,h6,hz,_⟩:=CO
      refine p v H2 ⟨iZ,jo,a,u,C3.bare.temps (ts':=[]) (fun q hq=>?_),h1,h2,h3,h4,h5,h6,hz,fun i c h=>?_⟩
      ·cases hq
      ·simp at h
def ig (F:Fn) (rs:List R):M R:=fun st=>if rs.all dX then(match F rs st.h with
 | some (.ret (.d x),h)=>some (.ok (.d x) ⟨st.s,h⟩)
 | some (.ret (.o n),h)=>some (.ok (.o n) ⟨st.s,h⟩)
 | some (.exc x,h)=>some (.ex x ⟨st.s,h⟩)
 | _=>none) else none
def Bu (F:Fn) (rs:List R):M Ob:=fun st=>if rs.all dX then(match F rs st.h with
 | some (.ret (.n b),h)=>some (.ok b ⟨st.s,h⟩)
 | some (.exc x,h)=>some (.ex x ⟨st.s,h⟩)
 | _=>none) else none
theorem Oa {rs:List R} {vs:List V} {Q:VK} {y:Rx R} (C:au K A st σ H ts Hb ι) (r:Paired (fun r v=>Rt K σ ι Hb r v) rs vs) (e:ig F rs st=some y) (p:QL K W A σ ts Q y):aQ K F vs H Q (WE W σ):=by
 unfold ig at e
 by_cases hw:rs.all dX=true
 ·rw[a0g hw] at e
  cases q:F rs st.h with
  | none=>rw[q] at e;cases e
  | some z=>
   refine⟨Hb,ι,rs,st.h,z,C.enter,Ge hw r,q,?_⟩
   rw[q] at e
   obtain⟨o,h'⟩:=z
   cases o with
   | exc x=>cases e;exact fun cls d H2 X=>p cls d H2 (C.Xc X)
   | ret rr=>
    cases rr with
    | d x=>cases e;exact fun v H2 ⟨bK,bL,C2⟩=>p v H2 ⟨bK,bL,C.back C2 fun q hq=>(a0c.mp hq).elim (fun e=>by rw[e];exact C2.tmp (rt K [] (.d x) v) (by simp)) fun hq=>q.m _ _ _ _ C2.pre C2.eB.rl (C.tmp q hq)⟩
    | o n=>cases e;exact fun v H2 ⟨bK,bL,C2⟩=>p v H2 ⟨bK,bL,C.back C2 fun q hq=>(a0c.mp hq).elim (fun e=>by rw[e];exact C2.tmp (rt K [] (.o n) v) (by simp)) fun hq=>q.m _ _ _ _ C2.pre C2.eB.rl (C.tmp q hq)⟩
    | n b=>cases e
 ·rw[a0h hw] at e;cases e
theorem abY {rs:List R} {vs:List V} {Q:VK} {y:Rx Ob} (C:au K A st σ H ts Hb ι) (r:Paired (fun r v=>Rt K σ ι Hb r v) rs vs) (e:Bu F rs st=some y) (p:Yj K W A σ ts Q y):aQ K F vs H Q (WE W σ):=by
 unfold Bu at e
 by_cases hw:rs.all dX=true
 ·rw[a0g hw] at e
  cases q:F rs st.h with
  | none=>rw[q] at e;cases e
  | some z=>
   refine⟨Hb,ι,rs,st.h,z,C.enter,Ge hw r,q,?_⟩
   rw[q] at e
   obtain⟨o,h'⟩:=z
   cases o with
   | exc x=>cases e;exact fun cls d H2 X=>p cls d H2 (C.Xc X)
   | ret rr=>
    cases rr with
    | d x=>cases e
    | o n=>cases e
    | n b=>cases e;exact fun v H2 C2=>p v H2 (C.afy C2)
 ·rw[a0h hw] at e;cases e
def lB (F:Fn) (fa:M (List R)):M R:=fa.bind (ig F)
theorem x_call (ha:XA K W ta fa):XE K W (tCallS (aQ K F) (WE W) ta) (lB F fa):=fun A st σ H ts C Q y hy p=>by
 rcases dI hy with ⟨rs,s1,h1,h2⟩|⟨x,s1,h1,rfl⟩
 ·exact ha A st σ H ts C _ _ h1 fun vs H1 ⟨Hb,ι,C1⟩=>Oa (C1.temps (ts':=ts) fun q hq=>C1.tmp q (by simp[hq])) (C1.tmp (jk K σ rs vs) (by simp)) h2 p
 ·exact ha A st σ H ts C _ _ h1 p
def jK (C:Addr) (m:Str) (F:Fn) (fo:M R) (fa:M (List R)):M Ob:=fo.bind fun o st1=>match inV st1 o with
 | some (C',fs,_)=>if C'=C∧m∉fs then(fa.bind fun rs=>Bu F (o::rs)) st1 else none
 | none=>none
theorem pH {Cc:Addr} {m:Str} (ho:XE K W to fo) (ha:XA K W ta fa):XN K W (BR Cc m (aQ K F) (WE W) to ta) (jK Cc m F fo fa):=fun A st σ H ts C Q y hy p=>by
 rcases dI hy with ⟨o,s1,h1,h2⟩|⟨x,s1,h1,rfl⟩
 ·refine ho A st σ H ts C _ _ h1 fun v H1 C1=>?_
  obtain⟨fU,gq,tU⟩:=id C1
  cases q:AL.inV s1 o with
  | none=>simp only[q] at h2;cases h2
  | some c=>
   obtain⟨C',fs,xs⟩:=c
   simp only[q] at h2
   by_cases hc:C'=Cc∧m∉fs
   ·rw[a0g hc] at h2
    obtain⟨rfl,hm⟩:=hc
    obtain⟨a,dx,vs0,rfl,g1,g2,g3⟩:=tU.inV (tU.tmp (rt K σ o v) (by simp)) q
    refine⟨a,dx,_,rfl,g1,Tj hm,?_⟩
    rcases dI h2 with ⟨rs,s2,h3,h4⟩|⟨x,s2,h3,rfl⟩
    ·exact ha A s1 σ H1 _ C1 _ _ h3 fun vs H2 ⟨Hb,ι,C2⟩=>abY (C2.temps (ts':=ts) fun q hq=>C2.tmp q (by simp[hq])) (.cons (C2.tmp (rt K σ o (.ref a)) (by simp)) (C2.tmp (jk K σ rs vs) (by simp))) h4 p
    ·exact ha A s1 σ H1 _ C1 _ _ h3 fun cls d H2 X=>p cls d H2 X.drop
   ·rw[a0h hc] at h2;cases h2
 ·exact ho A st σ H ts C _ _ h1 p
def Ig (C:Addr) (F:Fn) (fo:M R) (fa:M (List R)):M R:=fo.bind fun o st1=>match inV st1 o with
 | some _=>(fa.bind fun rs st=>match inV st o with
  | some (C',_,_)=>if C'=C then ig F (o::rs) st else none
  | none=>none) st1
 | none=>none
theorem agx {Cc:Addr} (ho:XE K W to fo) (ha:XA K W ta fa):XE K W (Xu Cc (aQ K F) (WE W) to ta) (Ig Cc F fo fa):=fun A st σ H ts C Q y hy p=>by
 rcases dI hy with ⟨o,s1,h1,h2⟩|⟨x,s1,h1,rfl⟩
 ·refine ho A st σ H ts C _ _ h1 fun v H1 C1=>?_
  obtain⟨fU,gq,tU⟩:=id C1
  cases q1:AL.inV s1 o with
  | none=>simp only[q1] at h2;cases h2
  | some c1=>
   simp only[q1] at h2
   obtain⟨a,dx1,vs1,rfl,_⟩:=tU.inV (tU.tmp (rt K σ o v) (by simp)) q1
   refine⟨a,rfl,?_⟩
   rcases dI h2 with ⟨rs,s2,h3,h4⟩|⟨x,s2,h3,rfl⟩
   ·refine ha A s1 σ H1 _ C1 _ _ h3 fun vs H2 ⟨Hb,ι,C2⟩=>?_
    cases q:AL.inV s2 o with
    | none=>simp only[q] at h4;cases h4
    | some c=>
     obtain⟨C',fs,xs⟩:=c
     simp only[q] at h4
     by_cases hc:C'=Cc
     ·rw[a0g hc] at h4
      subst hc
      obtain⟨a',dx,vs0,e,g1,g2,g3⟩:=C2.inV (C2.tmp (rt K σ o (.ref a)) (by simp)) q
      cases e
      exact⟨⟨dx,_,g1⟩,Oa (C2.temps (ts':=ts) fun q hq=>C2.tmp q (by simp[hq])) (.cons (C2.tmp (rt K σ o (.ref a)) (by simp)) (C2.tmp (jk K σ rs vs) (by simp))) h4 p⟩
     ·rw[a0h hc] at h4;cases h4
   ·exact ha A s1 σ H1 _ C1 _ _ h3 fun cls d H2 X=>p cls d H2 X.drop
 ·exact ho A st σ H ts C _ _ h1 p
end
section
variable {K:PySem.W.Frag} {W:WX} {A:Ac} {st:ST} {σ:L2.St} {H H0 H1 Hb wj fU:Hp} {ts zm:List Tp} {ι dM gq:List Addr} {te to:TE} {ta:TA} {f fo:M R} {fa:M (List R)} {F:Fn}
theorem RV.lower {x:R} {v0 v:V} (h0:RV K dM wj x v0) (h1:RV K gq fU x v) (p:bJ dM gq):RV K dM fU x v:=by
 cases x with
 | d x=>exact h1
 | w i=>exact h1
 | o n=>
  obtain⟨a,e,_⟩:=h0
  obtain⟨a',e',rfl⟩:=h1
  rw[p.get e] at e';cases e'
  exact⟨a,e,rfl⟩
theorem bA.lower:∀{xs:List R} {vs0 vs:List V},bA K dM wj xs vs0→bA K gq fU xs vs→bJ dM gq→bA K dM fU xs vs
 | [],_,_,_,.nil,_=>.nil
 | x::xs,_,_,.cons a0 b0,.cons a b,p=>.cons (a0.lower a p) (bA.lower b0 b p)
theorem dN.lower {b:Ob} {u0 u:HO} (h0:dN K dM wj b u0) (h1:dN K gq fU b u) (p:bJ dM gq):dN K dM fU b u:=by
 cases b with
 | lst ds=>exact h1
 | aV ks ds=>exact h1
 | dct ks ds=>exact h1
 | iD ks ds=>exact h1
 | vW ks ds=>exact h1
 | bW xs=>obtain⟨_,_,q0⟩:=h0;obtain⟨vs,e,q⟩:=h1;exact⟨vs,e,bA.lower q0 q p⟩
 | lO ks xs=>obtain⟨_,_,_,_,q0⟩:=h0;obtain⟨od,vs,e,l,q⟩:=h1;exact⟨od,vs,e,l,bA.lower q0 q p⟩
 | cQ ks xs=>obtain⟨_,_,_,q0⟩:=h0;obtain⟨vs,e,l,q⟩:=h1;exact⟨vs,e,l,bA.lower q0 q p⟩
 | dn w ks xs=>obtain⟨_,_,_,_,_,_,_,q0⟩:=h0;obtain⟨b,vs,cP,e,l,n,l2,q⟩:=h1;exact⟨b,vs,cP,e,l,n,l2,bA.lower q0 q p⟩
 | vX w ks xs=>obtain⟨_,_,_,_,_,_,_,_,q0⟩:=h0;obtain⟨od,b,vs,cP,e,l,n,l2,q⟩:=h1;exact⟨od,b,vs,cP,e,l,n,l2,bA.lower q0 q p⟩
 | ins C fs xs=>obtain⟨_,_,_,_,q0⟩:=h0;obtain⟨dx,vs,e,l,q⟩:=h1;exact⟨dx,vs,e,l,bA.lower q0 q p⟩
theorem au.pop {s:List Sv} {h t:List Ob} (C0:au K A ⟨s,h⟩ σ H0 ts wj dM) (C1:au K A ⟨s,h++t⟩ σ H1 zm fU gq) (p:bJ dM gq) (ht:∀q∈ts,q.p gq fU):au K A ⟨s,h⟩ σ H1 ts fU dM where
 keep:=C1.keep
 eB:=C1.eB
 bH:=C1.bH
 ap:=C1.ap
 pre:=C0.pre
 hl:=C0.hl
 len:=C0.len
 val:=fun i r e=>by
  obtain⟨v,a,b⟩:=C0.val i r e
  obtain⟨v',a',b'⟩:=C1.val i r e
  rw[a] at a';cases a'
  exact⟨v,a,b.lower b' p⟩
 obj:=fun n b e=>by
  obtain⟨a0,u0,e1,e2,e3,e4⟩:=C0.obj n b e
  have hn:n<h.length:=(a0d.mp e).1
  obtain⟨a,u,g1,g2,g3,g4⟩:=C1.obj n b (by show (h++t)[n]?=_;rw[a0u hn];exact e)
  rw[p.get e1] at g1;cases g1
  exact⟨_,u,e1,g2,e3.lower g3 p,g4⟩
 own:=fun i b e=>by
  obtain⟨a0,u0,e1,e2,e3,e4,e5,e6⟩:=C0.own i b e
  obtain⟨a,u,g1,g2,g3,g4,g5,g6⟩:=C1.own i b e
  exact⟨a,u,g1,g2,e3.lower g3 p,g4,fun z=>g5 (p.mem z),g6⟩
 inj:=C0.inj
 new:=C0.new
 dsl:=C0.dsl
 tmp:=fun q hq=>q.l _ _ _ _ p (C0.tmp q hq) (ht q hq)
theorem au.agy {s:List Sv} {h t:List Ob} {b:Ob} {d:D} (C0:au K A ⟨s,h⟩ σ H0 ts wj dM) (C1:au K A ⟨s,h++b::t⟩ σ H1 zm fU gq) (p:bJ dM gq) (ht:∀q∈ts,q.p gq fU) (hd:d8 b=some d) (hz:∀u,dN K gq fU b u→mU u=false) {v:V} (hv:Rt K σ gq fU (.o h.length) v):Cf K A ⟨s,h⟩ σ H1 (rt K σ (.d d) v::ts):=by
 obtain⟨a,e,rfl⟩:=hv
 obtain⟨a',u,g1,g2,g3,g4⟩:=C1.obj h.length b (by show (h++b::t)[h.length]?=_;rw[a0t (a0v _),b0i];rfl)
 rw[e] at g1;cases g1
 have C2:=au.pop C0 C1 p ht
 have hl:dM.length=h.length:=C0.hl
 have n0:a∉dM:=fun z=>by
  obtain⟨m,hm⟩:=a0H z
  have:=Fo C1.inj (p.get hm) e
  have:=(a0d.mp hm).1
  omega
 have key:fD K A ⟨s,h⟩ σ H1 ts b (.ref a):=by
  refine⟨fU,dM,a,u,C2,rfl,g2,?_,g4,n0,?_,hz u g3,fun i c hc z=>?_⟩
  ·have low:∀{xs:List R} {ds:List D} {vs:List V},cZ xs=some ds→bA K gq fU xs vs→bA K dM fU xs vs:=fun {xs ds vs} q r=>by
    have:=yg (ι:=dM) (sH q r)
    have e:xs=ds.map R.d:=by
     clear this r
     induction xs generalizing ds with
     | nil=>cases q;rfl
     | cons x xs ih=>
      cases x with
      | d x=>
       unfold cZ at q
       cases q2:cZ xs with
       | none=>rw[q2] at q;cases q
       | some es=>rw[q2] at q;cases q;rw[ih q2];rfl
      | o n=>cases q
      | w i=>cases q
    rw[e];exact this
   cases b with
   | lst ds=>exact g3
   | aV ks ds=>exact g3
   | dct ks ds=>exact g3
   | iD ks ds=>exact g3
   | vW ks ds=>exact g3
   | bW xs=>simp only[d8] at hd;obtain⟨ds,q,_⟩:=a0b.mp hd;obtain⟨vs,e,r⟩:=g3;exact⟨vs,e,low q r⟩
   | lO ks xs=>simp only[d8] at hd;obtain⟨ds,q,_⟩:=a0b.mp hd;obtain⟨od,vs,e,l,r⟩:=g3;exact⟨od,vs,e,l,low q r⟩
   | cQ ks xs=>simp only[d8] at hd;obtain⟨ds,q,_⟩:=a0b.mp hd;obtain⟨vs,e,l,r⟩:=g3;exact⟨vs,e,l,low q r⟩
   | dn w ks xs=>simp only[d8] at hd;obtain⟨ds,q,_⟩:=a0b.mp hd;obtain⟨b,vs,cP,e,l,n,l2,r⟩:=g3;exact⟨b,vs,cP,e,l,n,l2,low q r⟩
   | vX w ks xs=>simp only[d8] at hd;obtain⟨ds,q,_⟩:=a0b.mp hd;obtain⟨od,b,vs,cP,e,l,n,l2,r⟩:=g3;exact⟨od,b,vs,cP,e,l,n,l2,low q r⟩
   | ins C fs xs=>simp only[d8] at hd;obtain⟨ds,q,_⟩:=a0b.mp hd;obtain⟨dx,vs,e,l,r⟩:=g3;exact⟨dx,vs,e,l,low q r⟩
  ·rcases C1.new a (a0l e) with z|z
   ·exact absurd (C0.pre.mem z) n0
   ·cases hA:A.H a with
    | none=>rfl
    | some o=>
     have q:=z o hA
     have:=C1.keep a o hA (.inr q)
     rw[g2] at this;cases this
     rw[hz u g3] at q;cases q
  ·obtain⟨a',u',q1,_,_,_,q5,_⟩:=C1.own i c hc
   rw[z] at q1;cases q1
   exact q5 (a0l e)
 exact key.frz fun ι Hb a u hu hb=>Gr hd hu (Ex.new hb).rl a0r
end
open Classical in
noncomputable def popS (st st2:ST):ST:=if st2.h.take st.h.length=st.h then⟨st2.s,st.h⟩ else st2
theorem abZ (s s':List Sv) (h t:List Ob):popS ⟨s,h⟩ ⟨s',h++t⟩=⟨s',h⟩:=by
 unfold popS;rw[a0g (by simp)]
def Ck (b:Ob):Option D:=match b with
 | .ins _ _ _=>d8 b
 | _=>none
open Classical in
noncomputable def iI (C:Addr) (F:Fn) (dv:List D) (fa:M (List R)):M R:=fa.bind fun rs st=>match ig F (.o st.h.length::(rs++dv.map .d)) ⟨st.s,st.h++[.ins C [] []]⟩ with
 | some (.ok (.d .non) st2)=>if st2.h.take st.h.length=st.h then((st2.h[st.h.length]?).bind Ck).map fun x=>.ok (.d x) st else none
 | some (.ex x st2)=>some (.ex x (popS st st2))
 | _=>none
section
variable {K:PySem.W.Frag} {W:WX} {te to:TE} {ta:TA} {f fo:M R} {fa:M (List R)} {F:Fn}
theorem acU {rs:List R} {st st2:ST} {r:R} (h:ig F rs st=some (.ok r st2)):st2.s=st.s:=by
 unfold ig at h
 split at h
 ·split at h<;>cases h<;>rfl
 ·cases h
theorem ab0 {rs:List R} {st st2:ST} {x:XD} (h:ig F rs st=some (.ex x st2)):st2.s=st.s:=by
 unfold ig at h
 split at h
 ·split at h<;>cases h<;>rfl
 ·cases h
theorem U5 {P:R→V→Prop}:∀{xs ys:List R} {vs us:List V},Paired P xs vs→Paired P ys us→Paired P (xs++ys) (vs++us)
 | [],_,_,_,.nil,h=>h
 | _::_,_,_,_,.cons a b,h=>.cons a (U5 b h)
theorem Vy {σ:L2.St} {ι:List Addr} {Hb:Hp}:∀{ds:List D} {vs:List V},aq K Hb ds vs→Paired (fun r v=>Rt K σ ι Hb r v) (ds.map .d) vs
 | [],vs,h=>by rw[aq.qI h];exact .nil
 | d::ds,vs,h=>by
  obtain⟨v,t,rfl,p,q⟩:=aq.qG h
  exact .cons p (Vy q)
theorem Fx {h h2:List Ob} (e:h2.take h.length=h):∃t,h2=h++t:=⟨h2.drop h.length,by conv=>lhs;rw[← List.take_append_drop h.length h2,e]⟩
def tW (dM:List Addr):Tp:=⟨fun ι _=>bJ dM ι,fun _ _ _ _ p _ h=>h.trans p,fun _ _ _ _ _ h _=>h⟩
theorem XO.popS {A:Ac} {st:ST} {σ:L2.St} {H0:Hp} {ts zm:List Tp} {wj:Hp} {dM:List Addr} {x:XD} {st2:ST} {cls:Value} {d:Option Addr} {H2:Hp} (C0:au K A st σ H0 ts wj dM) (es:st2.s=st.s) (hp:tW dM∈zm) (X:XO K A (zm++ts) x st2 cls d σ H2):XO K A ts x (popS st st2) cls d σ H2:=by
 unfold AL.popS
 by_cases e:st2.h.take st.h.length=st.h
 ·rw[a0g e]
  obtain⟨t,et⟩:=Fx e
  obtain⟨Hb,ι,dd,vs,C,h1,h2,h3,h4,h5,h6,h7⟩:=X
  have q1:bJ dM ι:=C.tmp (tW dM) (by simp[hp])
  have q2:∀q∈ts,q.p ι Hb:=fun q hq=>C.tmp q (by simp[hq])
  obtain⟨s2,h2'⟩:=st2
  cases es
  cases et
  exact⟨Hb,dM,dd,vs,au.pop C0 C q1 q2,h1,h2,h3,h4,h5,h6,h7⟩
 ·rw[a0h e];exact X.temps fun p hp=>by simp[hp]
theorem ad2 {A:Ac} {st:ST} {σ:L2.St} {H:Hp} {ts:List Tp} {Hb:Hp} {ι:List Addr} {Cc:Addr} {dv:List D} {dvs:List V} {rs:List R} {vs:List V} {Q:VK} {y:Rx R} (hd:∀Hb,aq K Hb dv dvs) (C:au K A st σ H ts Hb ι) (r:Paired (fun r v=>Rt K σ ι Hb r v) rs vs)
  {x dx:Addr} (hx:H x=none) (hdx:H dx=none) (hne:dx≠x) (e:ig F (.o st.h.length::(rs++dv.map .d)) ⟨st.s,st.h++[.ins Cc [] []]⟩=some y) (p:QL K W A σ (rt K σ (.o st.h.length) (.ref x)::tW ι::ts) Q y) :
  aQ K F (.ref x::(vs++dvs)) (upd (upd H dx (.own x)) x (.ins Cc dx [])) Q (WE W σ):=by
 have C1:au K A st σ (upd H dx (.own x)) (jk K σ rs vs::tW ι::ts) Hb ι:=(C.O9 (Ex.new hdx) (Ex.refl _) (C.bH.trans (Ex.new hdx)) (fun a h1 h2=>absurd h1 h2)).temps fun q hq=>by
  rcases a0c.mp hq with rfl|hq
  ·exact r
  ·rcases a0c.mp hq with rfl|hq
   ·exact bJ.refl _
   ·exact C.tmp q hq
 have C2:fD K A st σ (upd (upd H dx (.own x)) x (.ins Cc dx [])) (jk K σ rs vs::tW ι::ts) (.ins Cc [] []) (.ref x):=C1.made (by rw[a0n (Ne.symm hne)];exact hx) ⟨dx,[],rfl,rfl,.nil⟩
 obtain⟨iZ,jo,C3⟩:=C2.Xv
 refine Oa (rs:=.o st.h.length::(rs++dv.map .d)) (C3.temps (ts':=rt K σ (.o st.h.length) (.ref x)::tW ι::ts) fun q hq=>C3.tmp q ?_) (.cons (C3.tmp (rt K σ (.o st.h.length) (.ref x)) (by simp)) (U5 (C3.tmp (jk K σ rs vs) (by simp)) (Vy (hd iZ)))) e p
 rcases a0c.mp hq with h|h
 ·simp[h]
 ·rcases a0c.mp h with h|h<;>simp[h]
theorem jU {Cc:Addr} {dv:List D} {dvs:List V} (hd:∀Hb,aq K Hb dv dvs) (ha:XA K W ta fa):XE K W (Xr Cc (aQ K F) dvs (WE W) ta) (iI Cc F dv fa):=fun A st σ H ts C Q y hy p=>by
 rcases dI hy with ⟨rs,s1,h1,h2⟩|⟨x,s1,h1,rfl⟩
 ·refine ha A st σ H ts C _ _ h1 fun vs H1 ⟨Hb,ι,C1⟩ x dx hx hdx hne=>?_
  have C2:au K A s1 σ H1 ts Hb ι:=C1.temps fun q hq=>C1.tmp q (by simp[hq])
  cases e:ig F (.o s1.h.length::(rs++dv.map .d)) ⟨s1.s,s1.h++[.ins Cc [] []]⟩ with
  | none=>simp only[e] at h2;cases h2
  | some z=>
   refine ad2 hd C2 (C1.tmp (jk K σ rs vs) (by simp)) hx hdx hne e ?_
   simp only[e] at h2
   cases z with
   | ex x' s2=>
    cases h2
    have es:=ab0 e
    simp only at es
    exact fun cls d H2 X=>p cls d H2 (XO.popS (zm:=[rt K σ (.o s1.h.length) (.ref x),tW ι]) C2 es (by simp) X)
   | ok r s2=>
    cases r with
    | o n=>cases h2
    | w i=>cases h2
    | d dd=>
     cases dd<;>first|cases h2;done|skip
     obtain⟨ht,h3⟩:s2.h.take s1.h.length=s1.h∧((s2.h[s1.h.length]?).bind Ck).map (fun x=>Rx.ok (R.d x) s1)=some y:=by
      by_cases q:s2.h.take s1.h.length=s1.h
      ·simp only[q,a0W] at h2;exact⟨q,h2⟩
      ·simp only[q,if_false] at h2;cases h2
     obtain⟨xd,hxd,rfl⟩:=a0b.mp h3
     obtain⟨b,hb,hob⟩:=a0a.mp hxd
     intro v H2 ⟨bK,bL,C3⟩
     refine⟨C3.tmp (rt K σ (.d .non) v) (by simp),p _ H2 ?_⟩
     obtain⟨t,et⟩:=Fx ht
     have es:=acU e
     obtain⟨s2s,s2h⟩:=s2
     obtain⟨s1s,s1h⟩:=s1
     simp only at es et hb
     subst es et
     rw[a0t (a0v _),b0i] at hb
     cases t with
     | nil=>simp at hb
     | cons b' t=>
      have:b'=b:=by simpa using hb
      subst this
      obtain⟨Ci,fi,xi,rfl⟩:∃Ci fi xi,b'=.ins Ci fi xi:=by
       cases b'<;>first|exact⟨_,_,_,rfl⟩|cases hob
      exact au.agy C2 C3 (C3.tmp (tW ι) (by simp)) (fun q hq=>C3.tmp q (by simp[hq])) hob (fun u hu=>by obtain⟨_,_,e,_⟩:=hu;rw[e];rfl) (C3.tmp (rt K σ (.o s1h.length) (.ref x)) (by simp))
 ·exact ha A st σ H ts C _ _ h1 p
end
end AL
namespace AL
open PySem L2 DL PyProof.Rows
section
variable {K:PySem.W.Frag} {W:WX} {tt:TT} {tb:TS} {t:M Bool} {b:S} {te:TE} {ta:TA} {f:M R} {fa:M (List R)} {g:TG} {k:G}
structure Wk where
 xs:List R
 lk:ST→Prop
open Classical in
noncomputable def forL (lk:ST→Prop) (k:G) (b:S):List R→S
 | [],st=>if lk st then some (.nx st) else none
 | r::rs,st=>if lk st then(match k r st with
  | some (.ok _ s1)=>(match b s1 with
   | some (.nx s)=>forL lk k b rs s
   | some (.ct s)=>forL lk k b rs s
   | some (.bk s)=>some (.nx s)
   | o=>o)
  | _=>none) else none
noncomputable def ji (it:M Wk) (k:G) (b:S):S:=fun st=>match it st with
 | some (.ok w s1)=>forL w.lk k b w.xs s1
 | some (.ex x s)=>some (.ex x s)
 | none=>none
def QT (A A':Ac):Prop:=Ex A.H A'.H
structure Walk (K:PySem.W.Frag) (A0:Ac) (J:It) (t:Tp) (w:Wk):Prop where
 goes:∀(i:Nat) A st σ H ts,QT A0 A→Cf K A st σ H (t::ts)→w.lk st→i<w.xs.length→J.go i H
 stops:∀A st σ H ts,QT A0 A→Cf K A st σ H (t::ts)→w.lk st→J.stop w.xs.length H
 yields:∀(i:Nat) r A st σ H x H' ts,w.xs[i]?=some r→QT A0 A→Cf K A st σ H (t::ts)→w.lk st→J.yld i H x H'→Cf K A st σ H' (rt K σ r x::t::ts)
def PoI (K:PySem.W.Frag) (W:WX) (A:Ac) (σ:L2.St) (ts:List Tp) (Rr:It→Hp→Prop):Rx Wk→Prop
 | .ok w st=>∀J t H2,Cf K A st σ H2 (t::ts)→Walk K A J t w→Rr J H2
 | .ex x st=>∀cls d H2,XO K A ts x st cls d σ H2→W cls d σ H2
def XI (K:PySem.W.Frag) (W:WX) (wi:TI) (f:M Wk):Prop:=∀A st σ H ts,Cf K A st σ H ts→∀Rr y,f st=some y→PoI K W A σ ts Rr y→wi σ H Rr
theorem Bm {A:Ac} {J:It} {tp:Tp} {w:Wk} {fs:List Tp} {T:Ends} {y:Rs} {σ:L2.St} {H:Hp} {st:ST} (C:Cf K A st σ H (tp::fs)) (wk:Walk K A J tp w) (hg:vZ K g k) (hb:XS K W tb b) (e:forL w.lk k b w.xs st=some y) (p:m9 K W A fs T y) :
  ∃W:Nat→Nat→L2.St→Hp→Prop,(∃m,W 0 m σ H)∧∀i m σ H,W i m σ H→
   (J.stop i H∧T.nx σ H)∨(J.go i H∧∃N:L2.St→Hp→Prop,(∀σ' H',N σ' H'→∃m',m'<m∧W (i+1) m' σ' H')∧∀x H',J.yld i H x H'→g x σ H' fun σ2 H2=>tb {T with nx:=N,ct:=N,bk:=T.nx} σ2 H2):=by
 let Pv:Nat→L2.St→Hp→Prop:=fun i σ H=>i≤w.xs.length∧∃st',forL w.lk k b (w.xs.drop i) st'=some y∧Cf K A st' σ H (tp::fs)
 refine⟨fun i m σ H=>m=w.xs.length-i∧Pv i σ H,⟨w.xs.length,by simp,b0j _,st,by simpa using e,C⟩,?_⟩
 rintro i m σ H ⟨rfl,hle,st',e',C'⟩
 by_cases hlt:i<w.xs.length
 ·have hd:w.xs.drop i=w.xs[i]::w.xs.drop (i+1):=List.drop_eq_getElem_cons hlt
  rw[hd] at e'
  unfold forL at e'
  by_cases hlk:w.lk st'
  ·rw[a0g hlk] at e'
   refine .inr ⟨wk.goes i A st' σ H fs (Ex.refl _) C' hlk hlt,Pv (i+1),fun σ' H' hN=>⟨w.xs.length-(i+1),by omega,rfl,hN⟩,fun x H' yy=>?_⟩
   have C2:=wk.yields i w.xs[i] A st' σ H x H' fs (a0e hlt) (Ex.refl _) C' hlk yy
   cases ek:k w.xs[i] st' with
   | none=>rw[ek] at e';cases e'
   | some z=>
    rw[ek] at e'
    cases z with
    | ex x s=>cases e'
    | ok u s1=>
     simp only at e'
     refine hg A st' σ H' (tp::fs) w.xs[i] x C2 _ s1 ek fun σ2 H2 C3=>?_
     cases eb:b s1 with
     | none=>rw[eb] at e';cases e'
     | some z=>
      rw[eb] at e'
      refine hb A s1 σ2 H2 (tp::fs) C3 _ z eb ?_
      cases z with
      | nx s=>exact fun σ3 H3 C4=>⟨hlt,s,e',C4⟩
      | ct s=>exact fun σ3 H3 C4=>⟨hlt,s,e',C4⟩
      | bk s=>cases e';exact fun σ3 H3 C4=>p σ3 H3 C4.drop
      | rt r s=>cases e';exact fun σ3 v H3 C4=>p σ3 v H3 (C4.temps fun q hq=>.inl (by rcases a0c.mp hq with h|h<;>simp[h]))
      | rn r s=>
       cases e'
       intro σ3 v H3 C4
       obtain⟨Hb,ι,a,u,C5,rr⟩:=C4
       exact p σ3 v H3 ⟨Hb,ι,a,u,C5.temps fun q hq=>C5.tmp q (by simp[hq]),rr⟩
      | ex x s=>cases e';exact fun cls d σ3 H3 X=>p cls d σ3 H3 X.drop
  ·rw[a0h hlk] at e';cases e'
 ·have hi:i=w.xs.length:=by omega
  subst hi
  rw[List.drop_length] at e'
  unfold forL at e'
  by_cases hlk:w.lk st'
  ·rw[a0g hlk] at e'
   cases e'
   exact .inl ⟨wk.stops A st' σ H fs (Ex.refl _) C' hlk,p σ H C'.drop⟩
  ·rw[a0h hlk] at e';cases e'
theorem qD {wi:TI} {it:M Wk} (hi:XI K W wi it) (hg:vZ K g k) (hb:XS K W tb b):XS K W (tFor wi g tb) (ji it k b):=fun A st σ H fs C T y hy p=>by
 unfold ji at hy
 cases e:it st with
 | none=>rw[e] at hy;cases hy
 | some z=>
  rw[e] at hy
  cases z with
  | ex x s=>cases hy;exact hi A st σ H fs C _ _ e fun cls d H2 X=>p cls d σ H2 X
  | ok w s1=>exact hi A st σ H fs C _ _ e fun J t H2 C2 wk=>Bm C2 wk hg hb hy p
def cC:ST→Prop:=fun _=>True
def pQ:Tp:=⟨fun _ _=>True,fun _ _ _ _ _ _ _=>trivial,fun _ _ _ _ _ _ _=>trivial⟩
def jd (f:M (List R)):M Wk:=f.of fun _ rs=>match rs with
 | [.d (.int n)]=>if -1000000000≤n∧n≤1000000000 then some ⟨(qJ 0 n.toNat).map .d,cC⟩ else none
 | _=>none
theorem ab1 {lo:Int} {n:Nat} {A0:Ac}:Walk K A0 (Itr lo n) pQ ⟨(qJ lo n).map .d,cC⟩ where
 goes:=fun i A st σ H ts _ C _ h=>by show i<n;simpa [UJ] using h
 stops:=fun A st σ H ts _ C _=>by show n≤_;simp[UJ]
 yields:=fun i r A st σ H x H' ts h _ C _ y=>by
  obtain⟨e1,e2⟩:=y
  rw[a0p] at h
  obtain⟨d,hd,rfl⟩:=a0b.mp h
  obtain⟨_,rfl⟩:=abR hd
  subst e1 e2
  exact C.temps fun q hq=>(a0c.mp hq).elim (fun z=>.inr fun ι Hb=>by rw[z];show Rp K Hb _ _;unfold Rp;rfl) .inl
theorem kY (hf:XA K W ta fa):XI K W (iRng1 ta) (jd fa):=fun A st σ H ts C Rr y hy p=>by
 rcases lg hy with ⟨rs,s1,b,h1,h2,rfl⟩|⟨x,s1,h1,rfl⟩
 ·split at h2
  ·rename_i n
   refine hf A st σ H ts C _ _ h1 fun vs H1 ⟨Hb,ι,C1⟩=>?_
   obtain⟨hn,rfl⟩:=ite_some h2
   obtain⟨v,rfl,hv⟩:=qH (C1.tmp (jk K σ [.d (.int n)] vs) (by simp))
   cases (show v=.int n from hv)
   exact⟨n,rfl,by omega,by omega,p _ pQ H1 ⟨Hb,ι,C1.temps fun q hq=>(a0c.mp hq).elim (fun e=>by rw[e];trivial) fun hq=>C1.tmp q (by simp[hq])⟩ ab1⟩
  ·cases h2
 ·exact hf A st σ H ts C _ _ h1 p
def zp (st:ST) (r:R):Option Wk:=match r with
 | .d (.lst ds)=>some ⟨ds.map .d,cC⟩
 | .d _=>none
 | r=>match bF st r with
  | some (.lst ds)=>some ⟨ds.map .d,fun s=>bF s r=some (.lst ds)⟩
  | some (.bW xs)=>some ⟨xs,fun s=>bF s r=some (.bW xs)⟩
  | _=>none
theorem acV {a:Addr} {t:Tp} {w:Wk} {A0:Ac} (hw:∀A st σ H ts,Cf K A st σ H (t::ts)→w.lk st→∃Hb ι vs,au K A st σ H (t::ts) Hb ι∧SqL K H a vs∧bA K ι Hb w.xs vs):Walk K A0 (Itl K a) t w where
 goes:=fun i A st σ H ts _ C hl h=>by
  obtain⟨Hb,ι,vs,_,s,r⟩:=hw A st σ H ts C hl
  have hv:i<vs.length:=by rw[← Paired.length r];exact h
  exact⟨vs,vs[i],s,a0e hv⟩
 stops:=fun A st σ H ts _ C hl=>by
  obtain⟨Hb,ι,vs,_,s,r⟩:=hw A st σ H ts C hl
  exact⟨vs,s,by rw[Paired.length r];exact a0v _⟩
 yields:=fun i r A st σ H x H' ts h _ C hl y=>by
  obtain⟨e1,e2⟩:=y
  subst e1
  obtain⟨Hb,ι,vs,C2,s,q⟩:=hw A st σ _ ts C hl
  obtain⟨v,hv,rv⟩:=bA.get q h
  have:=e2 vs s
  rw[hv] at this;cases this
  exact C2.one (yG rv)
def Ym (K:PySem.W.Frag) (a:Addr) (vs:List V) (ds:List D):Tp:=⟨fun _ Hb=>Rd Hb a (.lst vs)∧aq K Hb ds vs,fun _ _ _ _ _ r h=>⟨r.ls h.1,aq.mono r _ _ h.2⟩,fun _ _ _ _ _ _ h=>h⟩
def tX (a:Addr) (n:Nat):Tp:=⟨fun ι _=>ι[n]?=some a,fun _ _ _ _ p _ h=>p.get h,fun _ _ _ _ _ h _=>h⟩
theorem ad3 {A:Ac} {st:ST} {σ:L2.St} {H Hb:Hp} {ts:List Tp} {ι:List Addr} {r:R} {v:V} {w:Wk} (C:au K A st σ H ts Hb ι) (hr:Rt K σ ι Hb r v) (h:zp st r=some w) (hn:∀i,r≠.w i):∃a t vs,v=.ref a∧SqL K H a vs∧Cf K A st σ H (t::ts)∧(∀A st σ H ts,Cf K A st σ H (t::ts)→w.lk st→∃Hb ι vs,au K A st σ H (t::ts) Hb ι∧SqL K H a vs∧bA K ι Hb w.xs vs):=by
 cases r with
 | w i=>exact absurd rfl (hn i)
 | d x=>
  obtain⟨ds,rfl⟩:∃ds,x=.lst ds:=by cases x<;>first|exact⟨_,rfl⟩|cases h
  cases h
  have hr:Rp K Hb (.lst ds) v:=hr
  unfold Rp at hr
  obtain⟨a,vs,rfl,s,q⟩:=hr
  refine⟨a,Ym K a vs ds,vs,rfl,.inl (C.bH.rl.ls s),⟨Hb,ι,C.temps fun z hz=>(a0c.mp hz).elim (fun e=>by rw[e];exact⟨s,q⟩) (C.tmp z)⟩,fun A st σ H ts ⟨Hb,ι,C⟩ _=>?_⟩
  have q:(Ym K a vs ds).p ι Hb:=C.tmp _ (by simp)
  exact⟨Hb,ι,vs,C,.inl (C.bH.rl.ls q.1),yg q.2⟩
 | o n=>
  obtain⟨a,e,rfl⟩:=hr
  have Ct:Cf K A st σ H (tX a n::ts):=⟨Hb,ι,C.temps fun z hz=>(a0c.mp hz).elim (fun y=>by rw[y];exact e) (C.tmp z)⟩
  have key:∀{b:Ob} {w:Wk},(∀ι Hb u,dN K ι Hb b u→∃vs,u=.lst vs∧bA K ι Hb w.xs vs)→w.lk=(fun s=>bF s (.o n)=some b)→∀A st σ H ts,Cf K A st σ H (tX a n::ts)→w.lk st→∃Hb ι vs,au K A st σ H (tX a n::ts) Hb ι∧SqL K H a vs∧bA K ι Hb w.xs vs:=fun {b w} hb hk A st σ H ts ⟨Hb,ι,C⟩ hl=>by
   rw[hk] at hl
   have e:ι[n]?=some a:=C.tmp (tX a n) (by simp)
   obtain⟨a',u,g1,g2,g3,_⟩:=C.obj n b hl
   rw[e] at g1;cases g1
   obtain⟨vs,rfl,q⟩:=hb _ _ _ g3
   exact⟨Hb,ι,vs,C,.inl (.inl g2),q⟩
  cases q:st.h[n]? with
  | none=>simp only[zp,bF,q] at h;cases h
  | some b=>
   obtain⟨a',u,g1,g2,g3,_⟩:=C.obj n b q
   rw[e] at g1;cases g1
   simp only[zp,bF,q] at h
   cases b with
   | lst ds=>
    cases h
    obtain⟨vs,rfl,qq⟩:=g3
    exact⟨_,_,vs,rfl,.inl (.inl g2),Ct,key (b:=.lst ds) (w:=⟨ds.map .d,fun s=>bF s (.o n)=some (.lst ds)⟩) (fun ι Hb u ⟨vs,e,q⟩=>⟨vs,e,yg q⟩) rfl⟩
   | bW xs=>
    cases h
    obtain⟨vs,rfl,qq⟩:=g3
    exact⟨_,_,vs,rfl,.inl (.inl g2),Ct,key (b:=.bW xs) (w:=⟨xs,fun s=>bF s (.o n)=some (.bW xs)⟩) (fun ι Hb u ⟨vs,e,q⟩=>⟨vs,e,q⟩) rfl⟩
   | _=>cases h
def QV (st:ST) (r:R):Option Wk:=match r with
 | .w _=>none
 | r=>zp st r
theorem ad4 {st:ST} {r:R} {w:Wk} (h:QV st r=some w):zp st r=some w∧∀i,r≠.w i:=by
 cases r with
 | w i=>cases h
 | d x=>exact⟨h,fun i z=>nomatch z⟩
 | o n=>exact⟨h,fun i z=>nomatch z⟩
def wL (f:M R):M Wk:=f.of QV
theorem Ow (hf:XE K W te f):XI K W (iList K te) (wL f):=fun A st σ H ts C Rr y hy p=>by
 rcases lg hy with ⟨r,s1,w,h1,h2,rfl⟩|⟨x,s1,h1,rfl⟩
 ·refine hf A st σ H ts C _ _ h1 fun v H1 ⟨Hb,ι,C1⟩=>?_
  obtain⟨h3,h4⟩:=ad4 h2
  obtain⟨a,t,vs,rfl,s,C2,hw⟩:=ad3 (C1.temps (ts':=ts) fun q hq=>C1.tmp q (by simp[hq])) (C1.tmp (rt K σ r v) (by simp)) h3 h4
  exact⟨a,rfl,⟨vs,s⟩,p _ t H1 C2 (acV hw)⟩
 ·exact hf A st σ H ts C _ _ h1 p
def wS (f:M R):M Wk:=f.of fun _ r=>match r with
 | .d (.str s)=>some ⟨(yM s).map .d,cC⟩
 | _=>none
theorem acW {s:Str} {A0:Ac}:Walk K A0 (Its s) pQ ⟨(yM s).map .d,cC⟩ where
 goes:=fun i A st σ H ts _ C _ h=>by
  have:i<s.length:=by simpa [UL] using h
  exact this
 stops:=fun A st σ H ts _ C _=>by
  show s.cps.size≤_
  rw[a0C,UL];exact a0v _
 yields:=fun i r A st σ H x H' ts h _ C _ y=>by
  obtain⟨e1,c,hc,rfl⟩:=y
  subst e1
  rw[a0p] at h
  obtain⟨d,hd,rfl⟩:=a0b.mp h
  unfold yM at hd
  rw[a0p,Array.getElem?_toList,hc] at hd
  cases hd
  exact C.temps fun q hq=>(a0c.mp hq).elim (fun z=>.inr fun ι Hb=>by rw[z];show Rp K Hb _ _;unfold Rp;rfl) .inl
theorem ad5 (hf:XE K W te f):XI K W (iStr te) (wS f):=fun A st σ H ts C Rr y hy p=>by
 rcases lg hy with ⟨r,s1,w,h1,h2,rfl⟩|⟨x,s1,h1,rfl⟩
 ·split at h2
  ·rename_i s
   cases h2
   refine hf A st σ H ts C _ _ h1 fun v H1 ⟨Hb,ι,C1⟩=>?_
   have hv:v=.str s:=C1.tmp (rt K σ (.d (.str s)) v) (by simp)
   exact⟨s,hv,p _ pQ H1 ⟨Hb,ι,C1.temps fun z hz=>(a0c.mp hz).elim (fun e=>by rw[e];trivial) fun hz=>C1.tmp z (by simp[hz])⟩ acW⟩
  ·cases h2
 ·exact hf A st σ H ts C _ _ h1 p
end
def fP (s:List Sv):List Nat→List Sv
 | []=>s
 | v::vs=>(fP s vs).set v .no
open Classical in
noncomputable def jL (lk:ST→Prop) (k:G) (t:M Bool) (e:M R) (vs:List Nat) (st0:ST):List R→Option (List D)
 | []=>if lk st0 then some [] else none
 | r::rs=>if lk st0 then(match k r st0 with
  | some (.ok _ s1)=>if (⟨fP s1.s vs,s1.h⟩:ST)=st0 then(match t s1 with
   | some (.ok true s2)=>if s2=s1 then(match e s1 with
    | some (.ok (.d x) s3)=>if s3=s1 then(jL lk k t e vs st0 rs).map (x::·) else none
    | _=>none) else none
   | some (.ok false s2)=>if s2=s1 then jL lk k t e vs st0 rs else none
   | _=>none) else none
  | _=>none) else none
noncomputable def lQ (it:M Wk) (k:G) (t:M Bool) (e:M R) (vs:List Nat):M Ob:=fun st=>match it st with
 | some (.ok w s1)=>if w.xs.length≤16000000 then(jL w.lk k t e vs ⟨fP s1.s vs,s1.h⟩ w.xs).map fun ds=>.ok (.lst ds) ⟨fP s1.s vs,s1.h⟩ else none
 | some (.ex x s)=>some (.ex x s)
 | none=>none
section
variable {K:PySem.W.Frag} {W:WX} {A:Ac} {st:ST} {σ:L2.St} {H Hb:Hp} {ts:List Tp} {ι:List Addr} {tt:TT} {t:M Bool} {te:TE} {e:M R} {g:TG} {k:G} {vs:List Nat} {wi:TI} {it:M Wk}
theorem au.Qm (C:au K A st σ H ts Hb ι):∀vs,au K A ⟨fP st.s vs,st.h⟩ (wipe σ vs) H ts Hb ι
 | []=>C
 | v::vs=>(au.Qm C vs).HX v none
theorem au.afz (C:au K A st (wipe σ vs) H ts Hb ι):au K A st σ H ts Hb ι:=
 {C with
  len:=by rw[← C.len,wipe_length]
  val:=fun j r h=>by
   obtain⟨v,a,c⟩:=C.val j r h
   exact⟨v,(wipe_some a).1,c⟩
  own:=fun j b h=>by
   obtain⟨a,u,h1,rr⟩:=C.own j b h
   exact⟨a,u,(wipe_some h1).1,rr⟩
  dsl:=fun i j b c a h1 h2 e1 e2=>by
   obtain⟨a1,u1,g1,_⟩:=C.own i b h1
   obtain⟨a2,u2,g2,_⟩:=C.own j c h2
   have q1:=(wipe_some g1).1
   have q2:=(wipe_some g2).1
   rw[e1] at q1;cases q1
   rw[e2] at q2;cases q2
   exact C.dsl i j b c _ h1 h2 g1 g2}
theorem Nz (τ:L2.St) (i:Nat):∀us:List Nat,(wipe τ us)[i]?=if i∈us then(τ[i]?).map fun _=>none else τ[i]?
 | []=>by simp[wipe]
 | u::us=>by
  unfold wipe
  rw[a0j]
  by_cases q:u=i
  ·subst q
   rw[a0g rfl,a0g (a0N ..),wipe_length]
   by_cases z:u<τ.length
   ·rw[a0g z,a0e z];rfl
   ·rw[a0h z,a0D (by omega)];rfl
  ·rw[a0h q,Nz τ i us]
   by_cases z:i∈us
   ·rw[a0g z,a0g (a0K _ z)]
   ·rw[a0h z,a0h (fun y=>(a0c.mp y).elim (fun e=>q e.symm) z)]
theorem U6 {j:Nat} {x:Option V} (hj:j∈vs):wipe (σ.set j x) vs=wipe σ vs:=by
 refine a0L fun i=>?_
 rw[Nz,Nz,a0j]
 by_cases z:i∈vs
 ·rw[a0g z,a0g z]
  by_cases q:j=i
  ·subst q
   rw[a0g rfl]
   by_cases y:j<σ.length
   ·rw[a0g y,a0e y];rfl
   ·rw[a0h y,a0D (by omega)]
  ·rw[a0h q]
 ·rw[a0h z,a0h z]
  have q:¬j=i:=fun q=>z (q▸hj)
  rw[a0h q]
def QW (K:PySem.W.Frag) (vs:List Nat) (g:TG) (k:G):Prop:=∀A st σ H ts r v,Cf K A st σ H (rt K σ r v::ts)→∀(Q:L2.St→Hp→Prop) st',k r st=some (.ok () st')→(∀σ2 H2,Cf K A st' σ2 H2 ts→wipe σ2 vs=wipe σ vs→Q σ2 H2)→g v σ H Q
theorem rZ {i:Nat} (hi:i∈vs):QW K vs (gName i) (gN i):=fun A st σ H ts r v ⟨Hb,ι,C⟩ Q st' h p=>by
 have hr:Rt K σ ι Hb r v:=C.tmp (rt K σ r v) (by simp)
 have C2:au K A st σ H ts Hb ι:=C.temps fun q hq=>C.tmp q (by simp[hq])
 cases r with
 | w j=>cases h
 | d x=>cases h;exact p _ H ⟨Hb,ι,C2.yN (r:=.d x) hr i⟩ (U6 hi)
 | o n=>cases h;exact p _ H ⟨Hb,ι,C2.yN (r:=.o n) hr i⟩ (U6 hi)
theorem au.fin (C:au K A st σ H ts Hb ι) {p:Addr} {o:HO} (h0:A.H p=none) (h1:H p=some o) (h2:Hb p=none) (h3:p∉ι) (h4:∀(i:Nat) c,st.s[i]?=some (.own c)→σ[i]?≠some (some (.ref p))):au K ⟨upd A.H p o,A.B,A.ι⟩ st σ H ts Hb ι:=
 {C with
  keep:=fun a u e n=>by
   have e:upd A.H p o a=some u:=e
   by_cases q:a=p
   ·subst q;rw[a0r] at e;cases e;exact h1
   ·rw[a0n q] at e;exact C.keep a u e n
  ap:=fun a h5 h6=>by
   have h6:upd A.H p o a≠none:=h6
   by_cases q:a=p
   ·subst q;exact h2
   ·rw[a0n q] at h6;exact C.ap a h5 h6
  own:=fun i b h=>by
   obtain⟨a,u,e1,e2,e3,e4,e5,e6,e7⟩:=C.own i b h
   have q:a≠p:=fun z=>h4 i b h (by rw[e1,z])
   exact⟨a,u,e1,e2,e3,e4,e5,by show upd A.H p o a=none;rw[a0n q];exact e6,e7⟩
  new:=fun a hm=>by
   have q:a≠p:=fun z=>h3 (z▸hm)
   exact(C.new a hm).imp id fun z o' e=>by
    have e:upd A.H p o a=some o':=e
    rw[a0n q] at e;exact z o' e}
theorem au.fout {p:Addr} {o:HO} (C:au K ⟨upd A.H p o,A.B,A.ι⟩ st σ H ts Hb ι) (h0:A.H p=none) (h1:A.B p=none) (h2:p∉A.ι) (hz:mU o=false:=by rfl):au K A st σ H ts Hb ι∧H p=some o∧Hb p=none∧p∉ι∧∀(i:Nat) c,st.s[i]?=some (.own c)→σ[i]?≠some (some (.ref p)):=by
 have hp:upd A.H p o p=some o:=a0r
 have ne:∀{a:Addr},A.H a≠none→a≠p:=fun h z=>h (by rw[z];exact h0)
 refine⟨{C with keep:=fun a u e n=>C.keep a u ?_ n,ap:=fun a h5 h6=>C.ap a h5 ?_,own:=fun i b h=>?_,new:=fun a hm=>?_},C.keep p o hp (.inl h2),C.ap p h1 (by show upd A.H p o p≠none;rw[hp];exact fun z=>nomatch z),fun hm=>?_,fun i c hc e=>?_⟩
 ·show upd A.H p o a=some u
  rw[a0n (ne (by rw[e];exact fun z=>nomatch z))];exact e
 ·show upd A.H p o a≠none
  rw[a0n (ne h6)];exact h6
 ·obtain⟨a,u,e1,e2,e3,e4,e5,e6,e7⟩:=C.own i b h
  have e6:upd A.H p o a=none:=e6
  have q:a≠p:=fun z=>by rw[z,a0r] at e6;cases e6
  rw[a0n q] at e6
  exact⟨a,u,e1,e2,e3,e4,e5,e6,e7⟩
 ·rcases C.new a hm with z|z
  ·exact .inl z
  ·refine .inr fun o' e=>z o' ?_
   show upd A.H p o a=some o'
   rw[a0n (ne (by rw[e];exact fun z=>nomatch z))];exact e
 ·rcases C.new p hm with z|z
  ·exact h2 z
  ·have:=z o hp
   rw[hz] at this;cases this
 ·obtain⟨a,u,e1,_,_,_,_,e6,_⟩:=C.own i c hc
  rw[e] at e1;cases e1
  have e6:upd A.H p o p=none:=e6
  rw[a0r] at e6;cases e6
theorem au.XC (C:au K A st σ H ts Hb ι) {p:Addr} {o:HO} (h1:A.H p=none) (h2:Hb p=none) (h3:p∉ι) (h4:∀(i:Nat) c,st.s[i]?=some (.own c)→σ[i]?≠some (some (.ref p))):au K A st σ (upd H p o) ts Hb ι:=
 {C with
  keep:=fun a u e n=>by
   have q:a≠p:=fun z=>by rw[z,h1] at e;cases e
   rw[a0n q];exact C.keep a u e n
  bH:=fun a u e=>by
   have q:a≠p:=fun z=>by rw[z,h2] at e;cases e
   rw[a0n q];exact C.bH a u e
  obj:=fun n b e=>by
   obtain⟨a,u,e1,e2,e3⟩:=C.obj n b e
   have q:a≠p:=fun z=>h3 (z▸a0l e1)
   exact⟨a,u,e1,by rw[a0n q];exact e2,e3⟩
  own:=fun i b e=>by
   obtain⟨a,u,e1,e2,e3⟩:=C.own i b e
   have q:a≠p:=fun z=>h4 i b e (by rw[e1,z])
   exact⟨a,u,e1,by rw[a0n q];exact e2,e3⟩}
theorem Oc {lk:ST→Prop} {st0:ST}:∀{rs:List R} {ds:List D},jL lk k t e vs st0 rs=some ds→ds.length≤rs.length
 | [],ds,h=>by
  unfold jL at h
  split at h
  ·cases h;simp
  ·cases h
 | r::rs,ds,h=>by
  unfold jL at h
  split at h
  ·split at h
   ·split at h
    ·split at h
     ·split at h
      ·split at h
       ·split at h
        ·obtain⟨x,hx,rfl⟩:=a0b.mp h
         have:=Oc hx
         simp;omega
        ·cases h
       ·cases h
      ·cases h
     ·split at h
      ·have:=Oc h;simp;omega
      ·cases h
     ·cases h
    ·cases h
   ·cases h
  ·cases h
theorem afA {A:Ac} {s1:ST} {σ:L2.St} {H1:Hp} {ts:List Tp} {J:It} {tp:Tp} {w:Wk} {all:List D} {Q:VK} (hg:QW K vs g k) (ht:XT K W tt t) (he:XE K W te e) (C1:Cf K A s1 σ H1 (tp::ts)) (wk:Walk K A J tp w) (hlen:w.xs.length≤16000000)
  (hall:jL w.lk k t e vs ⟨fP s1.s vs,s1.h⟩ w.xs=some all) (p:∀v H2,fD K A ⟨fP s1.s vs,s1.h⟩ σ H2 ts (.lst all) v→Q v H2):tLc (fun _ H R=>R J H) g tt te vs σ H1 Q:=by
 intro P hP
 obtain⟨fU,gq,C1⟩:=C1
 have C1:=C1.Qm vs
 generalize hst0:(⟨fP s1.s vs,s1.h⟩:ST)=st0 at C1 hall p
 obtain⟨f1,f2,f3,f4⟩:=C1.fresh hP
 have hAB:A.B P=none:=C1.eB.none f1
 have agz:P∉A.ι:=fun z=>f2 (C1.pre.mem z)
 refine⟨fun i m H=>m=w.xs.length-i∧i≤w.xs.length∧∃acc done rest Hb ι,au K A st0 (wipe σ vs) H (tp::ts) Hb ι∧H P=some (.lst acc)∧Hb P=none∧P∉ι∧(∀(i:Nat) c,st0.s[i]?=some (.own c)→(wipe σ vs)[i]?≠some (some (.ref P)))∧aq K Hb done acc∧jL w.lk k t e vs st0 (w.xs.drop i)=some rest∧all=done++rest,
  ⟨w.xs.length,by simp,b0j _,[],[],all,fU,gq,C1.XC f3 f1 f2 f4,a0r,f1,f2,f4,aq.nil,by simpa using hall,rfl⟩,?_⟩
 rintro i m H2 ⟨rfl,hle,acc,done,rest,Hb,ι,C2,hP2,hbP,XF,Yn,ra,hrest,hal⟩
 by_cases hlt:i<w.xs.length
 ·have hd:w.xs.drop i=w.xs[i]::w.xs.drop (i+1):=List.drop_eq_getElem_cons hlt
  rw[hd] at hrest
  unfold jL at hrest
  by_cases hlk:w.lk st0
  ·rw[a0g hlk] at hrest
   refine .inr ⟨wk.goes i A st0 _ H2 ts (Ex.refl _) ⟨Hb,ι,C2⟩ hlk hlt,fun H'=>∃acc done rest Hb ι,au K A st0 (wipe σ vs) H' (tp::ts) Hb ι∧H' P=some (.lst acc)∧Hb P=none∧P∉ι∧(∀(i:Nat) c,st0.s[i]?=some (.own c)→(wipe σ vs)[i]?≠some (some (.ref P)))∧aq K Hb done acc∧jL w.lk k t e vs st0 (w.xs.drop (i+1))=some rest∧all=done++rest,
    fun H' hN=>⟨w.xs.length-(i+1),by omega,rfl,hlt,hN⟩,fun x H3 yy=>?_⟩
   have C3:Cf K ⟨upd A.H P (.lst acc),A.B,A.ι⟩ st0 (wipe σ vs) H2 (tp::CT K done acc::ts):=⟨Hb,ι,(C2.fin f3 hP2 hbP XF Yn).temps fun q hq=>by
    rcases a0c.mp hq with rfl|hq
    ·exact C2.tmp q (by simp)
    ·rcases a0c.mp hq with rfl|hq
     ·exact ra
     ·exact C2.tmp q (by simp[hq])⟩
   have C4:=wk.yields i w.xs[i] ⟨upd A.H P (.lst acc),A.B,A.ι⟩ st0 _ H2 x H3 _ (a0e hlt) (Ex.new f3) C3 hlk yy
   cases ek:k w.xs[i] st0 with
   | none=>rw[ek] at hrest;cases hrest
   | some z=>
    rw[ek] at hrest
    cases z with
    | ex x s=>cases hrest
    | ok u sb=>
     simp only at hrest
     by_cases hback:(⟨fP sb.s vs,sb.h⟩:ST)=st0
     ·rw[a0g hback] at hrest
      refine hg _ st0 _ H3 _ w.xs[i] x C4 _ sb ek fun σ2 H4 C5 e2=>⟨by rw[e2,Ur],?_⟩
      rw[Ur] at e2
      have back:∀{H5:Hp} {us:List Tp},Cf K ⟨upd A.H P (.lst acc),A.B,A.ι⟩ sb σ2 H5 us→∃Hb ι,au K A st0 (wipe σ vs) H5 us Hb ι∧H5 P=some (.lst acc)∧Hb P=none∧P∉ι∧∀(i:Nat) c,st0.s[i]?=some (.own c)→(wipe σ vs)[i]?≠some (some (.ref P)):=fun {H5 us} ⟨dH,dO,C6⟩=>by
       have C7:=C6.Qm vs
       rw[hback,e2] at C7
       obtain⟨a,b,c,d,e⟩:=C7.fout f3 hAB agz
       exact⟨dH,dO,a,b,c,d,e⟩
      cases et:t sb with
      | none=>rw[et] at hrest;cases hrest
      | some z=>
       rw[et] at hrest
       cases z with
       | ex x s=>cases hrest
       | ok b s2=>
        cases b with
        | true=>
         simp only at hrest
         by_cases hs2:s2=sb
         ·rw[a0g hs2] at hrest
          subst hs2
          refine ht _ s2 σ2 H4 _ C5 _ _ et fun H5 C6=>?_
          rw[a0g rfl]
          cases ee:e s2 with
          | none=>rw[ee] at hrest;cases hrest
          | some z=>
           rw[ee] at hrest
           cases z with
           | ex x s=>cases hrest
           | ok r s3=>
            cases r with
            | o n=>cases hrest
            | w j=>cases hrest
            | d xd=>
             simp only at hrest
             by_cases hs3:s3=s2
             ·rw[a0g hs3] at hrest
              subst hs3
              obtain⟨rest',hr',hrr⟩:=a0b.mp hrest
              refine he _ s3 σ2 H5 _ C6 _ _ ee fun yv H6 C7=>?_
              obtain⟨zq,QX,C8,a,b,c,d⟩:=back C7
              have ry:Rp K zq xd yv:=C8.tmp (rt K σ2 (.d xd) yv) (by simp)
              have rr:aq K zq done acc:=C8.tmp (CT K done acc) (by simp)
              refine⟨acc,a,?_,acc++[yv],done++[xd],rest',zq,QX,(C8.temps (ts':=tp::ts) fun q hq=>C8.tmp q (by rcases a0c.mp hq with h|h<;>simp[h])).XC f3 b c d,a0r,b,c,d,rr.app (aq.one ry),hr',by rw[hal,← hrr];simp⟩
              have hdl:done.length<w.xs.length:=by
               have h1:=Oc hall
               have h2:all.length=done.length+rest.length:=by rw[hal];simp
               rw[← hrr] at h2
               simp at h2;omega
              rw[← rr.len,a0E];omega
             ·rw[a0h hs3] at hrest;cases hrest
         ·rw[a0h hs2] at hrest;cases hrest
        | false=>
         simp only at hrest
         by_cases hs2:s2=sb
         ·rw[a0g hs2] at hrest
          subst hs2
          refine ht _ s2 σ2 H4 _ C5 _ _ et fun H5 C6=>?_
          rw[a0h a0V]
          obtain⟨zq,QX,C8,a,b,c,d⟩:=back C6
          have rr:aq K zq done acc:=C8.tmp (CT K done acc) (by simp)
          exact⟨acc,done,rest,zq,QX,C8.temps (ts':=tp::ts) fun q hq=>C8.tmp q (by rcases a0c.mp hq with h|h<;>simp[h]),a,b,c,d,rr,hrest,hal⟩
         ·rw[a0h hs2] at hrest;cases hrest
     ·rw[a0h hback] at hrest;cases hrest
  ·rw[a0h hlk] at hrest;cases hrest
 ·have hi':i=w.xs.length:=by omega
  subst hi'
  rw[List.drop_length] at hrest
  unfold jL at hrest
  by_cases hlk:w.lk st0
  ·rw[a0g hlk] at hrest
   cases hrest
   rw[a0O] at hal
   subst hal
   refine .inl ⟨wk.stops A st0 _ H2 ts (Ex.refl _) ⟨Hb,ι,C2⟩ hlk,p _ H2 ⟨Hb,ι,P,_,(C2.afz).temps fun q hq=>C2.tmp q (by simp[hq]),rfl,hP2,⟨acc,rfl,ra⟩,hbP,XF,f3,rfl,fun i c hc z=>?_⟩⟩
   obtain⟨a,u,e1,_⟩:=C2.own i c hc
   have:=(wipe_some e1).1
   rw[z] at this;cases this
   exact Yn i c hc e1
  ·rw[a0h hlk] at hrest;cases hrest
theorem tD (hi:XI K W wi it) (hg:QW K vs g k) (ht:XT K W tt t) (he:XE K W te e):XN K W (tLc wi g tt te vs) (lQ it k t e vs):=fun A st σ H ts C Q y hy p=>by
 unfold lQ at hy
 cases ei:it st with
 | none=>rw[ei] at hy;cases hy
 | some z=>
  rw[ei] at hy
  cases z with
  | ex x s=>cases hy;exact hi A st σ H ts C _ _ ei p
  | ok w s1=>
   simp only at hy
   by_cases hlen:w.xs.length≤16000000
   ·rw[a0g hlen] at hy
    obtain⟨all,hall,rfl⟩:=a0b.mp hy
    exact hi A st σ H ts C _ _ ei fun J tp H1 C1 wk=>afA hg ht he C1 wk hlen hall p
   ·rw[a0h hlen] at hy;cases hy
end
end AL
namespace AL
open PySem L2 DL PyProof.Rows
def Wc:M R:=fun _=>none
open Classical in
noncomputable def oH (C:Addr) (p:Str) (fa:M (List R)):S:=fun st=>match fa st with
 | some (.ok [.d x] st')=>if pJ x then some (.ex ⟨C,[p],[x]⟩ st') else none
 | some (.ex x st')=>some (.ex x st')
 | _=>none
section
variable {K:PySem.W.Frag} {W:WX} {A:Ac} {st:ST} {σ:L2.St} {H Hb:Hp} {ts:List Tp} {ι:List Addr} {ta:TA} {fa:M (List R)} {te:TE} {f:M R}
theorem xV {C:Addr} {q:Str} (ha:XA K W ta fa):XS K W (DL.Xp C q W ta) (oH C q fa):=fun A st σ H fs Cc T y hy p=>by
 unfold oH at hy
 split at hy
 ·rename_i x st' h1
  by_cases hx:pJ x
  ·rw[a0g hx] at hy
   cases hy
   refine ha A st σ H fs Cc _ _ h1 fun vs H1 ⟨Hb,ι,C1⟩=>?_
   obtain⟨v,rfl,hv⟩:=qH (C1.tmp (jk K σ [.d x] vs) (by simp))
   have hv:Rp K Hb x v:=hv
   refine⟨v,rfl,hx.v hv,fun dd hdd=>p _ _ σ _ ?_⟩
   have C2:au K A st' σ H1 fs Hb ι:=C1.temps fun q hq=>C1.tmp q (by simp[hq])
   obtain⟨f1,f2,f3,f4⟩:=C2.fresh hdd
   exact⟨Hb,ι,dd,[v],C2.O9 (Ex.new hdd) (Ex.refl _) (C2.bH.trans (Ex.new hdd)) (fun a h1 h2=>absurd h1 h2),rfl,rfl,a0r,rfl,aq.one hv,f3,f1⟩
  ·rw[a0h hx] at hy;cases hy
 ·rename_i x st' h1
  cases hy
  exact ha A st σ H fs Cc _ _ h1 fun cls d H2 X=>p cls d σ H2 X
 ·cases hy
structure Hd where
 m:Addr→Option Bool
 nm:Option Nat
 g:XD→Addr→Addr→S
open Classical in
noncomputable def yS (g:Addr→Addr→S):S:=fun st=>if h:∃y,∀a d,g a d st=some y then some (Classical.choose h) else none
theorem acX {g:Addr→Addr→S} {st:ST} {y:Rs} (h:∀a d,g a d st=some y):yS g st=some y:=by
 have hh:∃y,∀a d,g a d st=some y:=⟨y,h⟩
 unfold yS
 rw[dif_pos hh]
 have e:=b0a hh 0 0
 rw[h 0 0] at e;exact e.symm
theorem U7 {g:Addr→Addr→S} {st:ST} {y:Rs} (h:yS g st=some y):∀a d,g a d st=some y:=by
 unfold yS at h
 split at h
 ·rename_i hh
  cases h
  exact b0a hh
 ·cases h
def XH (i:Nat):Rs→Rs
 | .nx st=>.nx ⟨st.s.set i .no,st.h⟩
 | .bk st=>.bk ⟨st.s.set i .no,st.h⟩
 | .ct st=>.ct ⟨st.s.set i .no,st.h⟩
 | .rt r st=>.rt r ⟨st.s.set i .no,st.h⟩
 | .rn r st=>.rn r ⟨st.s.set i .no,st.h⟩
 | .ex x st=>.ex x ⟨st.s.set i .no,st.h⟩
noncomputable def hdl:List Hd→XD→S
 | [],x,st=>some (.ex x st)
 | h::r,x,st=>match h.m x.C with
  | some true=>(match h.nm with
   | none=>yS (h.g x) st
   | some i=>yS (fun a d st=>(h.g x a d ⟨st.s.set i (.v (.d (.exc a x.C d x.fs x.ds))),st.h⟩).map (XH i)) st)
  | some false=>hdl r x st
  | none=>none
noncomputable def vM (b:S) (hs:List Hd):S:=fun st=>match b st with
 | some (.ex x st')=>hdl hs x st'
 | o=>o
structure agA (K:PySem.W.Frag) (W:WX) (c:qK) (h:Hd):Prop where
 m:∀C b,h.m C=some b→PySem.W.exmOne K (.ref C) c.c=some b
 nm:c.nm=h.nm
 g:∀x a d,XS K W (c.ts a (.ref x.C) (some d)) (h.g x a d)
theorem au.agB (C:au K A st σ H ts Hb ι) {dd:Addr} {fs:List (Str×V)} (h1:H dd=some (.xd fs)) (h2:Hb dd=none) (h3:A.H dd=none):au K A st σ H ts (upd Hb dd (.xd fs)) ι:=by
 obtain⟨n1,n2⟩:=C.nX h1
 have eb:Ex Hb (upd Hb dd (.xd fs)):=Ex.new h2
 refine {C with eB:=C.eB.trans eb,bH:=fun a o e=>?_,ap:=fun a e1 e2=>?_,val:=fun i r h=>?_,obj:=fun n b h=>?_,own:=fun i b h=>?_,tmp:=fun q hq=>q.m _ _ _ _ (bJ.refl _) eb.rl (C.tmp q hq)}
 ·by_cases z:a=dd
  ·subst z;rw[a0r] at e;cases e;exact h1
  ·rw[a0n z] at e;exact C.bH a o e
 ·have z:a≠dd:=fun z=>e2 (by rw[z];exact h3)
  rw[a0n z];exact C.ap a e1 e2
 ·obtain⟨v,e,q⟩:=C.val i r h
  exact⟨v,e,q.mono (bJ.refl _) eb.rl⟩
 ·obtain⟨a,u,e1,e2,e3,e4⟩:=C.obj n b h
  have z:a≠dd:=fun z=>n1 (z▸a0l e1)
  exact⟨a,u,e1,e2,e3.mono (bJ.refl _) eb.rl,by rw[a0n z];exact e4⟩
 ·obtain⟨a,u,e1,e2,e3,e4,e5⟩:=C.own i b h
  have z:a≠dd:=fun z=>n2 i b h (by rw[e1,z])
  exact⟨a,u,e1,e2,e3.mono (bJ.refl _) eb.rl,by rw[a0n z];exact e4,e5⟩
theorem au.Qn (C:au K A st σ H ts Hb ι) (i:Nat):au K A ⟨st.s.set i .no,st.h⟩ σ H ts Hb ι:=by
 by_cases h:i<σ.length
 ·have:=C.HX i σ[i]
  rwa [List.set_getElem_self] at this
 ·have:=C.HX i none
  have e:List.set σ i none=σ:=List.set_eq_of_length_le (by omega)
  rwa [e] at this
theorem ad6 {tb:WX→TS} {l:List qK} {hs:List Hd} {b:S} (hb:∀W',XS K W' (tb W') b) (hh:Paired (agA K W) l hs):XS K W (Xq K W l tb) (vM b hs):=fun A st σ H fs C T y hy p=>by
 show tb (BP K W T l) T σ H
 unfold vM at hy
 cases e:b st with
 | none=>rw[e] at hy;cases hy
 | some z=>
  rw[e] at hy
  refine hb _ A st σ H fs C T z e ?_
  cases z with
  | nx st'=>cases hy;exact p
  | rt r st'=>cases hy;exact p
  | rn r st'=>cases hy;exact p
  | bk st'=>cases hy;exact p
  | ct st'=>cases hy;exact p
  | ex x st'=>
   intro cls d σ' H' X
   have hy:hdl hs x st'=some y:=hy
   clear e
   induction hh with
   | nil=>cases hy;exact p cls d σ' H' X
   | @cons c h l' hs' hc hr ih=>
    obtain⟨Hb,ι,dd,vs,C2,rfl,rfl,hdd,hlen,rr,n1,n2⟩:=id X
    unfold hdl at hy
    cases em:h.m x.C with
    | none=>rw[em] at hy;cases hy
    | some bb=>
     rw[em] at hy
     refine⟨bb,hc.m _ _ em,fun eb a na=>?_,fun eb=>?_⟩
     ·subst eb
      simp only at hy
      rw[hc.nm]
      cases en:h.nm with
      | none=>
       rw[en] at hy
       exact hc.g x a dd A st' σ' H' fs ⟨Hb,ι,C2⟩ T y (U7 hy a dd) p
      | some i=>
       rw[en] at hy
       obtain⟨z,hz,rfl⟩:=a0b.mp (U7 hy a dd)
       have C3:=C2.agB hdd n2 n1
       have C4:=C3.yN (v:=.ref a) (r:=.d (.exc a x.C dd x.fs x.ds)) (by
        show Rp K _ _ _
        unfold Rp
        exact⟨vs,rfl,a0r,hlen,aq.mono (Ex.new n2).rl _ _ rr⟩) i
       refine hc.g x a dd A _ _ H' fs ⟨_,ι,C4⟩ (W0 i T) z hz ?_
       have low:∀{s3:ST} {σ3:L2.St} {H3:Hp},Cf K A s3 σ3 H3 fs→Cf K A ⟨s3.s.set i .no,s3.h⟩ (σ3.set i none) H3 fs:=fun⟨iZ,jo,C5⟩=>⟨iZ,jo,C5.HX i none⟩
       cases z with
       | nx s3=>exact fun σ3 H3 C5=>p _ _ (low C5)
       | bk s3=>exact fun σ3 H3 C5=>p _ _ (low C5)
       | ct s3=>exact fun σ3 H3 C5=>p _ _ (low C5)
       | rt r s3=>exact fun σ3 v H3 ⟨iZ,jo,C5⟩=>p σ3 v H3 ⟨iZ,jo,C5.Qn i⟩
       | rn r s3=>
        intro σ3 v H3 CO
        obtain⟨iZ,jo,a2,u2,C5,k2,k3,k4,k5,k6,k7,k8,k9⟩:=CO
        refine p σ3 v H3 ⟨iZ,jo,a2,u2,C5.Qn i,k2,k3,k4,k5,k6,k7,k8,fun j c hc=>?_⟩
        rcases get_set hc with ⟨_,e',_⟩|⟨_,hc⟩
        ·cases e'
        ·exact k9 j c hc
       | ex x s3=>
        intro cls d σ3 H3 X3
        obtain⟨iZ,jo,d3,v3,C5,k⟩:=X3
        exact p cls d σ3 H3 ⟨iZ,jo,d3,v3,C5.Qn i,k⟩
     ·subst eb
      exact ih hy hy
def QZ (a C:Addr) (d:Addr) (n:Str) (f:M R):M R:=f.of fun _ r=>match r with
 | .d (.exc a' C' d' fs ds)=>if a'=a∧C'=C∧d'=d then((fs.zip ds).lookup n).map .d else none
 | _=>none
theorem agC {a C0 C d:Addr} {n:Str} (hf:XE K W te f):XE K W (tXf a (.ref C0) (some d) C n te) (if C0=C then QZ a C d n f else Wc):=fun A st σ H ts Cc Q y hy p=>by
 by_cases hc:C0=C
 ·rw[a0g hc] at hy
  subst hc
  rcases lg hy with ⟨r,s1,b,h1,h2,rfl⟩|⟨x,s1,h1,rfl⟩
  ·split at h2
   ·rename_i a' C' d' fs ds
    by_cases hq:a'=a∧C'=C0∧d'=d
    ·rw[a0g hq] at h2
     obtain⟨rfl,rfl,rfl⟩:=hq
     obtain⟨xd,hx,rfl⟩:=a0b.mp h2
     refine hf A st σ H ts Cc _ _ h1 fun v H1 ⟨Hb,ι,C1⟩=>?_
     have hv:Rp K Hb (.exc a' C' d' fs ds) v:=C1.tmp (rt K σ (.d (.exc a' C' d' fs ds)) v) (by simp)
     unfold Rp at hv
     obtain⟨vs,rfl,hx',hlen,rr⟩:=hv
     obtain⟨u,hu,ru⟩:=Us hlen rr hx
     exact⟨rfl,rfl,d',_,u,rfl,C1.bH _ _ hx',hu,p _ _ ((C1.temps fun q hq=>C1.tmp q (by simp[hq])).gQ ru)⟩
    ·rw[a0h hq] at h2;cases h2
   ·cases h2
  ·exact hf A st σ H ts Cc _ _ h1 p
 ·rw[a0h hc] at hy;cases hy
end
end AL
namespace AL
open PySem L2 DL PyProof.Rows
section
variable {K:PySem.W.Frag} {W:WX} {A:Ac} {st:ST} {σ:L2.St} {H Hb:Hp} {ts:List Tp} {ι:List Addr} {g:TG} {k:G} {b:S} {tb:WX→TS} {te:TE}
def XV (K:PySem.W.Frag) (te:TE) (f:ST→Option R):Prop:=∀A st σ H ts Hb ι r,au K A st σ H ts Hb ι→f st=some r→∃v,Rt K σ ι Hb r v∧∀H':Hp,(∀a C dx fs,H a=some (.ins C dx fs)→H' a=some (.ins C dx fs))→∀Q:VK,Q v H'→te σ H' Q
def pV (i:Nat):ST→Option R:=fun st=>match st.s[i]? with
 | some (.v r)=>some r
 | _=>none
theorem ad7 {i:Nat}:XV K (tVar i) (pV i):=fun A st σ H ts Hb ι r C h=>by
 unfold pV at h
 split at h
 ·rename_i r' hr
  cases h
  obtain⟨v,e,q⟩:=C.val i _ hr
  exact⟨v,yG q,fun H' _ Q hq=>⟨v,e,hq⟩⟩
 ·cases h
structure Bk (K:PySem.W.Frag) (A A':Ac) (a:Addr) (u u':HO) (un:ST→Option ST) (t0:Tp):Prop where
 back:∀st st' σ H us Hb ι,au K A' st σ H us Hb ι→t0.p ι Hb→un st=some st'→H a=some u'∧∃bB,au K A st' σ (upd H a u) us bB ι∧Rl Hb bB∧(∀b,b≠a→Hb b=none→bB b=none)∧st'.s=st.s
 nH:∀b,A'.H b=none→A.H b=none∧b≠a
def Ih (un:ST→Option ST):Rs→Option Rs
 | .nx st=>(un st).map .nx
 | .bk st=>(un st).map .bk
 | .ct st=>(un st).map .ct
 | .rt r st=>(un st).map (.rt r)
 | .rn b st=>(un st).map (.rn b)
 | .ex x st=>(un st).map (.ex x)
theorem Rt.rl {ι:List Addr} {Hb bB:Hp} {r:R} {v:V} (h:Rt K σ ι Hb r v) (rl:Rl Hb bB):Rt K σ ι bB r v:=(rt K σ r v).m _ _ _ _ (bJ.refl _) rl h
theorem m9.lock {A A':Ac} {a:Addr} {od:Obj} {u:HO} {un:ST→Option ST} {fs:List Tp} {T:Ends} {z y:Rs} {t0:Tp} (B:Bk K A A' a u (.frz od u) un t0) (e:Ih un z=some y) (p:m9 K W A fs T y):m9 K (yF a od u W) A' (t0::fs) (W4 a od u T) z:=by
 cases z with
 | nx st=>
  obtain⟨st',h1,rfl⟩:=a0b.mp e
  intro σ H ⟨Hb,ι,C⟩
  obtain⟨e1,bB,C',_⟩:=B.back st st' σ H _ Hb ι C (C.tmp t0 (by simp)) h1
  exact⟨e1,p σ _ ⟨bB,ι,C'.temps fun q hq=>C'.tmp q (by simp[hq])⟩⟩
 | bk st=>
  obtain⟨st',h1,rfl⟩:=a0b.mp e
  intro σ H ⟨Hb,ι,C⟩
  obtain⟨e1,bB,C',_⟩:=B.back st st' σ H _ Hb ι C (C.tmp t0 (by simp)) h1
  exact⟨e1,p σ _ ⟨bB,ι,C'.temps fun q hq=>C'.tmp q (by simp[hq])⟩⟩
 | ct st=>
  obtain⟨st',h1,rfl⟩:=a0b.mp e
  intro σ H ⟨Hb,ι,C⟩
  obtain⟨e1,bB,C',_⟩:=B.back st st' σ H _ Hb ι C (C.tmp t0 (by simp)) h1
  exact⟨e1,p σ _ ⟨bB,ι,C'.temps fun q hq=>C'.tmp q (by simp[hq])⟩⟩
 | rt r st=>
  obtain⟨st',h1,rfl⟩:=a0b.mp e
  intro σ v H ⟨Hb,ι,C⟩
  obtain⟨e1,bB,C',_⟩:=B.back st st' σ H _ Hb ι C (C.tmp t0 (by simp)) h1
  exact⟨e1,p σ v _ ⟨bB,ι,C'.temps fun q hq=>C'.tmp q (by rcases a0c.mp hq with h|h<;>simp[h])⟩⟩
 | rn b st=>
  obtain⟨st',h1,rfl⟩:=a0b.mp e
  intro σ v H CO
  obtain⟨Hb,ι,a2,u2,C,h2,h3,h4,h5,h6,h7,h8,h9⟩:=CO
  obtain⟨e1,bB,C',rl,nb,es⟩:=B.back st st' σ H _ Hb ι C (C.tmp t0 (by simp)) h1
  have C':=C'.temps (ts':=fs) fun q hq=>C'.tmp q (by simp[hq])
  obtain⟨r1,r2⟩:=B.nH a2 h7
  exact⟨e1,p σ v _ ⟨bB,ι,a2,u2,C',h2,by rw[a0n r2];exact h3,h4.mono (bJ.refl _) rl,nb a2 r2 h5,h6,r1,h8,fun i c hc=>h9 i c (by rw[es] at hc;exact hc)⟩⟩
 | ex x st=>
  obtain⟨st',h1,rfl⟩:=a0b.mp e
  intro cls d σ H X
  obtain⟨Hb,ι,dd,vs,C,h2,h3,h4,h5,h6,h7,h8⟩:=X
  obtain⟨e1,bB,C',rl,nb,es⟩:=B.back st st' σ H _ Hb ι C (C.tmp t0 (by simp)) h1
  have C':=C'.temps (ts':=fs) fun q hq=>C'.tmp q (by simp[hq])
  obtain⟨r1,r2⟩:=B.nH dd h7
  exact⟨e1,p cls d σ _ ⟨bB,ι,dd,vs,C',h2,h3,by rw[a0n r2];exact h4,h5,aq.mono rl _ _ h6,r1,nb dd r2 h8⟩⟩
theorem au.afB (C:au K A st σ H ts Hb ι) {a:Addr} {od:Obj} {kvs:List (Key×V)} (hb:Hb a=some (.dK kvs)):au K ⟨upd A.H a (.frz od (.dK kvs)),upd A.B a (.frz od (.dK kvs)),A.ι⟩ st σ (upd H a (.frz od (.dK kvs))) ts (upd Hb a (.frz od (.dK kvs))) ι:=by
 have rl:Rl Hb (upd Hb a (.frz od (.dK kvs))):=fun b u e=>by
  by_cases z:b=a
  ·subst z;rw[hb] at e;cases e;exact⟨_,a0r,.lk od kvs⟩
  ·exact⟨u,by rw[a0n z];exact e,.rf u⟩
 have two:∀{G G':Hp},Ex G G'→Ex (upd G a (.frz od (.dK kvs))) (upd G' a (.frz od (.dK kvs))):=fun e b u q=>by
  by_cases z:b=a
  ·subst z;rw[a0r] at q ⊢;exact q
  ·rw[a0n z] at q ⊢;exact e b u q
 have qR:a∉ι:=fun hm=>by
  obtain⟨n,hn⟩:=a0H hm
  have hlt:n<st.h.length:=by rw[← C.hl];exact(a0d.mp hn).1
  obtain⟨x,u,g1,_,_,g4⟩:=C.obj n _ (a0e hlt)
  rw[hn] at g1;cases g1
  rw[hb] at g4;cases g4
 refine {keep:=fun x o e n=>?_,eB:=two C.eB,bH:=two C.bH,ap:=fun x h1 h2=>?_,pre:=C.pre,hl:=C.hl,len:=C.len,val:=fun i r h=>?_,obj:=fun n c h=>?_,own:=fun i c h=>?_,inj:=C.inj,new:=fun x hm=>?_,dsl:=C.dsl,tmp:=fun q hq=>q.m _ _ _ _ (bJ.refl _) rl (C.tmp q hq)}
 ·have e:upd A.H a (.frz od (.dK kvs)) x=some o:=e
  by_cases z:x=a
  ·subst z;rw[a0r] at e ⊢;exact e
  ·rw[a0n z] at e ⊢;exact C.keep x o e n
 ·have h1:upd A.B a (.frz od (.dK kvs)) x=none:=h1
  have h2:upd A.H a (.frz od (.dK kvs)) x≠none:=h2
  have z:x≠a:=fun z=>by rw[z,a0r] at h1;cases h1
  rw[a0n z] at h1 h2 ⊢
  exact C.ap x h1 h2
 ·obtain⟨v,e,q⟩:=C.val i r h
  exact⟨v,e,q.mono (bJ.refl _) rl⟩
 ·obtain⟨x,u,e1,e2,e3,e4⟩:=C.obj n c h
  have z:x≠a:=fun z=>qR (z▸a0l e1)
  exact⟨x,u,e1,by rw[a0n z];exact e2,e3.mono (bJ.refl _) rl,by rw[a0n z];exact e4⟩
 ·obtain⟨x,u,e1,e2,e3,e4,e5,e6,e7⟩:=C.own i c h
  have z:x≠a:=fun z=>by rw[z,hb] at e4;cases e4
  exact⟨x,u,e1,by rw[a0n z];exact e2,e3.mono (bJ.refl _) rl,by rw[a0n z];exact e4,e5,by show upd A.H a _ x=none;rw[a0n z];exact e6,e7⟩
 ·have z:x≠a:=fun z=>qR (z▸hm)
  exact(C.new x hm).imp id fun q o e=>q o (by have e:upd A.H a _ x=some o:=e;rw[a0n z] at e;exact e)
theorem agD (C:au K A st σ H ts Hb ι) {a:Addr} {od:Obj} {kvs:List (Key×V)} (hb:Hb a=some (.dK kvs)):Bk K A ⟨upd A.H a (.frz od (.dK kvs)),upd A.B a (.frz od (.dK kvs)),A.ι⟩ a (.dK kvs) (.frz od (.dK kvs)) some pQ where
 nH:=fun b h=>by
  have h:upd A.H a (.frz od (.dK kvs)) b=none:=h
  by_cases z:b=a
  ·rw[z,a0r] at h;cases h
  ·rw[a0n z] at h;exact⟨h,z⟩
 back:=fun st5 XJ tY H5 us dH dO C5 _ e=>by
  cases e
  have hH:=C.bH a _ hb
  have nA:a∉A.ι:=fun hm=>by
   obtain⟨n,hn⟩:=a0H (C.pre.mem hm)
   have hlt:n<st.h.length:=by rw[← C.hl];exact(a0d.mp hn).1
   obtain⟨x,u,g1,_,_,g4⟩:=C.obj n _ (a0e hlt)
   rw[hn] at g1;cases g1
   rw[hb] at g4;cases g4
  have qT:H5 a=some (.frz od (.dK kvs)):=C5.keep a _ a0r (.inl nA)
  have tZ:dH a=some (.frz od (.dK kvs)):=C5.eB a _ a0r
  have rl:Rl dH (upd dH a (.dK kvs)):=fun b u e=>by
   by_cases z:b=a
   ·subst z;rw[tZ] at e;cases e;exact⟨_,a0r,.ul od kvs⟩
   ·exact⟨u,by rw[a0n z];exact e,.rf u⟩
  have qR:a∉dO:=fun hm=>by
   obtain⟨n,hn⟩:=a0H hm
   have hlt:n<st5.h.length:=by rw[← C5.hl];exact(a0d.mp hn).1
   obtain⟨x,u,g1,_,_,g4⟩:=C5.obj n _ (a0e hlt)
   rw[hn] at g1;cases g1
   rw[tZ] at g4;cases g4
  have afC:∀u,A.H a=some u→u=.dK kvs:=fun u e=>by have:=C.keep a u e (.inl nA);rw[hH] at this;cases this;rfl
  refine⟨qT,upd dH a (.dK kvs),{keep:=fun x o e n=>?_,eB:=fun x o e=>?_,bH:=fun x o e=>?_,ap:=fun x h1 h2=>?_,pre:=C5.pre,hl:=C5.hl,len:=C5.len,val:=fun i r h=>?_,obj:=fun n c h=>?_,own:=fun i c h=>?_,inj:=C5.inj,new:=fun x hm=>?_,dsl:=C5.dsl,tmp:=fun q hq=>q.m _ _ _ _ (bJ.refl _) rl (C5.tmp q hq)},rl,fun b z e=>by rw[a0n z];exact e,rfl⟩
  ·by_cases z:x=a
   ·subst z;rw[afC o e,a0r]
   ·rw[a0n z];exact C5.keep x o (by show upd A.H a _ x=some o;rw[a0n z];exact e) n
  ·by_cases z:x=a
   ·subst z
    have:=C.eB x o e
    rw[hb] at this;cases this
    exact a0r
   ·rw[a0n z];exact C5.eB x o (by show upd A.B a _ x=some o;rw[a0n z];exact e)
  ·by_cases z:x=a
   ·subst z;rw[a0r] at e ⊢;exact e
   ·rw[a0n z] at e ⊢;exact C5.bH x o e
  ·have z:x≠a:=fun z=>by
    subst z
    have:=C.ap x h1 h2
    rw[hb] at this;cases this
   rw[a0n z]
   exact C5.ap x (by show upd A.B a _ x=none;rw[a0n z];exact h1) (by show upd A.H a _ x≠none;rw[a0n z];exact h2)
  ·obtain⟨v,e,q⟩:=C5.val i r h
   exact⟨v,e,q.mono (bJ.refl _) rl⟩
  ·obtain⟨x,u,e1,e2,e3,e4⟩:=C5.obj n c h
   have z:x≠a:=fun z=>qR (z▸a0l e1)
   exact⟨x,u,e1,by rw[a0n z];exact e2,e3.mono (bJ.refl _) rl,by rw[a0n z];exact e4⟩
  ·obtain⟨x,u,e1,e2,e3,e4,e5,e6,e7⟩:=C5.own i c h
   have z:x≠a:=fun z=>by rw[z,tZ] at e4;cases e4
   have e6:upd A.H a _ x=none:=e6
   rw[a0n z] at e6
   exact⟨x,u,e1,by rw[a0n z];exact e2,e3.mono (bJ.refl _) rl,by rw[a0n z];exact e4,e5,e6,e7⟩
  ·have z:x≠a:=fun z=>qR (z▸hm)
   exact(C5.new x hm).imp id fun q o e=>q o (by show upd A.H a _ x=some o;rw[a0n z];exact e)
theorem au.afD (C:au K A st σ H ts Hb ι) {n:Nat} {a:Addr} {od:Obj} {ks:List Key} {ds:List D} {vs:List V} (h:st.h[n]?=some (.aV ks ds)) (ea:ι[n]?=some a) (hH:H a=some (.dK (ks.zip vs))) (hl:ks.length=vs.length) (q:aq K Hb ds vs) :
  au K ⟨upd A.H a (.frz od (.dK (ks.zip vs))),A.B,A.ι⟩ ⟨st.s,st.h.set n (.iD ks ds)⟩ σ (upd H a (.frz od (.dK (ks.zip vs)))) ts Hb ι:=by
 have C1:=C.Qe (b':=.iD ks ds) (u':=.frz od (.dK (ks.zip vs))) h ea ⟨od,vs,rfl,hl,q⟩ (fun u e=>by rw[hH] at e;cases e;rfl)
 obtain⟨_,_,_,_,_,hb⟩:=C.obj n _ h
 have hba:Hb a=none:=by obtain⟨a',u,e1,_,_,e4⟩:=C.obj n _ h;rw[ea] at e1;cases e1;exact e4
 refine {C1 with keep:=fun x o e n=>?_,ap:=fun x h1 h2=>?_,own:=fun i c h'=>?_,new:=fun x hm=>?_}
 ·have e:upd A.H a (.frz od (.dK (ks.zip vs))) x=some o:=e
  by_cases z:x=a
  ·subst z;rw[a0r] at e ⊢;exact e
  ·rw[a0n z] at e;exact C1.keep x o e n
 ·have h2:upd A.H a (.frz od (.dK (ks.zip vs))) x≠none:=h2
  by_cases z:x=a
  ·subst z;exact hba
  ·rw[a0n z] at h2;exact C1.ap x h1 h2
 ·obtain⟨x,u,e1,e2,e3,e4,e5,e6,e7⟩:=C1.own i c h'
  have z:x≠a:=fun z=>e5 (z▸a0l ea)
  exact⟨x,u,e1,e2,e3,e4,e5,by show upd A.H a _ x=none;rw[a0n z];exact e6,e7⟩
 ·by_cases z:x=a
  ·subst z;exact .inr fun o e=>by have e:upd A.H x _ x=some o:=e;rw[a0r] at e;cases e;rfl
  ·exact(C1.new x hm).imp id fun q o e=>q o (by have e:upd A.H a _ x=some o:=e;rw[a0n z] at e;exact e)
theorem au.afE (C:au K A st σ H ts Hb ι) {n:Nat} {a:Addr} {od:Obj} {ks:List Key} {ds:List R} {vs:List V} (h:st.h[n]?=some (.cQ ks ds)) (ea:ι[n]?=some a) (hH:H a=some (.dK (ks.zip vs))) (hl:ks.length=vs.length) (q:bA K ι Hb ds vs) :
  au K ⟨upd A.H a (.frz od (.dK (ks.zip vs))),A.B,A.ι⟩ ⟨st.s,st.h.set n (.lO ks ds)⟩ σ (upd H a (.frz od (.dK (ks.zip vs)))) ts Hb ι:=by
 have C1:=C.Qe (b':=.lO ks ds) (u':=.frz od (.dK (ks.zip vs))) h ea ⟨od,vs,rfl,hl,q⟩ (fun u e=>by rw[hH] at e;cases e;rfl)
 obtain⟨_,_,_,_,_,hb⟩:=C.obj n _ h
 have hba:Hb a=none:=by obtain⟨a',u,e1,_,_,e4⟩:=C.obj n _ h;rw[ea] at e1;cases e1;exact e4
 refine {C1 with keep:=fun x o e n=>?_,ap:=fun x h1 h2=>?_,own:=fun i c h'=>?_,new:=fun x hm=>?_}
 ·have e:upd A.H a (.frz od (.dK (ks.zip vs))) x=some o:=e
  by_cases z:x=a
  ·subst z;rw[a0r] at e ⊢;exact e
  ·rw[a0n z] at e;exact C1.keep x o e n
 ·have h2:upd A.H a (.frz od (.dK (ks.zip vs))) x≠none:=h2
  by_cases z:x=a
  ·subst z;exact hba
  ·rw[a0n z] at h2;exact C1.ap x h1 h2
 ·obtain⟨x,u,e1,e2,e3,e4,e5,e6,e7⟩:=C1.own i c h'
  have z:x≠a:=fun z=>e5 (z▸a0l ea)
  exact⟨x,u,e1,e2,e3,e4,e5,by show upd A.H a _ x=none;rw[a0n z];exact e6,e7⟩
 ·by_cases z:x=a
  ·subst z;exact .inr fun o e=>by have e:upd A.H x _ x=some o:=e;rw[a0r] at e;cases e;rfl
  ·exact(C1.new x hm).imp id fun q o e=>q o (by have e:upd A.H a _ x=some o:=e;rw[a0n z] at e;exact e)
open Classical in
noncomputable def Ii (n:Nat) (ks:List Key) (ds:List D):ST→Option ST:=fun st=>if st.h[n]?=some (.iD ks ds) then some ⟨st.s,st.h.set n (.aV ks ds)⟩ else none
theorem ad8 {n:Nat} {ks:List Key} {ds:List D} {st st':ST} (h:Ii n ks ds st=some st'):st.h[n]?=some (.iD ks ds)∧st'=⟨st.s,st.h.set n (.aV ks ds)⟩:=by
 unfold Ii at h
 split at h
 ·rename_i q;cases h;exact⟨q,rfl⟩
 ·cases h
open Classical in
noncomputable def Ij (n:Nat) (ks:List Key) (ds:List R):ST→Option ST:=fun st=>if st.h[n]?=some (.lO ks ds) then some ⟨st.s,st.h.set n (.cQ ks ds)⟩ else none
theorem ad9 {n:Nat} {ks:List Key} {ds:List R} {st st':ST} (h:Ij n ks ds st=some st'):st.h[n]?=some (.lO ks ds)∧st'=⟨st.s,st.h.set n (.cQ ks ds)⟩:=by
 unfold Ij at h
 split at h
 ·rename_i q;cases h;exact⟨q,rfl⟩
 ·cases h
theorem zip_inj {α β:Type}:∀{ks:List α} {vs us:List β},ks.length=vs.length→ks.length=us.length→ks.zip vs=ks.zip us→vs=us
 | [],[],[],_,_,_=>rfl
 | [],_::_,_,h,_,_=>by simp at h
 | [],_,_::_,_,h,_=>by simp at h
 | _::_,[],_,h,_,_=>by simp at h
 | _::_,_,[],_,h,_=>by simp at h
 | k::ks,v::vs,u::us,h,h',e=>by
  simp only[a0w,List.cons.injEq,Prod.mk.injEq,true_and] at e
  rw[e.1,zip_inj (by simpa using h) (by simpa using h') e.2]
theorem agE (C:au K A st σ H ts Hb ι) {n:Nat} {a:Addr} {od:Obj} {ks:List Key} {ds:List D} {vs:List V} (h:st.h[n]?=some (.aV ks ds)) (ea:ι[n]?=some a) (hH:H a=some (.dK (ks.zip vs))) (hl:ks.length=vs.length) :
  Bk K A ⟨upd A.H a (.frz od (.dK (ks.zip vs))),A.B,A.ι⟩ a (.dK (ks.zip vs)) (.frz od (.dK (ks.zip vs))) (Ii n ks ds) (tX a n) where
 nH:=fun b h=>by
  have h:upd A.H a (.frz od (.dK (ks.zip vs))) b=none:=h
  by_cases z:b=a
  ·rw[z,a0r] at h;cases h
  ·rw[a0n z] at h;exact⟨h,z⟩
 back:=fun st5 XJ tY H5 us dH dO C5 e5 e=>by
  obtain⟨h5,rfl⟩:=ad8 e
  have e5:dO[n]?=some a:=e5
  have qT:H5 a=some (.frz od (.dK (ks.zip vs))):=C5.keep a _ a0r (.inr rfl)
  have Q5:a∈dO:=a0l e5
  obtain⟨a',u5,g1,g2,⟨od',vs',rfl,hl',q5⟩,wu⟩:=C5.obj n _ h5
  rw[e5] at g1;cases g1
  rw[qT] at g2
  have g3:=a0z g2
  injection g3 with g4 g5
  injection g5 with g6
  cases zip_inj hl hl' g6
  refine⟨qT,dH,{keep:=fun x o e n=>?_,eB:=C5.eB,bH:=fun x o e=>?_,ap:=fun x h1 h2=>?_,pre:=C5.pre,hl:=by simp[C5.hl],len:=C5.len,val:=C5.val,obj:=fun m c h=>?_,own:=fun i c h=>?_,inj:=C5.inj,new:=fun x hm=>?_,dsl:=C5.dsl,tmp:=C5.tmp},Rl.refl _,fun b _ e=>e,rfl⟩
  ·by_cases z:x=a
   ·subst z
    have:=C.keep x o e n
    rw[hH] at this;cases this
    exact a0r
   ·rw[a0n z];exact C5.keep x o (by show upd A.H a _ x=some o;rw[a0n z];exact e) n
  ·have z:x≠a:=fun z=>by rw[z,wu] at e;cases e
   rw[a0n z];exact C5.bH x o e
  ·by_cases z:x=a
   ·subst z;exact wu
   ·exact C5.ap x h1 (by show upd A.H a _ x≠none;rw[a0n z];exact h2)
  ·rcases get_set h with ⟨rfl,e',z⟩|⟨nm,h⟩
   ·cases e'
    exact⟨a,_,e5,a0r,⟨_,rfl,hl,q5⟩,wu⟩
   ·obtain⟨x,u,k1,k2,k3,k4⟩:=C5.obj m c h
    have z:x≠a:=fun z=>nm (Fo C5.inj k1 (by rw[z];exact e5))
    exact⟨x,u,k1,by rw[a0n z];exact k2,k3,k4⟩
  ·obtain⟨x,u,k1,k2,k3,k4,k5,k6,k7⟩:=C5.own i c h
   have z:x≠a:=fun z=>k5 (z▸Q5)
   have k6:upd A.H a _ x=none:=k6
   rw[a0n z] at k6
   exact⟨x,u,k1,by rw[a0n z];exact k2,k3,k4,k5,k6,k7⟩
  ·by_cases z:x=a
   ·subst z;exact C.new x (a0l ea)
   ·exact(C5.new x hm).imp id fun q o e=>q o (by show upd A.H a _ x=some o;rw[a0n z];exact e)
theorem agF (C:au K A st σ H ts Hb ι) {n:Nat} {a:Addr} {od:Obj} {ks:List Key} {ds:List R} {vs:List V} (h:st.h[n]?=some (.cQ ks ds)) (ea:ι[n]?=some a) (hH:H a=some (.dK (ks.zip vs))) (hl:ks.length=vs.length) :
  Bk K A ⟨upd A.H a (.frz od (.dK (ks.zip vs))),A.B,A.ι⟩ a (.dK (ks.zip vs)) (.frz od (.dK (ks.zip vs))) (Ij n ks ds) (tX a n) where
 nH:=fun b h=>by
  have h:upd A.H a (.frz od (.dK (ks.zip vs))) b=none:=h
  by_cases z:b=a
  ·rw[z,a0r] at h;cases h
  ·rw[a0n z] at h;exact⟨h,z⟩
 back:=fun st5 XJ tY H5 us dH dO C5 e5 e=>by
  obtain⟨h5,rfl⟩:=ad9 e
  have e5:dO[n]?=some a:=e5
  have qT:H5 a=some (.frz od (.dK (ks.zip vs))):=C5.keep a _ a0r (.inr rfl)
  have Q5:a∈dO:=a0l e5
  obtain⟨a',u5,g1,g2,⟨od',vs',rfl,hl',q5⟩,wu⟩:=C5.obj n _ h5
  rw[e5] at g1;cases g1
  rw[qT] at g2
  have g3:=a0z g2
  injection g3 with g4 g5
  injection g5 with g6
  cases zip_inj hl hl' g6
  refine⟨qT,dH,{keep:=fun x o e n=>?_,eB:=C5.eB,bH:=fun x o e=>?_,ap:=fun x h1 h2=>?_,pre:=C5.pre,hl:=by simp[C5.hl],len:=C5.len,val:=C5.val,obj:=fun m c h=>?_,own:=fun i c h=>?_,inj:=C5.inj,new:=fun x hm=>?_,dsl:=C5.dsl,tmp:=C5.tmp},Rl.refl _,fun b _ e=>e,rfl⟩
  ·by_cases z:x=a
   ·subst z
    have:=C.keep x o e n
    rw[hH] at this;cases this
    exact a0r
   ·rw[a0n z];exact C5.keep x o (by show upd A.H a _ x=some o;rw[a0n z];exact e) n
  ·have z:x≠a:=fun z=>by rw[z,wu] at e;cases e
   rw[a0n z];exact C5.bH x o e
  ·by_cases z:x=a
   ·subst z;exact wu
   ·exact C5.ap x h1 (by show upd A.H a _ x≠none;rw[a0n z];exact h2)
  ·rcases get_set h with ⟨rfl,e',z⟩|⟨nm,h⟩
   ·cases e'
    exact⟨a,_,e5,a0r,⟨_,rfl,hl,q5⟩,wu⟩
   ·obtain⟨x,u,k1,k2,k3,k4⟩:=C5.obj m c h
    have z:x≠a:=fun z=>nm (Fo C5.inj k1 (by rw[z];exact e5))
    exact⟨x,u,k1,by rw[a0n z];exact k2,k3,k4⟩
  ·obtain⟨x,u,k1,k2,k3,k4,k5,k6,k7⟩:=C5.own i c h
   have z:x≠a:=fun z=>k5 (z▸Q5)
   have k6:upd A.H a _ x=none:=k6
   rw[a0n z] at k6
   exact⟨x,u,k1,by rw[a0n z];exact k2,k3,k4,k5,k6,k7⟩
  ·by_cases z:x=a
   ·subst z;exact C.new x (a0l ea)
   ·exact(C5.new x hm).imp id fun q o e=>q o (by show upd A.H a _ x=some o;rw[a0n z];exact e)
theorem Fy {A0:Ac} {a:Addr} {od:Obj} {ks:List Key} {vs:List V} {lk:ST→Prop} {t:Tp} (hl:ks.length=vs.length) (hA:A0.H a=some (.frz od (.dK (ks.zip vs)))):Walk K A0 (Itk a od (ks.zip vs)) t ⟨ks.map fun k=>.d (kD k),lk⟩ where
 goes:=fun i A st σ H ts e ⟨Hb,ι,C⟩ hlk h=>⟨C.keep a _ (e a _ hA) (.inr rfl),by rw[b0u,← hl,b0r];simpa using h⟩
 stops:=fun A st σ H ts e ⟨Hb,ι,C⟩ hlk=>⟨C.keep a _ (e a _ hA) (.inr rfl),by rw[b0u,← hl,b0r];simp⟩
 yields:=fun i r A st σ H x H' ts h _ C hlk y=>by
  obtain⟨e1,k,v,hk,rfl⟩:=y
  subst e1
  have hk':ks[i]?=some k:=(List.getElem?_zip_eq_some.mp hk).1
  rw[a0p,hk'] at h
  cases h
  exact C.temps fun q hq=>(a0c.mp hq).elim (fun z=>.inr fun ι Hb=>by rw[z];exact W3 k) .inl
theorem au.nA (C:au K A st σ H ts Hb ι) {a:Addr} {o:HO} (hb:Hb a=some o):a∉ι∧a∉A.ι:=by
 have n1:a∉ι:=fun hm=>by
  obtain⟨n,hn⟩:=a0H hm
  have hlt:n<st.h.length:=by rw[← C.hl];exact(a0d.mp hn).1
  obtain⟨x,u,g1,_,_,g4⟩:=C.obj n _ (a0e hlt)
  rw[hn] at g1;cases g1
  rw[hb] at g4;cases g4
 exact⟨n1,fun z=>n1 (C.pre.mem z)⟩
theorem au.pin (C:au K A st σ H ts Hb ι) {a:Addr} {o:HO} (hb:Hb a=some o):au K ⟨upd A.H a o,upd A.B a o,A.ι⟩ st σ H ts Hb ι:=by
 obtain⟨qR,_⟩:=C.nA hb
 refine {C with keep:=fun x u e n=>?_,eB:=fun x u e=>?_,ap:=fun x h1 h2=>?_,own:=fun i c h=>?_,new:=fun x hm=>?_}
 ·have e:upd A.H a o x=some u:=e
  by_cases z:x=a
  ·subst z;rw[a0r] at e;cases e;exact C.bH x _ hb
  ·rw[a0n z] at e;exact C.keep x u e n
 ·have e:upd A.B a o x=some u:=e
  by_cases z:x=a
  ·subst z;rw[a0r] at e;cases e;exact hb
  ·rw[a0n z] at e;exact C.eB x u e
 ·have h1:upd A.B a o x=none:=h1
  have h2:upd A.H a o x≠none:=h2
  have z:x≠a:=fun z=>by rw[z,a0r] at h1;cases h1
  rw[a0n z] at h1 h2
  exact C.ap x h1 h2
 ·obtain⟨x,u,e1,e2,e3,e4,e5,e6,e7⟩:=C.own i c h
  have z:x≠a:=fun z=>by rw[z,hb] at e4;cases e4
  exact⟨x,u,e1,e2,e3,e4,e5,by show upd A.H a o x=none;rw[a0n z];exact e6,e7⟩
 ·have z:x≠a:=fun z=>qR (z▸hm)
  exact(C.new x hm).imp id fun q o' e=>q o' (by have e:upd A.H a o x=some o':=e;rw[a0n z] at e;exact e)
theorem au.unpin {st5:ST} {tY:L2.St} {H5:Hp} {us:List Tp} {dH:Hp} {dO:List Addr} {a:Addr} {o:HO} (C:au K A st σ H ts Hb ι) (hb:Hb a=some o) (C5:au K ⟨upd A.H a o,upd A.B a o,A.ι⟩ st5 tY H5 us dH dO):au K A st5 tY H5 us dH dO:=by
 have tZ:dH a=some o:=C5.eB a _ a0r
 have qT:H5 a=some o:=C5.bH a _ tZ
 obtain⟨_,nA⟩:=C.nA hb
 obtain⟨qR,_⟩:=C5.nA tZ
 refine {C5 with keep:=fun x u e n=>?_,eB:=fun x u e=>?_,ap:=fun x h1 h2=>?_,own:=fun i c h=>?_,new:=fun x hm=>?_}
 ·by_cases z:x=a
  ·subst z
   have:=C.keep x u e n
   rw[C.bH x _ hb] at this;cases this
   exact qT
  ·exact C5.keep x u (by show upd A.H a o x=some u;rw[a0n z];exact e) n
 ·by_cases z:x=a
  ·subst z
   have:=C.eB x u e
   rw[hb] at this;cases this
   exact tZ
  ·exact C5.eB x u (by show upd A.B a o x=some u;rw[a0n z];exact e)
 ·have z:x≠a:=fun z=>by
   subst z
   have:=C.ap x h1 h2
   rw[hb] at this;cases this
  exact C5.ap x (by show upd A.B a o x=none;rw[a0n z];exact h1) (by show upd A.H a o x≠none;rw[a0n z];exact h2)
 ·obtain⟨x,u,e1,e2,e3,e4,e5,e6,e7⟩:=C5.own i c h
  have z:x≠a:=fun z=>by rw[z,tZ] at e4;cases e4
  have e6:upd A.H a o x=none:=e6
  rw[a0n z] at e6
  exact⟨x,u,e1,e2,e3,e4,e5,e6,e7⟩
 ·have z:x≠a:=fun z=>qR (z▸hm)
  exact(C5.new x hm).imp id fun q o' e=>q o' (by show upd A.H a o x=some o';rw[a0n z];exact e)
theorem m9.pin {a:Addr} {o:HO} {fs:List Tp} {T:Ends} {y:Rs} (C:au K A st σ H ts Hb ι) (hb:Hb a=some o) (p:m9 K W A fs T y):m9 K W ⟨upd A.H a o,upd A.B a o,A.ι⟩ fs T y:=by
 have nH:∀{b:Addr},upd A.H a o b=none→A.H b=none:=fun {b} h=>by
  by_cases z:b=a
  ·rw[z,a0r] at h;cases h
  ·rw[a0n z] at h;exact h
 cases y with
 | nx st=>exact fun σ H ⟨dH,dO,C5⟩=>p σ H ⟨dH,dO,C.unpin hb C5⟩
 | bk st=>exact fun σ H ⟨dH,dO,C5⟩=>p σ H ⟨dH,dO,C.unpin hb C5⟩
 | ct st=>exact fun σ H ⟨dH,dO,C5⟩=>p σ H ⟨dH,dO,C.unpin hb C5⟩
 | rt r st=>exact fun σ v H ⟨dH,dO,C5⟩=>p σ v H ⟨dH,dO,C.unpin hb C5⟩
 | rn b st=>
  intro σ v H CO
  obtain⟨dH,dO,a2,u2,C5,h2,h3,h4,h5,h6,h7,h8⟩:=CO
  exact p σ v H ⟨dH,dO,a2,u2,C.unpin hb C5,h2,h3,h4,h5,h6,nH h7,h8⟩
 | ex x st=>
  intro cls d σ H X
  obtain⟨dH,dO,dd,vs,C5,h2,h3,h4,h5,h6,h7,h8⟩:=X
  exact p cls d σ H ⟨dH,dO,dd,vs,C.unpin hb C5,h2,h3,h4,h5,h6,nH h7,h8⟩
noncomputable def yI (f:ST→Option R) (k:G) (b:S):S:=fun st=>match f st with
 | some (.d (.aV ks _))=>forL cC k b (ks.map fun k=>.d (kD k)) st
 | some (.o n)=>(match st.h[n]? with
  | some (.aV ks ds)=>(forL cC k b (ks.map fun k=>.d (kD k)) ⟨st.s,st.h.set n (.iD ks ds)⟩).bind (Ih (Ii n ks ds))
  | some (.cQ ks xs)=>(forL cC k b (ks.map fun k=>.d (kD k)) ⟨st.s,st.h.set n (.lO ks xs)⟩).bind (Ih (Ij n ks xs))
  | _=>none)
 | _=>none
theorem ab2 (z:Rs):Ih some z=some z:=by cases z<;>rfl
theorem acY {f:ST→Option R} (hf:XV K te f) (hg:vZ K g k) (hb:∀W',XS K W' (tb W') b):XS K W (V8 W (fun W'=>tFor (iKeys te) g (tb W'))) (yI f k b):=fun A st σ H fs ⟨Hb,ι,C⟩ T y hy p=>by
 unfold yI at hy
 cases e:f st with
 | none=>rw[e] at hy;cases hy
 | some r=>
  rw[e] at hy
  obtain⟨v,hv,go⟩:=hf A st σ H fs Hb ι r C e
  have ne:∀{a:Addr} {kvs:List (Key×V)} {u:HO},H a=some (.dK kvs)→∀x C dx fs,H x=some (.ins C dx fs)→upd H a u x=some (.ins C dx fs):=fun {a kvs u} h x C dx fs q=>by
   have z:x≠a:=fun z=>by rw[z,h] at q;cases q
   rw[a0n z];exact q
  cases r with
  | w i=>cases hy
  | d x=>
   obtain⟨ks,ds,rfl⟩:∃ks ds,x=.aV ks ds:=by cases x<;>first|exact⟨_,_,rfl⟩|cases hy
   have hy:forL cC k b (ks.map fun k=>.d (kD k)) st=some y:=hy
   have hv:Rp K Hb (.aV ks ds) v:=hv
   unfold Rp at hv
   obtain⟨a,vs,rfl,s,hl,q⟩:=hv
   rcases s with s|⟨od,s⟩
   ·refine .inr ⟨a,_,C.bH a _ s,trivial,fun od=>go _ (ne (C.bH a _ s)) _ ⟨a,od,rfl,.inl ⟨ks.zip vs,a0r,?_⟩⟩⟩
    have C1:=C.afB (od:=od) s
    exact Bm (W:=yF a od (.dK (ks.zip vs)) W) (w:=⟨ks.map fun k=>.d (kD k),cC⟩) (tp:=pQ) (fs:=pQ::fs) ⟨_,ι,C1.temps fun q hq=>by
     rcases a0c.mp hq with rfl|hq
     ·trivial
     ·rcases a0c.mp hq with rfl|hq
      ·trivial
      ·exact C1.tmp q hq⟩ (Fy hl a0r) hg (hb _) hy (m9.lock (agD C s) (ab2 y) p)
   ·
    refine .inl (go H (fun _ _ _ _ h=>h) _ ⟨a,od,rfl,.inl ⟨ks.zip vs,C.bH a _ s,?_⟩⟩)
    have C1:=C.pin s
    exact Bm (W:=W) (w:=⟨ks.map fun k=>.d (kD k),cC⟩) (tp:=pQ) (fs:=fs) ⟨_,ι,C1.temps fun q hq=>by
     rcases a0c.mp hq with rfl|hq
     ·trivial
     ·exact C1.tmp q hq⟩ (Fy hl a0r) hg (hb _) hy (m9.pin C s p)
  | o n=>
   simp only at hy
   cases q:st.h[n]? with
   | none=>rw[q] at hy;cases hy
   | some c=>
    rw[q] at hy
    have hc:(∃ks ds,c=.aV ks ds)∨∃ks ds,c=.cQ ks ds:=by cases c<;>first|exact .inl ⟨_,_,rfl⟩|exact .inr ⟨_,_,rfl⟩|cases hy
    rcases hc with ⟨ks,ds,rfl⟩|⟨ks,ds,rfl⟩
    ·obtain⟨z,hz,hu⟩:=a0a.mp hy
     obtain⟨a,ea,rfl⟩:=hv
     obtain⟨a',u,g1,g2,⟨vs,rfl,hl,qq⟩,g4⟩:=C.obj n _ q
     rw[ea] at g1;cases g1
     refine .inr ⟨a,_,g2,trivial,fun od=>go _ (ne g2) _ ⟨a,od,rfl,.inl ⟨ks.zip vs,a0r,?_⟩⟩⟩
     have C1:=C.afD (od:=od) q ea g2 hl qq
     exact Bm (W:=yF a od (.dK (ks.zip vs)) W) (w:=⟨ks.map fun k=>.d (kD k),cC⟩) (tp:=pQ) (fs:=tX a n::fs) ⟨_,ι,C1.temps fun q hq=>by
      rcases a0c.mp hq with rfl|hq
      ·trivial
      ·rcases a0c.mp hq with rfl|hq
       ·exact ea
       ·exact C1.tmp q hq⟩ (Fy hl a0r) hg (hb _) hz (m9.lock (agE C q ea g2 hl) hu p)
    ·obtain⟨z,hz,hu⟩:=a0a.mp hy
     obtain⟨a,ea,rfl⟩:=hv
     obtain⟨a',u,g1,g2,⟨vs,rfl,hl,qq⟩,g4⟩:=C.obj n _ q
     rw[ea] at g1;cases g1
     refine .inr ⟨a,_,g2,trivial,fun od=>go _ (ne g2) _ ⟨a,od,rfl,.inl ⟨ks.zip vs,a0r,?_⟩⟩⟩
     have C1:=C.afE (od:=od) q ea g2 hl qq
     exact Bm (W:=yF a od (.dK (ks.zip vs)) W) (w:=⟨ks.map fun k=>.d (kD k),cC⟩) (tp:=pQ) (fs:=tX a n::fs) ⟨_,ι,C1.temps fun q hq=>by
      rcases a0c.mp hq with rfl|hq
      ·trivial
      ·rcases a0c.mp hq with rfl|hq
       ·exact ea
       ·exact C1.tmp q hq⟩ (Fy hl a0r) hg (hb _) hz (m9.lock (agF C q ea g2 hl) hu p)
end
theorem kJ {K:PySem.W.Frag}:∀Hb,aq K Hb [] []:=fun _=>aq.nil
def runN (n m:Nat) (b:S):Fn:=fun args h=>if args.length=n then yR m b args h else none
theorem qm {n m:Nat} {b:S} {args:List R} {h:List Ob} {y:Ot×List Ob} (e:runN n m b args h=some y):args.length=n∧yR m b args h=some y:=by
 unfold runN at e
 by_cases q:args.length=n
 ·rw[a0g q] at e;exact⟨q,e⟩
 ·rw[a0h q] at e;cases e
end AL
set_option maxHeartbeats 2000000
namespace DL
open PySem L2 PyProof.Rows
end DL
set_option maxHeartbeats 2000000
namespace DL
open PySem L2 PyProof.Rows
end DL
set_option maxHeartbeats 2000000
namespace AL
open PySem L2 DL PyProof.Rows
end AL
namespace DL
open PySem L2 PyProof.Rows
end DL
set_option maxHeartbeats 2000000
namespace DL
open PySem L2 PyProof.Rows
end DL
namespace AL
open PySem L2 DL PyProof.Rows
section
variable {K:PySem.W.Frag} {W:WX} {A:Ac} {st:ST} {σ:L2.St} {H Hb:Hp} {ts:List Tp} {ι:List Addr} {tt:TT} {t:M Bool} {tb te:TE} {e:M R} {g:TG} {k:G} {vs:List Nat}
def G4 (ks:List Key):List R:=ks.map fun k=>.d (kD k)
theorem fD.unlock {A A':Ac} {a:Addr} {u u':HO} {un:ST→Option ST} {t0:Tp} {st st':ST} {b:Ob} {v:V} (B:Bk K A A' a u u' un t0) (e:un st=some st') (CO:fD K A' st σ H (t0::ts) b v):H a=some u'∧fD K A st' σ (upd H a u) ts b v:=by
 obtain⟨Hb,ι,a2,u2,C,h2,h3,h4,h5,h6,h7,h8,h9⟩:=CO
 obtain⟨e1,bB,C',rl,nb,es⟩:=B.back st st' σ H _ Hb ι C (C.tmp t0 (by simp)) e
 have C':=C'.temps (ts':=ts) fun q hq=>C'.tmp q (by simp[hq])
 obtain⟨r1,r2⟩:=B.nH a2 h7
 exact⟨e1,bB,ι,a2,u2,C',h2,by rw[a0n r2];exact h3,h4.mono (bJ.refl _) rl,nb a2 r2 h5,h6,r1,h8,fun i c hc=>h9 i c (by rw[es] at hc;exact hc)⟩
theorem fD.unpin {a:Addr} {o:HO} {st5:ST} {tY:L2.St} {H5:Hp} {us:List Tp} {b:Ob} {v:V} (C:au K A st σ H ts Hb ι) (hb:Hb a=some o) (CO:fD K ⟨upd A.H a o,upd A.B a o,A.ι⟩ st5 tY H5 us b v):fD K A st5 tY H5 us b v:=by
 obtain⟨dH,dO,a2,u2,C5,h2,h3,h4,h5,h6,h7,h8⟩:=CO
 have nH:A.H a2=none:=by
  have h7:upd A.H a o a2=none:=h7
  by_cases z:a2=a
  ·rw[z,a0r] at h7;cases h7
  ·rw[a0n z] at h7;exact h7
 exact⟨dH,dO,a2,u2,C.unpin hb C5,h2,h3,h4,h5,h6,nH,h8⟩
end
end AL
set_option maxHeartbeats 2000000
namespace AL
open PySem L2 DL PyProof.Rows
open Classical in
noncomputable def vN (F:Fn):Fn:=fun args h=>match F args h with
 | some (.ret (.d x),h')=>some (.ret (.d x),if h'.take h.length=h then h else h')
 | some (.exc x,h')=>some (.exc x,if h'.take h.length=h then h else h')
 | o=>o
section
variable {K:PySem.W.Frag}
theorem ad_ {F:Fn} (vs:List V) (H:Hp) (Q:VK) (E:XK) (h:aQ K (vN F) vs H Q E):aQ K F vs H Q E:=by
 obtain⟨Hb,ι,args,h,y,C,r,e,p⟩:=h
 unfold vN at e
 cases hF:F args h with
 | none=>rw[hF] at e;cases e
 | some z=>
  rw[hF] at e
  refine⟨Hb,ι,args,h,z,C,r,hF,?_⟩
  obtain⟨o,h'⟩:=z
  cases o with
  | exc x=>
   cases e
   show QS K H Hb ι Q E (.exc x,h')
   intro cls d H2 X
   by_cases q:h'.take h.length=h
   ·obtain⟨t,rfl⟩:=Fx q
    rw[a0g q] at p
    obtain⟨bK,bL,dd,us,C2,g⟩:=X
    exact p cls d H2 ⟨bK,ι,dd,us,au.pop C C2 C2.pre (by simp),g⟩
   ·rw[a0h q] at p;exact p cls d H2 X
  | ret w=>
   cases w with
   | d x=>
    cases e
    show QS K H Hb ι Q E (.ret (.d x),h')
    intro v H2 C2
    by_cases q:h'.take h.length=h
    ·obtain⟨t,rfl⟩:=Fx q
     rw[a0g q] at p
     obtain⟨bK,bL,C2⟩:=C2
     have C3:=au.pop C C2 C2.pre (by simp)
     exact p v H2 ⟨bK,ι,C3.temps fun q hq=>by rw[a0s.mp hq];exact C2.tmp (rt K [] (.d x) v) (by simp)⟩
    ·rw[a0h q] at p;exact p v H2 C2
   | o n=>cases e;exact p
   | n b=>cases e;exact p
theorem aea {P:Program} {w:World} {mg:Str→Option Value} {base:Heap} {k:Nat} {f:Addr} {fd:FuncData} {ps:List Str} {F:Fn} (h:FnOk P w K mg base (L2.CX P w) k f fd ps (aQ K F)):FnOk P w K mg base (L2.CX P w) k f fd ps (aQ K (vN F)):=h.imp ad_
end
end AL
namespace AL
open PySem L2 DL PyProof.Rows
end AL
set_option maxHeartbeats 4000000
namespace PySem
namespace iQ
open PySem.W PySem.Calls PyProof.Rows PySem.HandSPX
abbrev Yo (p1 p2 pre mid:Str) (c1 c2:Nat) (j1 j2 j3 j4 j5 j6:Pos):List Expr:=[.Constant (.str pre) c1 j1,.FormattedValue (.Name p1 j2) 114 none j3,.Constant (.str mid) c2 j4,.FormattedValue (.Name p2 j5) (-1) none j6]
abbrev as2 (p1 p2:Str) (q1 q2 q3 q4 r1 r2 r3 r4:Pos):List Stmt:=[.Assign [.Attribute (.Name "self" q1) p1 q2] (.Name p1 q3) q4,.Assign [.Attribute (.Name "self" r1) p2 r2] (.Name p2 r3) r4]
def zu (P:Program) (K:Frag) (mg:Str→Option Value) (cn p1 p2:Str) (C:Addr):Prop:=∃(fI:Addr) (qual:Str) (st:Stmt) (pre mid:Str) (c1 c2:Nat) (j1 j2 j3 j4 j5 j6 q1 q2 q3 q4 r1 r2 r3 r4:Pos),
 Bl P K mg C fI cn qual st [p1,p2] (Yo p1 p2 pre mid c1 c2 j1 j2 j3 j4 j5 j6) (as2 p1 p2 q1 q2 q3 q4 r1 r2 r3 r4)∧yu st qual [p1,p2] (Yo p1 p2 pre mid c1 c2 j1 j2 j3 j4 j5 j6) (as2 p1 p2 q1 q2 q3 q4 r1 r2 r3 r4)∧
 (p1 == ("__debug__":Str))=false∧(p2 == ("__debug__":Str))=false∧(p1 == p2)=false∧findIn K (.ref C) p1=some none∧findIn K (.ref C) p2=some none∧pre.length≤100∧mid.length≤100
section
variable {P:Program} {K:Frag} {mg:Str→Option Value} {cn p1 p2:Str} {C:Addr}
theorem zu.xf (T:zu P K mg cn p1 p2 C):L2.XfC K C:=by
 obtain⟨fI,qual,st,pre,mid,c1,c2,j1,j2,j3,j4,j5,j6,q1,q2,q3,q4,r1,r2,r3,r4,T,S,_⟩:=T
 exact⟨T.ga,T.gg,T.exC,T.hdC⟩
theorem zu.no (T:zu P K mg cn p1 p2 C):findIn K (.ref C) p1=some none:=by
 obtain⟨fI,qual,st,pre,mid,c1,c2,j1,j2,j3,j4,j5,j6,q1,q2,q3,q4,r1,r2,r3,r4,T,S,_,_,_,h,_⟩:=T
 exact h
theorem zu.g (T:zu P K mg cn p1 p2 C):mg cn=some (.ref C):=by
 obtain⟨fI,qual,st,pre,mid,c1,c2,j1,j2,j3,j4,j5,j6,q1,q2,q3,q4,r1,r2,r3,r4,T,S,_⟩:=T
 exact T.gC
end
end iQ
end PySem
namespace DL
open PySem L2 PyProof.Rows
end DL
namespace AL
open PySem L2 DL PyProof.Rows
section
variable {X:Cx} {a b e o:Expr} {ta tb te to:TE} {pos p apos cpos:Pos} {k:Nat}
def rIxS:V→List V→Hp→VK→Prop:=fun x xs H Q=>∃(a b:Str) (k:Nat),x=.str a∧xs=[.str b]∧Txt.index0 a b=some k∧Q (.int (k:Nat)) H
end
end AL
namespace DL
open PySem L2 PyProof.Rows
section
variable {P:Program} {w:World} {K:PySem.W.Frag} {H:Hp} {h:Heap}
def KN:List NE→List (NestedKey×Addr×Value)→Prop:=Paired (fun(p:NE) (q:NestedKey×Addr×Value)=>p.1=q.1∧p.2.1=q.2.1∧RelV p.2.2 q.2.2)
def nval (kvs:List NE) (k:NestedKey):Option V:=(kvs.find? fun p=>decide (p.1=k)).map (·.2.2)
def XM (kvs:List NE) (k:NestedKey) (a:Addr) (v:V):List NE:=if (nval kvs k).isSome then kvs.map (fun p=>if p.1=k then(p.1,p.2.1,v) else p) else kvs++[(k,a,v)]
theorem KN.val {kvs:List NE} {xs:List (NestedKey×Addr×Value)} (r:KN kvs xs) (k:NestedKey):RelO (nval kvs k) ((atKey xs k).map (·.2)):=by
 induction r with
 | nil=>exact True.intro
 | @cons p q ps qs hq t ih=>
  unfold nval atKey at ih ⊢
  rw[a0B,a0B,← hq.1]
  by_cases z:p.1=k
  ·rw[show decide (p.1=k)=true from a0q z];exact hq.2.2
  ·rw[show decide (p.1=k)=false from a0F z];exact ih
theorem KN.isSome {kvs:List NE} {xs:List (NestedKey×Addr×Value)} (r:KN kvs xs) (k:NestedKey):(nval kvs k).isSome=(atKey xs k).isSome:=by
 have:=(r.val k).isSome_eq
 rw[Option.isSome_map] at this;exact this
theorem KN.put {kvs:List NE} {xs:List (NestedKey×Addr×Value)} (r:KN kvs xs) (k:NestedKey) (a:Addr) {v:V} {u:Value} (rv:RelV v u):KN (XM kvs k a v) (storedH xs k a u):=by
 unfold XM storedH
 rw[r.isSome k]
 by_cases q:(atKey xs k).isSome=true
 ·rw[a0g q,a0g q]
  clear q
  induction r with
  | nil=>exact .nil
  | @cons p q ps qs hq t ih=>
   refine .cons ?_ ih
   have e:putAt k u q=if p.1=k then(q.1,q.2.1,u) else q:=by unfold putAt;rw[← hq.1]
   rw[e]
   by_cases z:p.1=k
   ·simp only[a0g z];exact⟨hq.1,hq.2.1,rv⟩
   ·simp only[a0h z];exact hq
 ·rw[a0h q,a0h q];exact Paired.snoc r ⟨rfl,rfl,rv⟩
def Wd:NestedKey→Bool
 | .tup _=>true
 | _=>false
end
end DL
namespace AL
open PySem L2 DL PyProof.Rows
mutual
def eO:D→Option NestedKey
 | .non=>some .none
 | .int i=>some (.num i)
 | .str x=>some (.text x)
 | .tup ds=>(nZ ds).map .tup
 | _=>none
def nZ:List D→Option (List NestedKey)
 | []=>some []
 | d::ds=>(eO d).bind fun k=>(nZ ds).map (k::·)
end
def XQ (d:D):Option NestedKey:=(eO d).bind fun k=>if Wd k=true∧k.depth≤8 then some k else none
theorem acZ {d:D} {k:NestedKey} (h:XQ d=some k):eO d=some k∧Wd k=true∧k.depth≤8:=by
 obtain⟨q,h1,h2⟩:=a0a.mp h
 obtain⟨h3,rfl⟩:=ite_some h2
 exact⟨h1,h3.1,h3.2⟩
end AL
namespace DL
open PySem L2 PyProof.Rows
end DL
namespace AL
open PySem L2 DL PyProof.Rows
def afF (n k:Nat):List R:=(List.range k).map fun i=>.o (n+i)
section
variable {st s1 s2:ST} {a b:S} {t u:M Bool} {f g:M R} {y:Option Rs} {x:XD} {r:R} {k:G} {n:M Ob}
theorem aeb (h:a st=some (.nx s1)):ao a b st=b s1:=by unfold ao;rw[h]
theorem Wf (h:a st=some (.rt r s1)):ao a b st=some (.rt r s1):=by unfold ao;rw[h]
theorem Ox (h:a st=some (.ex x s1)):ao a b st=some (.ex x s1):=by unfold ao;rw[h]
theorem XR (h:t st=some (.ok true s1)):bT t a b st=a s1:=by unfold bT;rw[h]
theorem X4 (h:t st=some (.ok false s1)):bT t a b st=b s1:=by unfold bT;rw[h]
theorem agG {c:Bool} (h:t st=some (.ok c s1)):bT t a b st=if c then a s1 else b s1:=by unfold bT;rw[h];cases c<;>rfl
theorem U8 {k:G}:forL cC k b [] st=some (.nx st):=by unfold forL;rw[a0g (show cC st from trivial)]
end
section
variable {st:ST} {i j:Int} {a b:D} {r:R} {s t:Str} {h:List Ob} {v:List Sv}
theorem agH {k:D→D→Option D}:aU k st (.d a) (.d b)=(k a b).map .d:=rfl
theorem v_add:jC st (.d (.int i)) (.d (.int j))=some (.d (.int (i+j))):=rfl
theorem aec (h:-(2 ^ 64)<i∧i<2 ^ 64):pK (.int i) (.int j)=some (.int (i*j)):=a0g (.inl h)
theorem aed (h:-(2 ^ 64)<j∧j<2 ^ 64):pK (.int i) (.int j)=some (.int (i*j)):=a0g (.inr h)
theorem v_mod (h:0<j):jh (.int i) (.int j)=some (.int (i%j)):=a0g h
theorem v_div (h:0<j∧j<1073741824):Hf (.int i) (.int j)=some (.int (i/j)):=a0g h
theorem v_pow (h:0≤j∧j≤1000000∧i.natAbs<2 ^ 64):BX (.int i) (.int j)=some (.int (i ^ j.toNat)):=a0g h
theorem Xd {n:Bool}:kEq n (.int i) (.int j)=some (.bl (if n then !(i == j) else i == j)):=by unfold kEq;rw[a0g (by simp[dB])];simp only[cG]
theorem afG {n:Bool}:kEq n (.str s) (.str t)=some (.bl (if n then !(s == t) else s == t)):=by unfold kEq;rw[a0g (by simp[dB])];simp only[cG]
theorem aee (hs:s.length≤16000000):fZ st [.d (.str s)]=some (.d (.int (s.length:Int))):=by simp[fZ,kLen,snap,Ql,hs]
theorem aef {ds:List D}:fZ st [.d (.lst ds)]=some (.d (.int (ds.length:Int))):=rfl
theorem aeg {ds:List D}:fZ st [.d (.tup ds)]=some (.d (.int (ds.length:Int))):=rfl
theorem aeh {ns:List Int}:fZ st [.d (.dG ns)]=some (.d (.int (ns.length:Int))):=rfl
theorem afH {ns:List Int}:bY st (.d (.dG ns)) (.d (.int i))=(atI ns i).map fun n=>.d (.int n):=by
 simp[bY,K2.or,vH,vI,vJ,BZ,Ca,iG,jm,bW,cQ,bF]
theorem afI {ds:List D}:bY st (.d (.tup ds)) (.d (.int i))=(atI ds i).map .d:=by
 simp[bY,K2.or,vH,vI,vJ,BZ,Ca,iG,jm,bW,cQ,bF]
theorem afJ {ds:List D}:bY st (.d (.lst ds)) (.d (.int i))=(atI ds i).map .d:=by
 simp[bY,K2.or,vH,vI,vJ,BZ,Ca,iG,jm,bW,cQ,bF]
end
theorem afK {k l:K2} {f g e:M R} {st s1 s2:ST} {x y w:R} {b1 b2:Bool} (hf:f st=some (.ok x s1)) (hg:g s1=some (.ok y s2)) (hk:k s2 x y=some (.d (.bl b1))) (he:e s2=some (.ok w s2)) (hl:l s2 y w=some (.d (.bl b2))):m7 k l f g e st=some (.ok (.d (.bl (b1&&b2))) s2):=by
 unfold m7
 rw[cM hf,cM hg]
 simp only[hk]
 cases b1
 ·simp
 ·simp only[cM he,hl];simp
theorem aei {t:M Bool} {st s1:ST} {b:Bool} (h:t st=some (.ok b s1)):fM t st=some (.ok (!b) s1):=by unfold fM;rw[cM h];rfl
theorem aej {t u:M Bool} {st s1:ST} {b b2:Bool} (h:t st=some (.ok b s1)) (h2:u s1=some (.ok b2 s1)):kE t u st=some (.ok (b || b2) s1):=by unfold kE;rw[cM h];cases b<;>simp[h2,M.ret]
theorem aek {t u:M R} {st s1:ST} {b b2:Bool} (h:t st=some (.ok (.d (.bl b)) s1)) (h2:u s1=some (.ok (.d (.bl b2)) s1)):CQ t u st=some (.ok (.d (.bl (b&&b2))) s1):=by
 unfold CQ;rw[cM (show tF t st=some (.ok b s1) by unfold tF M.of;rw[h];rfl)];cases b<;>simp[h2,M.ret]
theorem ac1 {it:M Wk} {k:G} {b:S} {st s1:ST} {w:Wk} (h:it st=some (.ok w s1)):ji it k b st=forL w.lk k b w.xs s1:=by
 unfold ji;rw[h]
section
variable {st s1 s2 s3:ST} {f g:M R} {fa ga:M (List R)} {x y z r:R} {k:K2} {b b2:Bool} {rs:List R} {i:Nat}
theorem e_V (h:st.s[i]?=some (.v r)):eV i st=some (.ok r st):=by unfold eV;rw[h]
theorem Q6 {o:Ob} (h:st.s[i]?=some (.own o)):eV i st=some (.ok (.w i) st):=by unfold eV;rw[h]
theorem a_N:aN st=some (.ok [] st):=rfl
theorem Yp (h:f st=some (.ok r s1)) (h2:ga s1=some (.ok rs s2)):aC f ga st=some (.ok (r::rs) s2):=by unfold aC;rw[cM h,cM h2]
theorem e_B (hf:f st=some (.ok x s1)) (hg:g s1=some (.ok y s2)) (hk:k s2 x y=some z):eB k f g st=some (.ok z s2):=by unfold eB;rw[cM hf,cM hg,hk];rfl
theorem agI {kk:D→D→Option D} {a c d:D} (h:kk a c=some d):aU kk st (.d a) (.d c)=some (.d d):=by rw[agH,h];rfl
theorem tL {α β:Type} {f:M α} {u:ST→α→Option β} {a:α} {c:β} (hf:f st=some (.ok a s1)) (hk:u s1 a=some c):M.of f u st=some (.ok c s1):=by unfold M.of;rw[hf];simp only[hk];rfl
theorem Yq (h:f st=some (.ok (.d (.bl b)) s1)):tF f st=some (.ok b s1):=tL h rfl
theorem t_R (h:f st=some (.ok r s1)) (h2:vY s1 r=some b):tR f st=some (.ok b s1):=tL h h2
theorem s_ret (h:f st=some (.ok r s1)):bV f st=some (.rt r s1):=by unfold bV;rw[h]
theorem yU {kk:G} (h:f st=some (.ok r s1)) (h2:kk r s1=some (.ok () s2)):bQ f kk st=some (.nx s2):=by unfold bQ;simp only[h,h2]
theorem s_drop (h:f st=some (.ok r s1)):jX f st=some (.nx s1):=by unfold jX;rw[h]
theorem afL {n:M Ob} {o:Ob} (h:n st=some (.ok o s1)):jE i n st=some (.nx ⟨s1.s.set i (.own o),s1.h⟩):=by unfold jE;rw[h]
theorem X5 {d:D}:gN i (.d d) st=some (.ok () ⟨st.s.set i (.v (.d d)),st.h⟩):=rfl
theorem agJ {n:Int} (h:fa st=some (.ok [.d (.int n)] s1)) (hn:-1000000000≤n∧n≤1000000000):jd fa st=some (.ok ⟨(qJ 0 n.toNat).map .d,cC⟩ s1):=tL h (a0g hn)
end
section
variable {st s1 s2 s3:ST} {a b:S} {t:M Bool} {f g:M R} {fa:M (List R)} {y:Option Rs} {x:XD} {r:R} {k:G} {o:Ob} {i:Nat} {rs:List R} {n:M Ob} {d:D} {ds es:List D}
theorem G5 {n m:Nat} {args:List R} {h:List Ob} {z:Rs} {w:Option (Ot×List Ob)} (hl:args.length=n) (hb:a ⟨qM m args,h⟩=some z) (he:endF z=w):AL.runN n m a args h=w:=by
 unfold AL.runN yR
 rw[a0g hl,hb];exact he
theorem Xe {it:M Wk} {w:Wk} (h:it st=some (.ok w s1)) (h2:forL w.lk k b w.xs s1=y):ji it k b st=y:=(ac1 h).trans h2
theorem afM (h:fa st=some (.ok rs s1)) (hd:cZ rs=some ds) (hl:rs.length≤16000000):iy fa st=some (.ok (.lst ds) s1):=tL h (by rw[a0g hl];unfold Hj;rw[hd])
theorem agK (h:n st=some (.ok o s1)) (hd:d8 o=some d):dh n st=some (.ok (.d d) s1):=tL h (by rw[hd];rfl)
theorem afN (h:fa st=some (.ok rs s1)) (hd:cZ rs=some ds) (hl:ds.length≤16000000):j8 fa st=some (.ok (.d (.tup ds)) s1):=tL h (by rw[hd];show (if _ then _ else _)=_;rw[a0g hl])
theorem afO (h:st.s[i]?=some (.own o)) (hd:d8 o=some d):vK i st=some (.ok (.d d) ⟨st.s.set i (.v (.d d)),st.h⟩):=by unfold vK;rw[h];simp only[hd];rfl
theorem afP (h1:f st=some (.ok (.w i) s1)) (h2:s1.s[i]?=some (.own (.lst es))) (h3:fa s1=some (.ok [.d d] s2)) (h4:s2.s[i]?=some (.own (.lst ds))) (hl:ds.length<16000000):CV f fa yQ st=some (.ok (.d .non) ⟨s2.s.set i (.own (.lst (ds++[d]))),s2.h⟩):=by
 unfold CV
 rw[cM h1]
 have e1:bF s1 (.w i)=some (.lst es):=by unfold bF;simp only[h2]
 have e2:bF s2 (.w i)=some (.lst ds):=by unfold bF;simp only[h4]
 have:yP s1 (.w i)=true:=by unfold yP;rw[e1]
 rw[a0g this,cM h3]
 simp only[yQ,e2,Xz,hl,a0W,a0i,b0h,pG]
theorem agL {dk:D} {kk:Key} {ks:List Key} (h1:f st=some (.ok (.w i) s1)) (h2:g s1=some (.ok (.d dk) s2)) (h3:s2.s[i]?=some (.own (.aV ks ds))) (hk:keyD dk=some kk) (hl:ks.length<16000000):gS f g (.d d) st=some (.ok () ⟨s2.s.set i (.own (.aV (mQ ks kk) (yE ks ds kk d))),s2.h⟩):=by
 unfold gS
 rw[cM h1,cM h2]
 have e2:bF s2 (.w i)=some (.aV ks ds):=by unfold bF;simp only[h3]
 rw[e2]
 simp only[vG,hk,hl,a0W,a0i,b0h,pG]
theorem ael {F:Fn} {h2:List Ob} (h:fa st=some (.ok rs s1)) (hw:rs.all dX=true) (hF:F rs s1.h=some (.ret (.d d),h2)):lB F fa st=some (.ok (.d d) ⟨s1.s,h2⟩):=by
 unfold lB
 rw[cM h]
 unfold ig
 rw[a0g hw,hF]
theorem at_of {α:Type} {xs:List α} {i:Int} {x:α} (h0:0≤i) (h:xs[i.toNat]?=some x):atI xs i=some x:=by
 have e:i=((i.toNat:Nat):Int):=by omega
 rw[e];exact atI_nat h
theorem aem {i:Int} (h:atI ds i=some d):bY st (.d (.lst ds)) (.d (.int i))=some (.d d):=by rw[afJ,h];rfl
theorem Oz {i:Int} (h:atI ds i=some d):bY st (.d (.tup ds)) (.d (.int i))=some (.d d):=by rw[afI,h];rfl
theorem aen {ns:List Int} {i j:Int} (h:atI ns i=some j):bY st (.d (.dG ns)) (.d (.int i))=some (.d (.int j)):=by rw[afH,h];rfl
theorem agM {it:M Wk} {e:M R} {vs:List Nat} {xs:List R} (h:it st=some (.ok ⟨xs,cC⟩ s1)) (hl:xs.length≤16000000) (hc:jL cC k t e vs ⟨fP s1.s vs,s1.h⟩ xs=some ds):lQ it k t e vs st=some (.ok (.lst ds) ⟨fP s1.s vs,s1.h⟩):=by
 unfold lQ;rw[h];simp only[hl,a0W,hc];rfl
end
end AL
namespace TY
open PySem L2 DL AL PyProof.Rows
abbrev En:=List (Nat×Option Sv)
def lk:En→Nat→Option Sv
 | [],_=>none
 | (j,v)::p,i=>bif Nat.beq j i then v else lk p i
theorem Bg {p:En} {i j:Nat} {v:Option Sv}:lk ((j,v)::p) i=if j=i then v else lk p i:=by
 show (bif Nat.beq j i then v else lk p i)=_
 by_cases e:j=i
 ·subst e;simp
 ·have:Nat.beq j i=false:=by
   cases q:Nat.beq j i
   ·rfl
   ·exact absurd (Nat.eq_of_beq_eq_true q) e
  rw[this,a0h e];rfl
structure bR (n:Nat) (p:En) (s:List Sv):Prop where
 len:s.length=n
 get:∀i v,lk p i=some v→s[i]?=some v
section
variable {n i j:Nat} {p q p1 p2 p3:En} {s:List Sv} {v w:Sv} {ex:List Nat}
theorem bR.set (m:bR n p s) (hi:Nat.blt i n=true) (v:Sv):bR n ((i,some v)::p) (s.set i v):=⟨by rw[List.length_set];exact m.len,fun j w e=>by
 have hi:i<n:=Nat.lt_of_lt_of_le (Nat.lt_succ_self _) (b0b hi)
 rw[Bg] at e
 rw[a0j]
 split at e
 ·rename_i q;cases e;rw[a0g q,a0g (by rw[m.len];exact hi)]
 ·rename_i q;rw[a0h q];exact m.get j w e⟩
def gj (ex:List Nat) (q p:En):Prop:=∀i v,i∉ex→lk q i=some v→lk p i=some v
theorem b_:gj ex p p:=fun _ _ _ h=>h
theorem gY (h:lk p i=some v) (k:gj (i::ex) q p):gj ex ((i,some v)::q) p:=fun j w hj e=>by
 rw[Bg] at e
 split at e
 ·rename_i z;cases e;rw[← z];exact h
 ·rename_i z;exact k j w (fun hm=>(a0c.mp hm).elim (fun e=>z e.symm) hj) e
theorem bO (k:gj (i::ex) q p):gj ex ((i,none)::q) p:=fun j w hj e=>by
 rw[Bg] at e
 split at e
 ·cases e
 ·rename_i z;exact k j w (fun hm=>(a0c.mp hm).elim (fun e=>z e.symm) hj) e
theorem FJ {x:Option Sv} (h:ex.contains i=true) (k:gj ex q p):gj ex q ((i,x)::p):=fun j w hj e=>by
 rw[Bg,a0h]
 ·exact k j w hj e
 ·intro z;subst z;exact hj (by simpa using h)
theorem bR.sub (m:bR n p s) (h:gj [] q p):bR n q s:=⟨m.len,fun i v e=>m.get i v (h i v (by simp) e)⟩
def EV {α:Type} (n:Nat) (p:En) (h:List Ob) (e:M α) (r:α) (u:List Sv→List Sv) (p':En) (h':List Ob):Prop:=∀s,bR n p s→e ⟨s,h⟩=some (.ok r ⟨u s,h'⟩)∧bR n p' (u s)
def KV (n:Nat) (p:En) (h:List Ob) (k:K2) (x y z:R):Prop:=∀s,bR n p s→k ⟨s,h⟩ x y=some z
variable {α β γ ρ:Type} {h h1 h2 h3:List Ob} {f g e:M R} {fa ga:M (List R)} {x y z r:R} {rs:List R} {u u1 u2 u3:List Sv→List Sv} {k l:K2} {d:D} {ds es:List D} {o:Ob} {b b1 b2:Bool} {t t1 t2:M Bool}
theorem aj (e:lk p i=some (.v r)):EV n p h (eV i) r id p h:=fun s m=>⟨e_V (m.get i _ e),m⟩
theorem tM (e:lk p i=some (.own o)):EV n p h (eV i) (.w i) id p h:=fun s m=>⟨Q6 (m.get i _ e),m⟩
theorem aJ:EV n p h (eC d) (.d d) id p h:=fun s m=>⟨rfl,m⟩
theorem aO:EV n p h aN [] id p h:=fun s m=>⟨rfl,m⟩
theorem aD (hf:EV n p h f r u p1 h1) (hg:EV n p1 h1 ga rs u1 p2 h2):EV n p h (aC f ga) (r::rs) (fun s=>u1 (u s)) p2 h2:=fun s m=>⟨Yp (hf s m).1 (hg _ (hf s m).2).1,(hg _ (hf s m).2).2⟩
theorem aX (hf:EV n p h f x u p1 h1) (hg:EV n p1 h1 g y u1 p2 h2) (hk:KV n p2 h2 k x y z):EV n p h (eB k f g) z (fun s=>u1 (u s)) p2 h2:=fun s m=>⟨e_B (hf s m).1 (hg _ (hf s m).2).1 (hk _ (hg _ (hf s m).2).2),(hg _ (hf s m).2).2⟩
theorem je {f:M α} {a:α} {c:β} {k:ST→α→Option β} (hf:EV n p h f a u p1 h1) (hk:∀s,bR n p1 s→k ⟨s,h1⟩ a=some c):EV n p h (M.of f k) c u p1 h1:=fun s m=>⟨tL (hf s m).1 (hk _ (hf s m).2),(hf s m).2⟩
theorem nQ (hf:EV n p h fa rs u p1 h1) (hd:cZ rs=some ds) (hl:Nat.ble ds.length 16000000=true):EV n p h (j8 fa) (.d (.tup ds)) u p1 h1:=fun s m=>⟨afN (hf s m).1 hd (b0b hl),(hf s m).2⟩
theorem lu (hf:EV n p h fa rs u p1 h1) (hd:cZ rs=some ds) (hl:Nat.ble rs.length 16000000=true):EV n p h (iy fa) (.lst ds) u p1 h1:=fun s m=>⟨afM (hf s m).1 hd (b0b hl),(hf s m).2⟩
theorem eE {f:M Ob} (hf:EV n p h f o u p1 h1) (hd:d8 o=some d):EV n p h (dh f) (.d d) u p1 h1:=fun s m=>⟨agK (hf s m).1 hd,(hf s m).2⟩
theorem aeo:EV n p h Hl (.aV [] []) id p h:=fun s m=>⟨rfl,m⟩
theorem Wg (e:lk p i=some (.own o)) (hi:Nat.blt i n=true) (hd:d8 o=some d):EV n p h (vK i) (.d d) (fun s=>s.set i (.v (.d d))) ((i,some (.v (.d d)))::p) h:=fun s m=>⟨afO (m.get i _ e) hd,m.set hi _⟩
theorem ev_call {F:Fn} (hf:EV n p h fa rs u p1 h1) (hw:rs.all dX=true) (hF:F rs h1=some (.ret (.d d),h2)):EV n p h (lB F fa) (.d d) u p1 h2:=fun s m=>⟨ael (hf s m).1 hw hF,(hf s m).2⟩
theorem lC (hf:EV n p h f x u p1 h1) (hg:EV n p1 h1 g y u1 p2 h2) (hk:KV n p2 h2 k x y (.d (.bl b1))) (he:EV n p2 h2 e z id p2 h2) (hl:KV n p2 h2 l y z (.d (.bl b2))):EV n p h (m7 k l f g e) (.d (.bl (b1&&b2))) (fun s=>u1 (u s)) p2 h2:=fun s m=>by
 have m1:=(hf s m).2
 have m2:=(hg _ m1).2
 exact⟨afK (hf s m).1 (hg _ m1).1 (hk _ m2) (he _ m2).1 (hl _ m2),m2⟩
theorem Wh {i:Int} (hf:EV n p h f (.d (.int i)) u p1 h1):EV n p h (Hi f) (.d (.int (-i))) u p1 h1:=je hf fun _ _=>rfl
theorem afQ (hf:EV n p h f (.d (.bl b)) u p1 h1):EV n p h (H_ f) (.d (.bl (!b))) u p1 h1:=fun s m=>⟨by unfold H_;rw[cM (Yq (hf s m).1)];rfl,(hf s m).2⟩
theorem cU (hf:EV n p h f (.d (.bl b)) u p1 h1):EV n p h (tF f) b u p1 h1:=fun s m=>⟨Yq (hf s m).1,(hf s m).2⟩
theorem n_ (hf:EV n p h f r u p1 h1) (ht:∀s,bR n p1 s→vY ⟨s,h1⟩ r=some b):EV n p h (tR f) b u p1 h1:=fun s m=>⟨t_R (hf s m).1 (ht _ (hf s m).2),(hf s m).2⟩
theorem eZ (hf:EV n p h t b u p1 h1):EV n p h (fM t) (!b) u p1 h1:=fun s m=>⟨aei (hf s m).1,(hf s m).2⟩
theorem OD (hf:EV n p h t b u p1 h1) (hg:EV n p1 h1 t1 b1 id p1 h1):EV n p h (kE t t1) (b || b1) u p1 h1:=fun s m=>⟨aej (hf s m).1 (hg _ (hf s m).2).1,(hf s m).2⟩
theorem afR (hf:EV n p h f (.d (.bl b)) u p1 h1) (hg:EV n p1 h1 g (.d (.bl b1)) id p1 h1):EV n p h (CQ f g) (.d (.bl (b&&b1))) u p1 h1:=fun s m=>⟨aek (hf s m).1 (hg _ (hf s m).2).1,(hf s m).2⟩
def jF (b:Bool) (o:Option Bool):Option Bool:=if b=true then o else some false
def t_ (b:Bool) (o:Option Bool):Option Bool:=if b=true then some true else o
def EO {α β:Type} (n:Nat) (p:En) (h:List Ob) (e:M α) (V:β→α) (t:Option β):Prop:=∀c,t=some c→EV n p h e (V c) id p h
theorem sV {V:β→α} {e:M α} {o:Option γ} {t:γ→Option β} (H:∀a,o=some a→EO n p h e V (t a)):EO n p h e V (o.bind t):=fun c hc=>by
 cases ho:o with
 | none=>rw[ho] at hc;cases hc
 | some a=>rw[ho] at hc;exact H a ho c hc
theorem eo_some {V:β→α} {e:M α} {c:β} (H:EV n p h e (V c) id p h):EO n p h e V (some c):=fun c' hc=>by cases hc;exact H
theorem Gf {ob:Option Bool} {c:Bool} (hc:t_ b ob=some c) (hf:EV n p h t b id p h) (hg:EO n p h t1 (fun x=>x) ob):EV n p h (kE t t1) c id p h:=fun s m=>by
 unfold t_ at hc
 cases b with
 | false=>exact⟨by unfold kE;rw[cM (hf s m).1];exact(hg c hc s m).1,m⟩
 | true=>cases hc;exact⟨by unfold kE;rw[cM (hf s m).1];rfl,m⟩
end
theorem abE (k:Nat) {ex:List Nat} {q p:En} (h:(p.take k).all (fun x=>ex.contains x.1)=true) (s:gj ex q (p.drop k)):gj ex q p:=by
 have key:∀l:En,l.all (fun x=>ex.contains x.1)=true→gj ex q (l++p.drop k):=by
  intro l
  induction l with
  | nil=>exact fun _=>s
  | cons x l ih=>
   intro hl
   rw[a0S,a0o] at hl
   exact FJ hl.1 (ih hl.2)
 have:=key _ h
 rwa [List.take_append_drop] at this
theorem nj (k:Nat) {ex:List Nat} {p q:En} (h:(p.take k).all (fun x=>ex.contains x.1)=true) (e:q=p.drop k):gj ex q p:=by
 subst e
 exact abE k h b_
theorem dR {n:Nat} {s:List Sv} {p:En} (h:p=(List.range n).map fun i=>(i,s[i]?)) (hn:s.length=n):bR n p s:=by
 subst h
 refine⟨hn,fun j w e=>?_⟩
 have key:∀(l:List Nat) (w:Sv),lk (l.map fun i=>(i,s[i]?)) j=some w→s[j]?=some w:=by
  intro l
  induction l with
  | nil=>intro w h;cases h
  | cons i l ih=>
   intro w h
   rw[a0y,Bg] at h
   split at h
   ·rename_i z;rw[← z];exact h
   ·exact ih w h
 exact key _ w e
inductive EC where
 | BadTable|NoOperation|NoCell|BadName|BadNumber|BadClient|BadRun|Over|TooLarge|BadStep|BadRow
 deriving DecidableEq
structure CL where
 OrderError:Addr
 BadTable:Addr
 NoOperation:Addr
 NoCell:Addr
 BadName:Addr
 BadNumber:Addr
 BadClient:Addr
 BadRun:Addr
 Over:Addr
 TooLarge:Addr
 BadStep:Addr
 BadRow:Addr
 Table:Addr
 Kind:Addr
 Shown:Addr
 Raised:Addr
 Emptied:Addr
 Counter:Addr
 Full:Addr
 Memory:Addr
 Operation:Addr
 Alone:Addr
 Build:Addr
 Space:Addr
 Desk:Addr
 Call:Addr
 Fixer:Addr
 Spoiler:Addr
 Verdict:Addr
 AtOnce:Addr
 Afterwards:Addr
 Never:Addr
 Repair:Addr
 Standing:Addr
 w:World
 has:List EC
def CL.at (c:CL):EC→Addr
 | .BadTable=>c.BadTable|.NoOperation=>c.NoOperation|.NoCell=>c.NoCell|.BadName=>c.BadName|.BadNumber=>c.BadNumber|.BadClient=>c.BadClient
 | .BadRun=>c.BadRun|.Over=>c.Over|.TooLarge=>c.TooLarge|.BadStep=>c.BadStep|.BadRow=>c.BadRow
def EC.fs:EC→List Str
 | .BadTable=>["name"]|.NoOperation=>["name"]|.NoCell=>["name"]|.BadName=>["name"]|.BadNumber=>["number"]|.BadClient=>["caller"]
 | .BadRun=>["at"]|.Over=>["caller"]|.TooLarge=>["bound"]|.BadStep=>["name","at"]|.BadRow=>["row"]
def CL.who (c:CL) (C:Addr):Option EC:=c.has.find? fun e=>decide (c.at e=C)
def CL.m (c:CL) (X:EC):Addr→Option Bool:=fun C=>(c.who C).map fun e=>decide (e=X)
def CL.sub (c:CL):Addr→Addr→Option Bool:=fun D C=>if C=c.OrderError then(c.who D).map fun _=>true else none
structure CL.Ok (c:CL):Prop where
 inj:∀e∈c.has,∀e'∈c.has,c.at e=c.at e'→e=e'
theorem CL.Ok.who {c:CL} (ok:c.Ok) {e:EC} (h:e∈c.has):c.who (c.at e)=some e:=by
 unfold CL.who
 cases q:c.has.find? fun e'=>decide (c.at e'=c.at e) with
 | none=>have:=List.find?_eq_none.mp q e h;simp at this
 | some e'=>
  have h1:=b0c q
  have h2:=List.find?_some q
  rw[ok.inj e' h1 e h (by simpa using h2)]
structure Err where
 c:EC
 ds:List D
def Err.xd (c:CL) (e:Err):XD:=⟨c.at e.c,e.c.fs,e.ds⟩
def dD {α β:Type} (a:α) (t:α→β):β:=t a
inductive Ct (α ρ:Type) where
 | nx (a:α)|bk (a:α)|rt (v:ρ)
def J {ρ:Type} (Fin:ρ→Rs→Prop) (n:Nat) (b:S) (p:En) (h:List Ob) (t:Option ρ):Prop:=∀s,bR n p s→∀v,t=some v→∃r,b ⟨s,h⟩=some r∧Fin v r
def isX:Rs→Bool
 | .rt _ _=>true|.rn _ _=>true|.ex _ _=>true|_=>false
def isN:Rs→Bool
 | .nx _=>true|_=>false
def iz {ρ:Type} (out:ρ→Ot×List Ob) (v:ρ) (r:Rs):Prop:=endF r=some (out v)
def vO {α:Type} (n:Nat) (P:α→En) (hp:α→List Ob) (a:α) (r:Rs):Prop:=∃s,bR n (P a) s∧r=.nx ⟨s,hp a⟩
def Ho {α:Type} (n:Nat) (P:α→En) (hp:α→List Ob) (a:α) (r:Rs):Prop:=∃s,bR n (P a) s∧(r=.nx ⟨s,hp a⟩∨r=.ct ⟨s,hp a⟩)
def Hq {α ρ:Type} (n:Nat) (P:α→En) (hp:α→List Ob) (Fin:ρ→Rs→Prop):Ct α ρ→Rs→Prop
 | .nx a,r=>Ho n P hp a r
 | .bk a,r=>∃s,bR n (P a) s∧r=.bk ⟨s,hp a⟩
 | .rt v,r=>Fin v r∧isX r=true
def yV {α ρ:Type} (n:Nat) (P:α→En) (hp:α→List Ob) (Fin:ρ→Rs→Prop):Ct α ρ→Rs→Prop
 | .nx a,r=>vO n P hp a r
 | .bk _,_=>False
 | .rt v,r=>Fin v r∧isN r=false
section
variable {n i j:Nat} {p q p1 p2 p3:En} {s:List Sv} {w:Sv} {ex:List Nat} {α β γ ρ ι:Type} {h h1 h2 h3:List Ob} {f g e:M R} {fa ga:M (List R)} {x y z r:R} {rs:List R} {u u1 u2 u3:List Sv→List Sv} {d:D} {ds es:List D} {o:Ob} {b b1 b2:Bool} {tt:M Bool} {Fin:ρ→Rs→Prop} {A A2 B:S} {v:ρ} {t t1 t2:Option ρ}
theorem bf {o:Option γ} {t:γ→Option ρ} (H:∀a,o=some a→J Fin n B p h (t a)):J Fin n B p h (o.bind t):=fun s m v e=>by
 cases ho:o with
 | none=>rw[ho] at e;cases e
 | some a=>rw[ho] at e;exact H a ho s m v e
theorem dZ (H:J Fin n B p h t):J Fin n (ao aM B) p h t:=H
theorem seq_assoc {a b c:S}:ao (ao a b) c=ao a (ao b c):=by
 funext st;unfold ao
 cases a st with
 | none=>rfl
 | some r=>cases r<;>rfl
theorem dU (H:J Fin n (ao A (ao A2 B)) p h t):J Fin n (ao (ao A A2) B) p h t:=by rw[seq_assoc];exact H
theorem G6 (hw:dX r=true) {st:ST}:gN i r st=some (.ok () ⟨st.s.set i (.v r),st.h⟩):=by
 cases r with
 | d x=>rfl
 | o n=>rfl
 | w i=>cases hw
theorem jV {st s1:ST} {r:Rs} (h1:A st=some (.nx s1)) (h2:B s1=some r):ao A B st=some r:=by rw[aeb h1,h2]
theorem Cp {V:α→R} {a:α} {t:α→Option ρ} (H:EV n p h e (V a) u p1 h1) (hi:Nat.blt i n=true) (hw:dX (V a)=true) (K:∀x,J Fin n B ((i,some (.v (V x)))::p1) h1 (t x)):J Fin n (ao (bQ e (gN i)) B) p h (dD a t):=fun s m v ev=>by
 obtain⟨r,hr,hf⟩:=K a _ ((H s m).2.set hi _) v ev
 exact⟨r,jV (yU (H s m).1 (G6 hw)) hr,hf⟩
theorem jY (H:EV n p h e r u p1 h1) (hi:Nat.blt i n=true) (hw:dX r=true) (K:J Fin n B ((i,some (.v r))::p1) h1 t):J Fin n (ao (bQ e (gN i)) B) p h t:=fun s m v ev=>by
 obtain⟨r,hr,hf⟩:=K _ ((H s m).2.set hi _) v ev
 exact⟨r,jV (yU (H s m).1 (G6 hw)) hr,hf⟩
theorem pA {o:Ob} {f:M Ob} (H:EV n p h f o u p1 h1) (hi:Nat.blt i n=true) (K:J Fin n B ((i,some (.own o))::p1) h1 t):J Fin n (ao (jE i f) B) p h t:=fun s m v ev=>by
 obtain⟨r,hr,hf⟩:=K _ ((H s m).2.set hi _) v ev
 exact⟨r,jV (afL (H s m).1) hr,hf⟩
def Pg:List Nat→List D→En→En
 | i::is,d::ds,p=>Pg is ds ((i,some (.v (.d d)))::p)
 | _,_,p=>p
theorem U9:∀{is:List Nat} {ds:List D} {s:List Sv} {p:En},is.all (fun i=>Nat.blt i n)=true→is.length=ds.length→bR n p s→∃s',pP (is.map gN) ds ⟨s,h⟩=some (.ok () ⟨s',h⟩)∧bR n (Pg is ds p) s'
 | [],[],s,p,_,_,m=>⟨s,rfl,m⟩
 | i::is,d::ds,s,p,ha,hl,m=>by
  rw[a0S,a0o] at ha
  obtain⟨s',h1,h2⟩:=U9 (ds:=ds) ha.2 (by simpa using hl) (m.set ha.1 (.v (.d d)))
  exact⟨s',by show ((gN i (.d d)).bind fun _=>pP (is.map gN) ds) ⟨s,h⟩=_;rw[cM X5];exact h1,h2⟩
theorem afS (is:List Nat) (H:EV n p h e (.d (.tup ds)) u p1 h1) (hi:is.all (fun i=>Nat.blt i n)=true) (hl:is.length=ds.length) (K:J Fin n B (Pg is ds p1) h1 t):J Fin n (ao (bQ e (gT (is.map gN))) B) p h t:=fun s m v ev=>by
 obtain⟨s',h1,h2⟩:=U9 hi hl (H s m).2
 obtain⟨r,hr,hf⟩:=K _ h2 v ev
 exact⟨r,jV (yU (H s m).1 h1) hr,hf⟩
theorem mJ (K:∀s,bR n p s→Fin v (.nx ⟨s,h⟩)):J Fin n aM p h (some v):=fun s m v' ev=>by cases ev;exact⟨_,rfl,K s m⟩
theorem cO (H:EV n p h e r u p1 h1) (K:∀s,bR n p1 s→Fin v (.rt r ⟨s,h1⟩)):J Fin n (ao (bV e) B) p h (some v):=fun s m v' ev=>by
 cases ev;exact⟨_,by rw[Wf (s_ret (H s m).1)],K _ (H s m).2⟩
noncomputable def kW (x:D) (v:ρ):Option ρ:=open Classical in if pJ x then some v else none
theorem oA {C:Addr} {nm:Str} {x:D} (H:EV n p h fa [.d x] u p1 h1) (K:∀s,bR n p1 s→Fin v (.ex ⟨C,[nm],[x]⟩ ⟨s,h1⟩)):J Fin n (ao (oH C nm fa) B) p h (kW x v):=fun s m v' ev=>by
 unfold kW at ev
 split at ev
 ·rename_i hx
  cases ev
  have:oH C nm fa ⟨s,h⟩=some (.ex ⟨C,[nm],[x]⟩ ⟨u s,h1⟩):=by unfold oH;simp only[(H s m).1,hx,a0W]
  exact⟨_,by rw[Ox this],K _ (H s m).2⟩
 ·cases ev
theorem d7 (H:EV n p h tt b u p1 h1) (K1:J Fin n (ao A B) p1 h1 t1) (K2:J Fin n (ao A2 B) p1 h1 t2):J Fin n (ao (bT tt A A2) B) p h (if b=true then t1 else t2):=fun s m v ev=>by
 have e1:ao (bT tt A A2) B ⟨s,h⟩=if b=true then ao A B ⟨u s,h1⟩ else ao A2 B ⟨u s,h1⟩:=by
  show (match bT tt A A2 ⟨s,h⟩ with|some (.nx st')=>B st'|o=>o)=_
  rw[agG (H s m).1]
  cases b<;>rfl
 rw[e1]
 cases b with
 | true=>exact K1 _ (H s m).2 v ev
 | false=>exact K2 _ (H s m).2 v ev
theorem Xf {pre:α→En} {hp:α→List Ob} {t:α→Option ρ} {o1 o2:Option α} (H:EV n p h tt b u p1 h1) (K1:J (vO n (fun a=>pre a++p1) hp) n A p1 h1 o1) (K2:J (vO n (fun a=>pre a++p1) hp) n A2 p1 h1 o2) (K:∀a,J Fin n B (pre a++p1) (hp a) (t a)):J Fin n (ao (bT tt A A2) B) p h ((if b=true then o1 else o2).bind t):=fun s m v ev=>by
 cases b with
 | true=>
  rw[a0g rfl] at ev
  cases ho:o1 with
  | none=>rw[ho] at ev;cases ev
  | some a=>
   rw[ho] at ev
   obtain⟨_,e1,s1,m1,rfl⟩:=K1 _ (H s m).2 a ho
   obtain⟨r,e2,hf⟩:=K a s1 m1 v ev
   exact⟨r,jV (by rw[XR (H s m).1];exact e1) e2,hf⟩
 | false=>
  rw[a0h (by simp)] at ev
  cases ho:o2 with
  | none=>rw[ho] at ev;cases ev
  | some a=>
   rw[ho] at ev
   obtain⟨_,e1,s1,m1,rfl⟩:=K2 _ (H s m).2 a ho
   obtain⟨r,e2,hf⟩:=K a s1 m1 v ev
   exact⟨r,jV (by rw[X4 (H s m).1];exact e1) e2,hf⟩
theorem Ph {pre:α→En} {hp:α→List Ob} {t:α→Option ρ} {o1 o2:α} (H:EV n p h tt b u p1 h1) (K1:J (vO n (fun a=>pre a++p1) hp) n A p1 h1 (some o1)) (K2:J (vO n (fun a=>pre a++p1) hp) n A2 p1 h1 (some o2)) (K:∀a,J Fin n B (pre a++p1) (hp a) (t a)):J Fin n (ao (bT tt A A2) B) p h (dD (if b=true then o1 else o2) t):=by
 have:=Xf H K1 K2 K
 have e:((if b=true then some o1 else some o2).bind t)=dD (if b=true then o1 else o2) t:=by cases b<;>rfl
 rw[← e];exact this
def cJ (o:Option (Ct α ρ)) (t:α→Option ρ):Option ρ:=match o with
 | some (.nx a)=>t a
 | some (.bk a)=>t a
 | some (.rt v)=>some v
 | none=>none
theorem FP {P:α→En} {hp:α→List Ob} {t:α→Option ρ} {o:Option (Ct α ρ)} {C:S} (K1:J (yV n P hp Fin) n C p h o) (K:∀a,J Fin n B (P a) (hp a) (t a)):J Fin n (ao C B) p h (cJ o t):=fun s m v ev=>by
 cases ho:o with
 | none=>rw[ho] at ev;cases ev
 | some c=>
  rw[ho] at ev
  obtain⟨r,e1,hf⟩:=K1 s m c ho
  cases c with
  | nx a=>
   obtain⟨s1,m1,rfl⟩:=hf
   obtain⟨r,e2,hf⟩:=K a s1 m1 v ev
   exact⟨r,jV e1 e2,hf⟩
  | bk a=>exact hf.elim
  | rt w=>
   cases ev
   refine⟨r,?_,hf.1⟩
   show (match C ⟨s,h⟩ with|some (.nx st')=>B st'|o=>o)=_
   rw[e1]
   have:=hf.2
   cases r<;>first|cases this;done|rfl
theorem Bv {pre:α→En} {hp:α→List Ob} {t:α→Option ρ} {o1 o2:Option (Ct α ρ)} (H:EV n p h tt b u p1 h1) (K1:J (yV n (fun a=>pre a++p1) hp Fin) n A p1 h1 o1) (K2:J (yV n (fun a=>pre a++p1) hp Fin) n A2 p1 h1 o2) (K:∀a,J Fin n B (pre a++p1) (hp a) (t a)):J Fin n (ao (bT tt A A2) B) p h (cJ (if b=true then o1 else o2) t):=
 FP (fun s m v ev=>by
  cases b with
  | true=>obtain⟨r,e1,hf⟩:=K1 _ (H s m).2 v ev;exact⟨r,by rw[XR (H s m).1];exact e1,hf⟩
  | false=>obtain⟨r,e1,hf⟩:=K2 _ (H s m).2 v ev;exact⟨r,by rw[X4 (H s m).1];exact e1,hf⟩) K
theorem sO {P:α→En} {hp:α→List Ob} {a:α} (hs:gj [] (P a) p) (he:hp a=h):J (vO n P hp) n aM p h (some a):=mJ fun s m=>⟨s,m.sub hs,by rw[he]⟩
theorem o7 {P:α→En} {hp:α→List Ob} {a:α} (hs:gj [] (P a) p) (he:hp a=h):J (yV n P hp Fin) n aM p h (some (.nx a)):=mJ fun s m=>⟨s,m.sub hs,by rw[he]⟩
theorem ac2 {P:α→En} {hp:α→List Ob} {a:α} (hs:gj [] (P a) p) (he:hp a=h):J (Ho n P hp) n aM p h (some a):=mJ fun s m=>⟨s,m.sub hs,.inl (by rw[he])⟩
theorem qp {P:α→En} {hp:α→List Ob} {a:α} (hs:gj [] (P a) p) (he:hp a=h):J (Hq n P hp Fin) n aM p h (some (.nx a)):=mJ fun s m=>⟨s,m.sub hs,.inl (by rw[he])⟩
def lH (f:ι→α→Option α):List ι→α→Option α
 | [],a=>some a
 | y::ys,a=>(f y a).bind (lH f ys)
def cV (f:ι→α→Option (Ct α ρ)):List ι→α→Option (Ct α ρ)
 | [],a=>some (.nx a)
 | y::ys,a=>match f y a with
  | some (.nx a)=>cV f ys a
  | some (.bk a)=>some (.nx a)
  | some (.rt v)=>some (.rt v)
  | none=>none
def TG (n:Nat) (k:G) (φ:ι→R) (tg:ι→En):Prop:=∀y h s p,bR n p s→∃s',k (φ y) ⟨s,h⟩=some (.ok () ⟨s',h⟩)∧bR n (tg y++p) s'
theorem pN {φ:ι→R} (hi:Nat.blt i n=true) (hw:∀y,dX (φ y)=true):TG n (gN i) φ (fun y=>[(i,some (.v (φ y)))]):=fun y h s p m=>⟨_,G6 (hw y),m.set hi _⟩
theorem Ut {k:G} {st s1:ST} {rs:List R} (hk:k r st=some (.ok () s1)) {res:Rs} (hb:B s1=some res):forL cC k B (r::rs) st=match res with
  | .nx s=>forL cC k B rs s
  | .ct s=>forL cC k B rs s
  | .bk s=>some (.nx s)
  | o=>some o:=by
 conv=>lhs;unfold forL
 rw[a0g (show cC st from trivial),hk]
 simp only[hb]
 cases res<;>rfl
theorem U_ {P:α→En} {hp:α→List Ob} {φ:ι→R} {tg:ι→En} {k:G} {f:ι→α→Option α} (hk:TG n k φ tg) (hb:∀y a,J (Ho n P hp) n A (tg y++P a) (hp a) (f y a)):∀(ys:List ι) (a a':α) (s:List Sv),lH f ys a=some a'→bR n (P a) s→∃s',forL cC k A (ys.map φ) ⟨s,hp a⟩=some (.nx ⟨s',hp a'⟩)∧bR n (P a') s'
 | [],a,a',s,e,m=>by cases e;exact⟨s,U8,m⟩
 | y::ys,a,a',s,e,m=>by
  obtain⟨a1,e1,e2⟩:=a0a.mp e
  obtain⟨s1,k1,m1⟩:=hk y (hp a) s _ m
  obtain⟨r,r1,s2,m2,hr⟩:=hb y a s1 m1 a1 e1
  obtain⟨s',h1,h2⟩:=U_ hk hb ys a1 a' s2 e2 m2
  refine⟨s',?_,h2⟩
  rw[a0y,Ut k1 r1]
  rcases hr with rfl|rfl<;>exact h1
theorem NK {P:α→En} {hp:α→List Ob} {φ:ι→R} {tg:ι→En} {k:G} {f:ι→α→Option (Ct α ρ)} (hk:TG n k φ tg) (hb:∀y a,J (Hq n P hp Fin) n A (tg y++P a) (hp a) (f y a)):∀(ys:List ι) (a:α) (c:Ct α ρ) (s:List Sv),cV f ys a=some c→bR n (P a) s→∃r,forL cC k A (ys.map φ) ⟨s,hp a⟩=some r∧yV n P hp Fin c r
 | [],a,c,s,e,m=>by cases e;exact⟨_,U8,s,m,rfl⟩
 | y::ys,a,c,s,e,m=>by
  obtain⟨s1,k1,m1⟩:=hk y (hp a) s _ m
  unfold cV at e
  cases hf:f y a with
  | none=>rw[hf] at e;cases e
  | some c1=>
   rw[hf] at e
   obtain⟨r,r1,hr⟩:=hb y a s1 m1 c1 hf
   rw[a0y,Ut k1 r1]
   cases c1 with
   | nx a1=>
    obtain⟨s2,m2,hr⟩:=hr
    obtain⟨r2,h1,h2⟩:=NK hk hb ys a1 c s2 e m2
    refine⟨r2,?_,h2⟩
    rcases hr with rfl|rfl<;>exact h1
   | bk a1=>
    obtain⟨s2,m2,rfl⟩:=hr
    cases e
    exact⟨_,rfl,s2,m2,rfl⟩
   | rt v=>
    cases e
    refine⟨r,?_,hr.1,?_⟩
    ·have:=hr.2;cases r<;>first|cases this;done|rfl
    ·have:=hr.2;cases r<;>first|cases this;done|rfl
theorem aep {it:M Wk} {ys:List ι} {φ:ι→R} {pre:α→En} {hp:α→List Ob} {tg:ι→En} {k:G} {f:ι→α→Option α} {a0:α} {t:α→Option ρ} (H:EV n p h it ⟨ys.map φ,cC⟩ u p1 (hp a0)) (hs:gj [] (pre a0++p1) p1) (hk:TG n k φ tg) (hb:∀y a,J (Ho n (fun a=>pre a++p1) hp) n A (tg y++(pre a++p1)) (hp a) (f y a)) (K:∀a,J Fin n B (pre a++p1) (hp a) (t a)):J Fin n (ao (ji it k A) B) p h ((lH f ys a0).bind t):=fun s m v ev=>by
 obtain⟨a,ha,ev⟩:=a0a.mp ev
 obtain⟨s',h1,h2⟩:=U_ (P:=fun a=>pre a++p1) hk hb ys a0 a _ ha ((H s m).2.sub hs)
 obtain⟨r,hr,hf⟩:=K a s' h2 v ev
 exact⟨r,jV (Xe (H s m).1 h1) hr,hf⟩
theorem sW {it:M Wk} {ys:List ι} {φ:ι→R} {pre:α→En} {hp:α→List Ob} {tg:ι→En} {k:G} {f:ι→α→Option (Ct α ρ)} {a0:α} {t:α→Option ρ} (H:EV n p h it ⟨ys.map φ,cC⟩ u p1 (hp a0)) (hs:gj [] (pre a0++p1) p1) (hk:TG n k φ tg) (hb:∀y a,J (Hq n (fun a=>pre a++p1) hp Fin) n A (tg y++(pre a++p1)) (hp a) (f y a)) (K:∀a,J Fin n B (pre a++p1) (hp a) (t a)):J Fin n (ao (ji it k A) B) p h (cJ (cV f ys a0) t):=
 FP (P:=fun a=>pre a++p1) (fun s m c ev=>by
  obtain⟨r,h1,h2⟩:=NK (P:=fun a=>pre a++p1) hk hb ys a0 c _ ev ((H s m).2.sub hs)
  exact⟨r,Xe (H s m).1 h1,h2⟩) K
def jG (c:α→Option Bool) (f:α→Option (Ct α ρ)):Nat→α→Option (Ct α ρ)
 | 0,_=>none
 | m+1,a=>match c a with
  | some true=>(match f a with
   | some (.nx a)=>jG c f m a
   | some (.bk a)=>some (.nx a)
   | some (.rt v)=>some (.rt v)
   | none=>none)
  | some false=>some (.nx a)
  | none=>none
noncomputable def zA (c:α→Option Bool) (f:α→Option (Ct α ρ)) (a:α):Option (Ct α ρ):=open Classical in if h:∃m y,jG c f m a=some y then some (Classical.choose (b0a h)) else none
theorem M9 {c:α→Option Bool} {f:α→Option (Ct α ρ)}:∀{m k:Nat} {a:α} {y:Ct α ρ},jG c f m a=some y→m≤k→jG c f k a=some y
 | 0,_,_,_,h,_=>by cases h
 | m+1,0,_,_,_,hk=>by omega
 | m+1,k+1,a,y,h,hk=>by
  unfold jG at h ⊢
  cases hc:c a with
  | none=>rw[hc] at h;cases h
  | some b=>
   rw[hc] at h
   cases b with
   | false=>exact h
   | true=>
    cases hf:f a with
    | none=>simp only[hf] at h;cases h
    | some z=>
     simp only[hf] at h
     cases z with
     | nx a1=>exact M9 h (by omega)
     | bk a1=>exact h
     | rt v=>exact h
theorem aer {c:α→Option Bool} {f:α→Option (Ct α ρ)} {m:Nat} {a:α} {y:Ct α ρ} (h:jG c f m a=some y):zA c f a=some y:=by
 have hx:∃m y,jG c f m a=some y:=⟨m,y,h⟩
 unfold zA
 rw[dif_pos hx]
 have h2:=b0a (b0a hx)
 have h3:=M9 h2 (Nat.le_max_left (Classical.choose hx) m)
 have h4:=M9 h (Nat.le_max_right (Classical.choose hx) m)
 rw[h3] at h4
 exact h4
theorem fn_of {m k:Nat} {args:List R} {out:ρ→Ot×List Ob} (hm:bR m p (qM m args)) (hl:args.length=k) (H:J (iz out) m B p h t) (e:t=some v):AL.runN k m B args h=some (out v):=by
 obtain⟨r,h1,h2⟩:=H _ hm v e
 exact G5 hl h1 h2
end
section
variable {α β γ δ ε ζ:Type}
abbrev vL (V:α→D) (xs:List α):D:=.lst (xs.map V)
abbrev Yr (V:α→D) (xs:List α):D:=.tup (xs.map V)
abbrev aR (A:α→D) (B:β→D) (x:α×β):D:=.tup [A x.1,B x.2]
abbrev kS (xs:List (Str×α)):List Key:=xs.map fun x=>.inr x.1
abbrev dV (V:α→D) (xs:List (β×α)):List D:=xs.map fun x=>V x.2
abbrev qU (V:α→D) (xs:List (Str×α)):D:=.aV (kS xs) (dV V xs)
end
section
variable {α β γ ρ ι:Type}
def Hr (xs:List α) (x:α):Option (List α):=if xs.length<16000000 then some (xs++[x]) else none
def Ht (xs ys:List α):Option (List α):=if xs.length+ys.length≤16000000 then some (xs++ys) else none
def j9 [DecidableEq β] (xs:List (β×α)) (k:β) (v:α):List (β×α):=if k∈xs.map (·.1) then xs.map fun x=>if x.1=k then(k,v) else x else xs++[(k,v)]
def iJ [DecidableEq β] (xs:List (β×α)) (k:β) (v:α):Option (List (β×α)):=if xs.length<16000000 then some (j9 xs k v) else none
def iU [DecidableEq β] (xs:List (β×α)) (k:β):Option α:=(xs.find? fun x=>decide (x.1=k)).map (·.2)
def pO (i j:Int):Option Int:=if 0<j then some (i%j) else none
def Qo (s:Str):Option Int:=if s.length≤16000000 then some (s.length:Int) else none
def Ik (s t:Str):Option Bool:=(Qi s).map fun c=>decide (c∈t.cps.toList)
def signs (s:Str):List Str:=s.cps.toList.map fun c=>⟨#[c]⟩
def rng (lo hi:Int):List Int:=(List.range (hi-lo).toNat).map fun i=>lo+(i:Nat)
def fQ (lo hi:Int):Option (List Int):=if (-1000000000≤lo∧lo≤1000000000)∧-1000000000≤hi∧hi≤1000000000 then some (rng lo hi) else none
def fG (x y:D):Option Bool:=if (dB x&&dB y) || (fK x&&fK y) then some (cG x y) else none
def tO (c:ι→Option Bool) (f:ι→Option β):List ι→Option (List β)
 | []=>some []
 | y::ys=>(c y).bind fun b=>if b=true then(f y).bind fun x=>(tO c f ys).map (x::·) else tO c f ys
def gA (c:ι→Option Bool) (f:ι→Option β) (ys:List ι):Option (List β):=if ys.length≤16000000 then tO c f ys else none
end
section
variable {n i j:Nat} {p q p1 p2 p3:En} {s:List Sv} {α β γ ρ ι:Type} {h h1 h2 h3:List Ob} {f g e:M R} {fa ga:M (List R)} {x y z r:R} {rs:List R} {u u1 u2 u3:List Sv→List Sv} {k l:K2} {d:D} {ds es:List D} {o:Ob} {b b1 b2:Bool} {Fin:ρ→Rs→Prop} {A B:S} {V:α→D} {xs ys:List α} {a c:Int}
theorem jf {kk:D→D→Option D} {d1 d2 d3:D} (h:kk d1 d2=some d3):KV n p h1 (aU kk) (.d d1) (.d d2) (.d d3):=fun _ _=>agI h
theorem mK:KV n p h jC (.d (.int a)) (.d (.int c)) (.d (.int (a+c))):=fun _ _=>v_add
theorem Vz (hc:(decide (-(2 ^ 64)<c)&&decide (c<2 ^ 64))=true):KV n p h (aU pK) (.d (.int a)) (.d (.int c)) (.d (.int (a*c))):=jf (aed (by simpa using hc))
theorem Od (hc:(decide (-(2 ^ 64)<a)&&decide (a<2 ^ 64))=true):KV n p h (aU pK) (.d (.int a)) (.d (.int c)) (.d (.int (a*c))):=jf (aec (by simpa using hc))
theorem uV (hc:decide (0<c)=true):KV n p h (aU jh) (.d (.int a)) (.d (.int c)) (.d (.int (a%c))):=jf (v_mod (by simpa using hc))
theorem ac3 (hc:(decide (0<c)&&decide (c<1073741824))=true):KV n p h (aU Hf) (.d (.int a)) (.d (.int c)) (.d (.int (a/c))):=jf (v_div (by simpa using hc))
theorem VB (hc:(decide (0≤c)&&decide (c≤1000000)&&decide (a.natAbs<2 ^ 64))=true):KV n p h (aU BX) (.d (.int a)) (.d (.int c)) (.d (.int (a ^ c.toNat))):=jf (v_pow (by simp at hc;omega))
theorem uf {P:Prop} [Decidable P] {v w:α} (h:(if P then some v else none)=some w):P∧v=w:=by
 split at h
 ·cases h;exact⟨by assumption,rfl⟩
 ·cases h
theorem Bh {v:Int} (e:pO a c=some v):KV n p h (aU jh) (.d (.int a)) (.d (.int c)) (.d (.int v)):=by obtain⟨h1,rfl⟩:=uf e;exact jf (v_mod h1)
theorem Bw:KV n p h (aU kLt) (.d (.int a)) (.d (.int c)) (.d (.bl (decide (a<c)))):=jf rfl
theorem fj:KV n p h (aU jJ) (.d (.int a)) (.d (.int c)) (.d (.bl (decide (a≤c)))):=jf rfl
theorem afT:KV n p h (aU QM) (.d (.int a)) (.d (.int c)) (.d (.bl (decide (c≤a)))):=jf rfl
theorem Bo:KV n p h (aU (kEq false)) (.d (.int a)) (.d (.int c)) (.d (.bl (decide (a=c)))):=jf (by rw[Xd];simp;rfl)
theorem OJ:KV n p h (aU (kEq true)) (.d (.int a)) (.d (.int c)) (.d (.bl (!decide (a=c)))):=jf (by rw[Xd];simp;rfl)
theorem str_beq {s t:Str}:(s == t)=decide (s=t):=by
 by_cases e:s=t
 ·subst e;simp
 ·simp[e]
theorem Wi {s t:Str}:KV n p h (aU (kEq false)) (.d (.str s)) (.d (.str t)) (.d (.bl (decide (s=t)))):=jf (by rw[afG,str_beq];rfl)
theorem Wj {v:Bool} {d1 d2:D} (e:fG d1 d2=some v):KV n p h (aU (kEq false)) (.d d1) (.d d2) (.d (.bl v)):=by obtain⟨h1,rfl⟩:=uf e;exact jf (by unfold kEq;rw[a0g h1];rfl)
theorem O2 {v:Bool} {d1 d2:D} (e:fG d1 d2=some v):KV n p h (aU (kEq true)) (.d d1) (.d d2) (.d (.bl (!v))):=by obtain⟨h1,rfl⟩:=uf e;exact jf (by unfold kEq;rw[a0g h1];rfl)
theorem nR {v:α} (e:atI xs a=some v):KV n p h bY (.d (vL V xs)) (.d (.int a)) (.d (V v)):=fun _ _=>aem (by rw[Vt,e];rfl)
theorem aes {ns:List Int} {v:Int} (e:atI ns a=some v):KV n p h bY (.d (.dG ns)) (.d (.int a)) (.d (.int v)):=fun _ _=>aen e
theorem Wm {k:Str} {zs:List (Str×α)} {v:α} (e:iU zs k=some v):dget (kS zs) (dV V zs) (.inr k)=some (V v):=by
 unfold iU at e
 obtain⟨z,hz,rfl⟩:=a0b.mp e
 unfold dget
 induction zs with
 | nil=>cases hz
 | cons w ws ih=>
  simp only[kS,dV,a0y,a0w,a0B] at hz ⊢
  by_cases q:w.1=k
  ·simp only[q,decide_true] at hz ⊢;cases hz;rfl
  ·have q2:¬((Sum.inr w.1:Key)=.inr k):=fun z=>q (by cases z;rfl)
   simp only[q,q2,b0q] at hz ⊢
   exact ih hz (by rw[hz];rfl)
theorem VD {st:ST} {ks:List Key} {dk:D} {kk:Key} (hx:jm st x=some (ks,ds)) (hl:iG st x=none) (ht:∀z,vH st x z=none) (hk:keyD dk=some kk) (e:dget ks ds kk=some d):bY st x (.d dk)=some (.d d):=by
 have h1:vI st x (.d dk)=none:=by unfold vI;cases dk<;>simp[hl]
 have h2:vJ st x (.d dk)=some (.d d):=by simp[vJ,hx,hk,e]
 simp[bY,K2.or,ht,h1,h2]
theorem VF {k:Str} {zs:List (Str×α)} {v:α} (e:iU zs k=some v):KV n p h bY (.d (qU V zs)) (.d (.str k)) (.d (V v)):=fun s m=>VD rfl rfl (fun _=>rfl) rfl (Wm e)
end
section
variable {n i j:Nat} {p q p1 p2 p3:En} {s:List Sv} {α β γ ρ ι:Type} {h h1 h2 h3:List Ob} {f g e:M R} {fa ga:M (List R)} {x y z r:R} {rs:List R} {u u1 u2 u3:List Sv→List Sv} {k l:K2} {d:D} {ds es:List D} {o:Ob} {b b1 b2:Bool} {Fin:ρ→Rs→Prop} {A B:S} {V:α→D} {xs ys:List α} {a c:Int}
theorem ab3 {s t:Str} {v:Bool} (e:Ik s t=some v):KV n p h (kIn true) (.d (.str s)) (.d (.str t)) (.d (.bl (!v))):=fun st m=>by
 obtain⟨c,hc,rfl⟩:=a0b.mp e
 simp[kIn,K2.or,Ce,aU,snap,hc]
theorem aeu {s:Str} {zs:List (Str×α)}:decide ((Sum.inr s:Key)∈kS zs)=decide (s∈zs.map (·.1)):=decide_eq_decide.mpr (by simp)
theorem afU {st:ST} {neg:Bool} {ks:List Key} {kk:Key} (hk:keyD d=some kk) (hc:jm st y=some (ks,ds)) (hs:lG st y=none) (hn:∀t,snap st y≠some (.str t)):kIn neg st (.d d) y=some (.d (.bl (if neg then !decide (kk∈ks) else decide (kk∈ks)))):=by
 have h1:Ce neg st (.d d) y=none:=by
  unfold Ce aU
  show ((snap st y).bind fun b=>_)=none
  cases q:snap st y with
  | none=>rfl
  | some b=>cases b<;>cases d<;>first|rfl|exact absurd q (hn _)
 have h2:Hh neg st (.d d) y=none:=by
  unfold Hh
  show ((lG st y).bind fun ds=>_)=_
  rw[hs];rfl
 have h3:Cd neg st (.d d) y=some (.d (.bl (if neg then !decide (kk∈ks) else decide (kk∈ks)))):=by
  unfold Cd;simp only[hk,hc,a0i]
 unfold kIn K2.or
 rw[h1,h2,h3];rfl
theorem ab4 {s:Str} {zs:List (Str×α)}:KV n p h (kIn true) (.d (.str s)) (.d (qU V zs)) (.d (.bl (!decide (s∈zs.map (·.1))))):=fun st m=>by rw[afU rfl rfl rfl (fun _ z=>by cases z),aeu];rfl
theorem pB (hf:EV n p h fa [.d (.int a)] u p1 h1):EV n p h (M.of fa jD) (.d (.int a)) u p1 h1:=je hf fun _ _=>rfl
theorem ac4 (hf:EV n p h fa [.d (.bl b)] u p1 h1):EV n p h (M.of fa jD) (.d (.int (if b=true then 1 else 0))) u p1 h1:=je hf fun _ _=>rfl
theorem Oe (hf:EV n p h fa [.d (vL V xs)] u p1 h1):EV n p h (M.of fa fZ) (.d (.int (xs.length:Int))) u p1 h1:=je hf fun _ _=>by rw[aef];simp
theorem ab5 (hf:EV n p h fa [.d (.tup ds)] u p1 h1):EV n p h (M.of fa fZ) (.d (.int (ds.length:Int))) u p1 h1:=je hf fun _ _=>aeg
theorem ac5 {ns:List Int} (hf:EV n p h fa [.d (.dG ns)] u p1 h1):EV n p h (M.of fa fZ) (.d (.int (ns.length:Int))) u p1 h1:=je hf fun _ _=>aeh
theorem ac6 {s:Str} {v:Int} (e:Qo s=some v) (hf:EV n p h fa [.d (.str s)] u p1 h1):EV n p h (M.of fa fZ) (.d (.int v)) u p1 h1:=je hf fun _ _=>by obtain⟨h1,rfl⟩:=uf e;exact aee h1
theorem ab6 {zs:List (Str×α)} (hf:EV n p h fa [.d (qU V zs)] u p1 h1):EV n p h (M.of fa fZ) (.d (.int (zs.length:Int))) u p1 h1:=je hf fun _ _=>by simp[fZ,kLen,snap,Ql]
theorem ab7 (hf:EV n p h fa [.d (.lst ds)] u p1 h1):EV n p h (M.of fa kList) (.lst ds) u p1 h1:=je hf fun _ _=>rfl
theorem Wn {zs:List (Str×α)}:(kS zs).map kD=(zs.map (·.1)).map D.str:=by simp[kD]
theorem abF {zs:List (Str×α)} (hf:EV n p h fa [.d (qU V zs)] u p1 h1):EV n p h (M.of fa kList) (.lst ((zs.map (·.1)).map D.str)) u p1 h1:=je hf fun s m=>by rw[← Wn];rfl
theorem Gx {ty tn:String} (hf:EV n p h fa [.d d,.d (.ty tn)] u p1 h1) (ht:CK d=some ty) (hb:isT ty tn=some b):EV n p h (M.of fa ou) (.d (.bl b)) u p1 h1:=je hf fun _ _=>by simp[ou,snap,ht,hb]
theorem Pj (hf:EV n p h f (.d (vL V xs)) u p1 h1):EV n p h (wL f) ⟨xs.map (fun x=>.d (V x)),cC⟩ u p1 h1:=je hf fun _ _=>by simp[QV,zp]
theorem afV {s:Str} (hf:EV n p h f (.d (.str s)) u p1 h1):EV n p h (wS f) ⟨(signs s).map (fun x=>.d (.str x)),cC⟩ u p1 h1:=je hf fun _ _=>by simp[signs,yM]
theorem ac7 {lo hi:Int}:(qJ lo (hi-lo).toNat).map R.d=(rng lo hi).map fun x=>.d (.int x):=by simp[qJ,rng]
theorem kZ {v:List Int} (e:fQ 0 a=some v) (hf:EV n p h fa [.d (.int a)] u p1 h1):EV n p h (jd fa) ⟨v.map (fun x=>.d (.int x)),cC⟩ u p1 h1:=by
 obtain⟨h0,rfl⟩:=uf e
 have:=ac7 (lo:=0) (hi:=a)
 rw[Int.sub_zero] at this
 rw[← this]
 exact fun s m=>⟨agJ (hf s m).1 h0.2,(hf s m).2⟩
def cut (xs:List α) (lo hi:Option Int):List α:=(xs.drop (HT.sIx xs.length 0 lo)).take (HT.sIx xs.length xs.length hi-HT.sIx xs.length 0 lo)
theorem jx {C:Addr} {Cs:List Addr} {fs:List Str} {nm:Str} (hf:EV n p h f (.d (.ins C fs ds)) u p1 h1) (hC:C∈Cs) (hg:fget fs (ds.map R.d) nm=some r):EV n p h (iT Cs nm f) r u p1 h1:=je hf fun _ _=>by
 show ((some (C,fs,ds.map R.d)).bind fun p=>if p.1∈Cs then fget p.2.1 p.2.2 nm else none)=_
 simp only[a0i,hC,a0W,hg]
theorem oE:∀s,bR n p s→vY ⟨s,h⟩ (.d (.bl b))=some b:=fun _ _=>rfl
end
section
variable {n i j:Nat} {p q p1 p2 p3:En} {s:List Sv} {α β γ ρ ι:Type} {h h1 h2 h3:List Ob} {f g e:M R} {fa ga:M (List R)} {x y z r:R} {rs:List R} {u u1 u2 u3:List Sv→List Sv} {k l:K2} {d:D} {ds es:List D} {o:Ob} {b b1 b2:Bool} {Fin:ρ→Rs→Prop} {A B:S} {V:α→D} {xs ys:List α} {a c:Int}
theorem afW {v:α} {t:List α→Option ρ} (hw:lk p i=some (.own (.lst (xs.map V)))) (H:EV n p h e (.d (V v)) u p1 h1) (hw1:lk p1 i=some (.own (.lst (xs.map V)))) (hi:Nat.blt i n=true) (K:∀x,J Fin n B ((i,some (.own (.lst (x.map V))))::p1) h1 (t x)):J Fin n (ao (jX (CV (eV i) (aC e aN) yQ)) B) p h ((Hr xs v).bind t):=fun s m w ev=>by
 obtain⟨xs',hx,ev⟩:=a0a.mp ev
 obtain⟨hl,rfl⟩:=uf hx
 have e1:=afP (f:=eV i) (fa:=aC e aN) (Q6 (m.get i _ hw)) (m.get i _ hw) (Yp (H s m).1 a_N) ((H s m).2.get i _ hw1) (by simpa using hl)
 have e2:xs.map V++[V v]=(xs++[v]).map V:=by simp
 rw[e2] at e1
 obtain⟨r,hr,hf⟩:=K (xs++[v]) _ ((H s m).2.set hi _) w ev
 exact⟨r,jV (s_drop e1) hr,hf⟩
theorem map_set {xs:List α} {m:Nat} {v:α}:(xs.map V).set m (V v)=(xs.set m v).map V:=by
 refine a0L fun j=>?_
 simp only[a0j,a0p,a0C]
 split
 ·split<;>rfl
 ·rfl
theorem G7 {zs:List (Str×α)} {k:Str} {v:α}:mQ (kS zs) (.inr k)=kS (j9 zs k v)∧yE (kS zs) (dV V zs) (.inr k) (V v)=dV V (j9 zs k v):=by
 unfold j9 mQ yE
 by_cases hm:k∈zs.map (·.1)
 ·have hm2:(Sum.inr k:Key)∈kS zs:=by simpa using hm
  rw[a0g hm2,a0g hm,a0g hm2]
  refine⟨?_,?_⟩
  ·simp only[kS,b0s]
   refine b0m fun w _=>?_
   by_cases q:w.1=k<;>simp[q]
  ·clear hm hm2
   induction zs with
   | nil=>rfl
   | cons w ws ih=>
    simp only[kS,dV,a0y,a0I] at ih ⊢
    rw[ih]
    by_cases q:w.1=k
    ·simp[q]
    ·have q2:¬((Sum.inr w.1:Key)=.inr k):=fun z=>q (by cases z;rfl)
     simp[q,q2]
 ·have hm2:¬(Sum.inr k:Key)∈kS zs:=by simpa using hm
  rw[a0h hm2,a0h hm,a0h hm2]
  simp
theorem qu {zs:List (Str×α)} {k:Str} {v:α} {t:List (Str×α)→Option ρ} (H:EV n p h e (.d (V v)) u p1 h1) (H2:EV n p1 h1 g (.d (.str k)) u1 p2 h2) (hw1:lk p1 i=some (.own (.aV (kS zs) (dV V zs)))) (hw:lk p2 i=some (.own (.aV (kS zs) (dV V zs)))) (hi:Nat.blt i n=true) (K:∀x,J Fin n B ((i,some (.own (.aV (kS x) (dV V x))))::p2) h2 (t x)):J Fin n (ao (bQ e (gS (eV i) g)) B) p h ((iJ zs k v).bind t):=fun s m w ev=>by
 obtain⟨xs',hx,ev⟩:=a0a.mp ev
 obtain⟨hl,rfl⟩:=uf hx
 have m1:=(H s m).2
 have m2:=(H2 _ m1).2
 have e1:=agL (d:=V v) (f:=eV i) (g:=g) (kk:=.inr k) (Q6 (m1.get i _ hw1)) (H2 _ m1).1 (m2.get i _ hw) rfl (by rw[a0C];exact hl)
 rw[(G7 (V:=V) (v:=v)).1,G7.2] at e1
 obtain⟨r,hr,hf⟩:=K (j9 zs k v) _ (m2.set hi _) w ev
 exact⟨r,jV (yU (H s m).1 e1) hr,hf⟩
theorem Va:∀{vs:List Nat} {s:List Sv},(∀v∈vs,s[v]?=some .no)→fP s vs=s
 | [],s,_=>rfl
 | v::vs,s,hv=>by
  unfold fP
  rw[Va fun w hw=>hv w (a0K _ hw)]
  refine a0L fun j=>?_
  rw[a0j]
  split
  ·rename_i q;subst q
   have:=hv v (a0N ..)
   rw[this]
   split
   ·rfl
   ·rename_i z;rw[a0D (by omega)] at this;cases this
  ·rfl
theorem ab8 {s s':List Sv}:∀{vs:List Nat},s'.length=s.length→(∀v∈vs,s[v]?=some .no)→(∀j,j∉vs→s'[j]?=s[j]?)→fP s' vs=s:=by
 intro vs hl hv hs
 have key:∀(vs:List Nat) (t:List Sv) (j:Nat),(fP t vs)[j]?=if j∈vs then(t[j]?).map fun _=>.no else t[j]?:=by
  intro vs
  induction vs with
  | nil=>intro t j;simp[fP]
  | cons v vs ih=>
   intro t j
   unfold fP
   rw[a0j]
   by_cases q:v=j
   ·subst q
    simp only[a0W,a0c,true_or]
    have hl2:(fP t vs).length=t.length:=by
     clear ih
     induction vs with
     | nil=>rfl
     | cons w ws ih=>unfold fP;simp[ih]
    by_cases z:v<t.length
    ·rw[a0g (by rw[hl2];exact z),a0e z];rfl
    ·rw[a0h (by rw[hl2];exact z),a0D (by omega)];rfl
   ·rw[a0h q,ih]
    have:(j∈v::vs)↔j∈vs:=by simp;intro z;exact absurd z.symm q
    simp only[this]
 refine a0L fun j=>?_
 rw[key]
 split
 ·rename_i hm
  rw[hv j hm]
  have:j<s.length:=(a0d.mp (hv j hm)).1
  rw[a0e (by omega)];rfl
 ·rename_i hm;exact hs j hm
def Q7 (n:Nat) (vs:List Nat) (k:G) (φ:ι→R) (tg:ι→En):Prop:=∀y h s p,bR n p s→∃s',k (φ y) ⟨s,h⟩=some (.ok () ⟨s',h⟩)∧bR n (tg y++p) s'∧s'.length=s.length∧∀j,j∉vs→s'[j]?=s[j]?
theorem tE {φ:ι→R} (hi:Nat.blt i n=true) (hw:∀y,dX (φ y)=true):Q7 n [i] (gN i) φ (fun y=>[(i,some (.v (φ y)))]):=fun y h s p m=>⟨_,G6 (hw y),m.set hi _,by simp,fun j hj=>by rw[b0C];simpa using fun z:i=j=>hj (by simp[z])⟩
theorem O4 {vs:List Nat} {k:G} {φ:ι→R} {tg:ι→En} {t:M Bool} {W:β→D} {cc:ι→Option Bool} {ff:ι→Option β} (hv:∀v∈vs,lk p v=some .no) (hk:Q7 n vs k φ tg) (hc:∀y,EO n (tg y++p) h t (fun x=>x) (cc y)) (hf:∀y,EO n (tg y++p) h e (fun x=>.d (W x)) (ff y)) {s:List Sv} (m:bR n p s):∀(ys:List ι) (zs:List β),tO cc ff ys=some zs→jL cC k t e vs ⟨s,h⟩ (ys.map φ)=some (zs.map W)
 | [],zs,hz=>by cases hz;rw[List.map_nil];unfold jL;rw[a0g (show cC _ from trivial)];rfl
 | y::ys,zs,hz=>by
  unfold tO at hz
  obtain⟨bb,hb,hz⟩:=a0a.mp hz
  obtain⟨s',k1,k2,k3,k4⟩:=hk y h s p m
  have e1:(⟨fP s' vs,h⟩:ST)=⟨s,h⟩:=by rw[ab8 k3 (fun v hm=>m.get v _ (hv v hm)) k4]
  have e2:=(hc y bb hb s' k2).1
  rw[a0y]
  conv=>lhs;unfold jL
  rw[a0g (show cC _ from trivial),k1]
  simp only[]
  rw[a0g e1,e2]
  simp only[id]
  cases bb with
  | true=>
   rw[a0g rfl] at hz
   obtain⟨w,hw,hz⟩:=a0a.mp hz
   obtain⟨ws,hws,rfl⟩:=a0b.mp hz
   have e3:=(hf y w hw s' k2).1
   simp only[id] at e3
   simp only[a0W,e3,O4 hv hk hc hf m ys ws hws]
   rfl
  | false=>
   rw[a0h (by simp)] at hz
   simp only[a0W,O4 hv hk hc hf m ys zs hz]
theorem tG {it:M Wk} {vs:List Nat} {k:G} {φ:ι→R} {tg:ι→En} {t:M Bool} {W:β→D} {cc:ι→Option Bool} {ff:ι→Option β} {ys:List ι} {zs:List β} (hz:gA cc ff ys=some zs) (H:EV n p h it ⟨ys.map φ,cC⟩ id p h) (hv:∀v∈vs,lk p v=some .no) (hk:Q7 n vs k φ tg) (hc:∀y,EO n (tg y++p) h t (fun x=>x) (cc y)) (hf:∀y,EO n (tg y++p) h e (fun x=>.d (W x)) (ff y)):EV n p h (lQ it k t e vs) (.lst (zs.map W)) id p h:=fun s m=>by
 have hl:ys.length≤16000000∧tO cc ff ys=some zs:=by
  unfold gA at hz
  split at hz
  ·exact⟨by assumption,hz⟩
  ·cases hz
 have ew:fP s vs=s:=Va fun v hm=>m.get v _ (hv v hm)
 have:=agM (st:=⟨s,h⟩) (s1:=⟨s,h⟩) (k:=k) (t:=t) (e:=e) (vs:=vs) (ds:=zs.map W) (H s m).1 (by rw[a0C];exact hl.1) (by simp only[ew];exact O4 hv hk hc hf m ys zs hl.2)
 simp only[ew] at this
 exact⟨this,m⟩
theorem vs1 (h1:lk p i=some .no):∀v∈[i],lk p v=some .no:=fun v hv=>by rw[a0s.mp hv];exact h1
theorem vs2 (h1:lk p i=some .no) (h2:lk p j=some .no):∀v∈[i,j],lk p v=some .no:=fun v hv=>by
 rcases a0c.mp hv with rfl|hv
 ·exact h1
 ·rw[a0s.mp hv];exact h2
theorem vs3 {k:Nat} (h1:lk p i=some .no) (h2:lk p j=some .no) (h3:lk p k=some .no):∀v∈[i,j,k],lk p v=some .no:=fun v hv=>by
 rcases a0c.mp hv with rfl|hv
 ·exact h1
 ·exact vs2 h2 h3 v hv
theorem sX:EO n p h (M.ret true) (fun x=>x) (some true):=eo_some fun s m=>⟨rfl,m⟩
theorem afX (hv:lk p i=some (.v r)):∀s,bR n p s→pV i ⟨s,h⟩=some r:=fun s m=>by unfold pV;simp only[m.get i _ hv]
theorem ac8 {zs:List (Str×α)}:G4 (kS zs)=(zs.map (·.1)).map fun x=>.d (.str x):=by simp[G4,kD]
theorem aev {pf:ST→Option R} {st:ST} {ks:List Key} {k:G} (H:pf st=some (.d (.aV ks ds))):yI pf k A st=forL cC k A (G4 ks) st:=by unfold yI;rw[H];rfl
theorem ac9 {pf:ST→Option R} {ks:List Key} {ys:List ι} {φ:ι→R} {pre:α→En} {hp:α→List Ob} {tg:ι→En} {k:G} {f:ι→α→Option (Ct α ρ)} {a0:α} {t:α→Option ρ} (H:∀s,bR n p s→pf ⟨s,h⟩=some (.d (.aV ks ds))) (hy:G4 ks=ys.map φ) (he:hp a0=h) (hs:gj [] (pre a0++p) p) (hk:TG n k φ tg) (hb:∀y a,J (Hq n (fun a=>pre a++p) hp Fin) n A (tg y++(pre a++p)) (hp a) (f y a)) (K:∀a,J Fin n B (pre a++p) (hp a) (t a)):J Fin n (ao (yI pf k A) B) p h (cJ (cV f ys a0) t):=
 FP (P:=fun a=>pre a++p) (fun s m c ev=>by
  subst he
  obtain⟨r,h1,h2⟩:=NK (P:=fun a=>pre a++p) hk hb ys a0 c _ ev (m.sub hs)
  exact⟨r,by rw[aev (H s m),hy];exact h1,h2⟩) K
def outD (V:α→D) (h:List Ob) (v:α):Ot×List Ob:=(.ret (.d (V v)),h)
def qN (c:CL) (V:α→D) (h:List Ob):Except Err α→Ot×List Ob
 | .ok v=>(.ret (.d (V v)),h)
 | .error e=>(.exc (e.xd c),h)
def oh (o:Option (Except Err α)) (inj:Err→ρ) (k:α→Option ρ):Option ρ:=match o with
 | none=>none
 | some (.error e)=>some (inj e)
 | some (.ok a)=>k a
def EX (c:CL) (n:Nat) (p:En) (h:List Ob) (e:M R) (V:α→D) (o:Option (Except Err α)) (u:List Sv→List Sv) (p':En) (h':List Ob):Prop:=∀s,bR n p s→∀v,o=some v→bR n p' (u s)∧e ⟨s,h⟩=some (match v with
 | .ok a=>.ok (.d (V a)) ⟨u s,h'⟩
 | .error x=>.ex (x.xd c) ⟨u s,h'⟩)
theorem Xg {cl:CL} {o:Option (Except Err α)} {inj:Err→ρ} {t:α→Option ρ} (H:EX cl n p h e V o u p1 h1) (hi:Nat.blt i n=true) (hx:∀er s,bR n p1 s→Fin (inj er) (.ex (er.xd cl) ⟨s,h1⟩)) (K:∀x,J Fin n B ((i,some (.v (.d (V x))))::p1) h1 (t x)):J Fin n (ao (bQ e (gN i)) B) p h (oh o inj t):=fun s m v ev=>by
 cases ho:o with
 | none=>rw[ho] at ev;cases ev
 | some w=>
  rw[ho] at ev
  obtain⟨m1,e1⟩:=H s m w ho
  cases w with
  | error er=>
   cases ev
   exact⟨_,by rw[Ox (aew e1)],hx er _ m1⟩
  | ok a=>
   obtain⟨r,hr,hf⟩:=K a _ (m1.set hi _) v ev
   exact⟨r,jV (yU e1 X5) hr,hf⟩
where aew {st s1:ST} {x:XD} {f:M R} {k:G} (h:f st=some (.ex x s1)):bQ f k st=some (.ex x s1):=by unfold bQ;rw[h]
theorem yh {cl:CL} {o:Option (Except Err α)} {inj:Err→ρ} {t:α→Option ρ} (H:EX cl n p h e V o u p1 h1) (hx:∀er s,bR n p1 s→Fin (inj er) (.ex (er.xd cl) ⟨s,h1⟩)) (K:∀x,J Fin n B p1 h1 (t x)):J Fin n (ao (jX e) B) p h (oh o inj t):=fun s m v ev=>by
 cases ho:o with
 | none=>rw[ho] at ev;cases ev
 | some w=>
  rw[ho] at ev
  obtain⟨m1,e1⟩:=H s m w ho
  cases w with
  | error er=>
   cases ev
   exact⟨_,by rw[Ox (by unfold jX;rw[e1])],hx er _ m1⟩
  | ok a=>
   obtain⟨r,hr,hf⟩:=K a _ m1 v ev
   exact⟨r,jV (s_drop e1) hr,hf⟩
end
section
variable {n i j:Nat} {p q p1 p2 px:En} {s:List Sv} {α β γ ρ ι:Type} {h h1 h2 h3:List Ob} {f g e:M R} {fa ga:M (List R)} {x y z r:R} {rs:List R} {u u1 u2 u3:List Sv→List Sv} {d:D} {ds es:List D} {o:Ob} {b b1 b2:Bool} {Fin:ρ→Rs→Prop} {A B:S} {V:α→D} {xs ys:List α} {a c:Int} {cl:CL}
def isR:Rs→Bool
 | .rt _ _=>true|.rn _ _=>true|.bk _=>true|.ct _=>true|_=>false
def X6 (cl:CL) (n:Nat) (P:α→En) (hp:α→List Ob) (px:En) (hx:List Ob) (Fin:ρ→Rs→Prop):Ct α (ρ ⊕ Err)→Rs→Prop
 | .nx a,r=>vO n P hp a r
 | .bk _,_=>False
 | .rt (.inl v),r=>Fin v r∧isR r=true
 | .rt (.inr e),r=>∃s,bR n px s∧r=.ex (e.xd cl) ⟨s,hx⟩
def Cq (cl:CL) (tb:Option (Ct α (ρ ⊕ Err))) (hd:Err→Option (Ct α ρ)):Option (Ct α ρ):=match tb with
 | none=>none
 | some (.nx a)=>some (.nx a)
 | some (.bk a)=>some (.bk a)
 | some (.rt (.inl v))=>some (.rt v)
 | some (.rt (.inr e))=>if e.c∈cl.has then hd e else none
def HD (cl:CL) (n:Nat) (p:En) (h:List Ob) (hs:List Hd) (e:Err) (Fin:ρ→Rs→Prop) (t:Option ρ):Prop:=∀s,bR n p s→∀y,t=some y→∃r,hdl hs (e.xd cl) ⟨s,h⟩=some r∧Fin y r
theorem ac_ {P:α→En} {hp:α→List Ob} {px:En} {hx:List Ob} {a:α} (hs:gj [] (P a) p) (he:hp a=h):J (X6 cl n P hp px hx Fin) n aM p h (some (.nx a)):=mJ fun s m=>⟨s,m.sub hs,by rw[he]⟩
theorem afY {hv:En} {pre:α→En} {hp:α→List Ob} {hs:List Hd} {t:α→Option ρ} {tb:Option (Ct α (ρ ⊕ Err))} {hd:Err→Option (Ct α ρ)} (hb:J (X6 cl n (fun a=>pre a++p) hp (hv++p) h1 Fin) n A p h tb) (hh:∀e,e.c∈cl.has→HD cl n (hv++p) h1 hs e (yV n (fun a=>pre a++p) hp Fin) (hd e)) (K:∀a,J Fin n B (pre a++p) (hp a) (t a)):J Fin n (ao (vM A hs) B) p h (cJ (Cq cl tb hd) t):=
 FP (P:=fun a=>pre a++p) (fun s m y ev=>by
  cases ho:tb with
  | none=>rw[ho] at ev;cases ev
  | some w=>
   rw[ho] at ev
   obtain⟨r,e1,hf⟩:=hb s m w ho
   cases w with
   | nx a=>
    cases ev
    obtain⟨s1,m1,rfl⟩:=hf
    exact⟨_,by unfold vM;rw[e1],s1,m1,rfl⟩
   | bk a=>exact hf.elim
   | rt w=>
    cases w with
    | inl v=>
     cases ev
     refine⟨r,?_,hf.1,?_⟩
     ·unfold vM;rw[e1]
      have:=hf.2
      cases r<;>first|cases this;done|rfl
     ·have:=hf.2
      cases r<;>first|cases this;done|rfl
    | inr er=>
     obtain⟨s1,m1,rfl⟩:=hf
     simp only[Cq] at ev
     split at ev
     ·rename_i hm
      obtain⟨r,e2,hr⟩:=hh er hm s1 m1 y ev
      exact⟨r,by unfold vM;rw[e1];exact e2,hr⟩
     ·cases ev) K
theorem afZ (ok:cl.Ok) {ec X:EC} (hm:ec∈cl.has):cl.m X (cl.at ec)=some (decide (ec=X)):=by unfold CL.m;rw[ok.who hm];rfl
def HR (cl:CL) (n i:Nat) (p:En) (h:List Ob) (X:EC) (gg:XD→Addr→Addr→M R) (Fin:ρ→Rs→Prop) (es:List D) (t:Option ρ):Prop:=∀v,t=some v→∃r:R,(∀a d,EV n ((i,some (.v (.d (.exc a (cl.at X) d X.fs es))))::p) h (gg ⟨cl.at X,X.fs,es⟩ a d) r id ((i,some (.v (.d (.exc a (cl.at X) d X.fs es))))::p) h)∧dX r=true∧∀s,bR n p s→Fin v (.rt r ⟨s.set i .no,h⟩)
theorem Wq {X:EC} {gg:XD→Addr→Addr→M R} {o:Option γ} {t:γ→Option ρ} (H:∀a,o=some a→HR cl n i p h X gg Fin es (t a)):HR cl n i p h X gg Fin es (o.bind t):=fun v e=>by
 cases ho:o with
 | none=>rw[ho] at e;cases e
 | some a=>rw[ho] at e;exact H a ho v e
theorem ada {X:EC} {gg:XD→Addr→Addr→M R} {v:ρ} {r:R} (H:∀a d,EV n ((i,some (.v (.d (.exc a (cl.at X) d X.fs es))))::p) h (gg ⟨cl.at X,X.fs,es⟩ a d) r id ((i,some (.v (.d (.exc a (cl.at X) d X.fs es))))::p) h) (hw:dX r=true) (K:∀s,Fin v (.rt r ⟨s,h⟩)):HR cl n i p h X gg Fin es (some v):=fun v' e=>by cases e;exact⟨r,H,hw,fun s _=>K _⟩
def CW (X:EC) (er:Err) (t1:List D→Option ρ) (t2:Option ρ):Option ρ:=if er.c=X then t1 er.ds else t2
theorem aex {X:EC} {er:Err} {hs:List Hd} {gg:XD→Addr→Addr→M R} {t2:Option ρ} {t1:List D→Option ρ} (ok:cl.Ok) (hm:er.c∈cl.has) (hi:Nat.blt i n=true) (K1:∀es:List D,X∈cl.has→HR cl n i p h X gg Fin es (t1 es)) (K2:HD cl n p h hs er Fin t2):HD cl n p h (⟨cl.m X,some i,fun x a d=>ao (bV (gg x a d)) aM⟩::hs) er Fin (CW X er t1 t2):=fun s m y hy=>by
 unfold CW at hy
 obtain⟨ec,es⟩:=er
 have hw:=afZ (X:=X) ok hm
 by_cases hx:ec=X
 ·subst hx
  simp only[a0W] at hy
  obtain⟨r,h1,h2,h3⟩:=K1 es hm y hy
  refine⟨.rt r ⟨s.set i .no,h⟩,?_,h3 s m⟩
  have hmm:cl.m ec (Err.xd cl ⟨ec,es⟩).C=some true:=by show cl.m ec (cl.at ec)=_;rw[hw];simp
  unfold hdl
  simp only[hmm]
  refine acX fun a d=>?_
  have e1:=(h1 a d _ (m.set hi _)).1
  have e2:ao (bV (gg ⟨cl.at ec,ec.fs,es⟩ a d)) aM ⟨s.set i (.v (.d (.exc a (cl.at ec) d ec.fs es))),h⟩=some (.rt r ⟨s.set i (.v (.d (.exc a (cl.at ec) d ec.fs es))),h⟩):=by rw[Wf (s_ret e1)];rfl
  show (ao (bV (gg ⟨cl.at ec,ec.fs,es⟩ a d)) aM ⟨s.set i (.v (.d (.exc a (cl.at ec) d ec.fs es))),h⟩).map (XH i)=_
  rw[e2]
  show some (Rs.rt r ⟨(s.set i (.v (.d (.exc a (cl.at ec) d ec.fs es)))).set i .no,h⟩)=_
  rw[List.set_set]
 ·simp only[a0h hx] at hy
  obtain⟨r,e1,hr⟩:=K2 s m y hy
  refine⟨r,?_,hr⟩
  have hmm:cl.m X (Err.xd cl ⟨ec,es⟩).C=some false:=by show cl.m X (cl.at ec)=_;rw[hw];simp[hx]
  unfold hdl
  simp only[hmm]
  exact e1
theorem adb {C:Addr} {e1 e2:M R} (H:EV n p h e1 r u p1 h1):EV n p h (if C=C then e1 else e2) r u p1 h1:=by rw[a0g rfl];exact H
theorem af0 {C a' dd:Addr} {fs:List Str} {nm:Str} {v:D} (e:lk p i=some (.v (.d (.exc a' C dd fs es)))) (hl:(fs.zip es).lookup nm=some v):EV n p h (QZ a' C dd nm (eV i)) (.d v) id p h:=je (aj e) fun _ _=>by simp[hl]
theorem Xh {nm:Str} {fs:List Str} {v:D} (e:es[0]?=some v):((nm::fs).zip es).lookup nm=some v:=by
 cases es with
 | nil=>cases e
 | cons x xs=>cases e;simp[List.lookup]
theorem lD {nm Ys:Str} {fs:List Str} {v:D} (hn:(nm == Ys)=false) (e:es[1]?=some v):((Ys::nm::fs).zip es).lookup nm=some v:=by
 cases es with
 | nil=>cases e
 | cons x xs=>
  simp only[a0w,List.lookup,hn]
  exact Xh (by simpa using e)
end
section
variable {n i j:Nat} {p q p1 p2 px:En} {s:List Sv} {α β γ ρ ι:Type} {h h1 h2 h3:List Ob} {f g e:M R} {fa ga:M (List R)} {x y z r:R} {rs:List R} {u u1 u2 u3:List Sv→List Sv} {d:D} {ds es:List D} {o:Ob} {b b1 b2:Bool} {Fin:ρ→Rs→Prop} {A B:S} {V:α→D} {xs ys:List α} {a c:Int} {cl:CL}
def oJ:List Nat→En
 | []=>[]
 | v::vs=>(v,some .no)::oJ vs
end
section
variable {n i j:Nat} {p q p1 p2 px:En} {s:List Sv} {α β γ ρ ι:Type} {h h0 h1 h2 h3 tl:List Ob} {f g e fo fv:M R} {fa ga:M (List R)} {x y z r:R} {rs xs:List R} {u u1 u2 u3:List Sv→List Sv} {d:D} {ds es:List D} {o:Ob} {b b1 b2:Bool} {Fin:ρ→Rs→Prop} {A B:S} {V:α→D} {a c:Int} {cl:CL} {t:Option ρ} {v:ρ}
theorem hget {ob:Ob}:(h++ob::tl)[h.length]?=some ob:=by rw[a0t (a0v _),b0i];rfl
theorem agN {ob ob':Ob}:(h++ob::tl).set h.length ob'=h++ob'::tl:=by
 rw[List.set_append_right _ _ (a0v _),b0i];rfl
theorem qF {C:Addr} {Cs:List Addr} {fs:List Str} {nm:Str} (H:EV n p h0 fv r u p1 (h++.ins C fs xs::tl)) (ho:EV n p1 (h++.ins C fs xs::tl) fo (.o h.length) id p1 (h++.ins C fs xs::tl)) (hC:C∈Cs) (hw:dX r=true) (hn:fs.contains nm=false) (hd:decide (fs.length<900∧fs.Nodup)=true) (K:J Fin n B p1 (h++.ins C (fs++[nm]) (xs++[r])::tl) t):J Fin n (ao (tV Cs nm fo fv) B) p h0 t:=fun s m v ev=>by
 have m1:=(H s m).2
 obtain⟨r',hr,hf⟩:=K _ m1 v ev
 refine⟨r',jV ?_ hr,hf⟩
 have hd:=b0y hd
 have hk:vm fs nm=fs++[nm]:=by unfold vm;rw[a0h (by simpa using hn)]
 have hx:Bt fs xs nm r=xs++[r]:=by unfold Bt;rw[a0h (by simpa using hn)]
 have ob:bF ⟨u s,h++.ins C fs xs::tl⟩ (.o h.length)=some (.ins C fs xs):=hget
 unfold tV
 rw[cM (H s m).1,cM (show fo ⟨u s,_⟩=some (.ok _ ⟨u s,_⟩) from(ho _ m1).1)]
 simp only[ob,a0i,hC,hw,hd.1,hd.2,and_self,a0W,pG,agN,hk,hx]
def tQ (cl:CL) (h:List Ob) (W:α→List Ob) (v:Except Err α) (r:Rs):Prop:=match v with
 | .ok a=>endF r=some (.ret (.d .non),h++W a)
 | .error e=>∃t,endF r=some (.exc (e.xd cl),h++t)
def qO (cl:CL) (C:Addr) (F:Fn) (h:List Ob) (rs:List R) (W:α→List Ob) (v:Except Err α):Prop:=match v with
 | .ok a=>F (.o h.length::rs) (h++[.ins C [] []])=some (.ret (.d .non),h++W a)
 | .error e=>∃t,F (.o h.length::rs) (h++[.ins C [] []])=some (.exc (e.xd cl),h++t)
theorem u6 {m k:Nat} {W:α→List Ob} {C:Addr} {t:Option (Except Err α)} {v:Except Err α} (hm:bR m p (qM m (.o h.length::rs))) (hl:(.o h.length::rs:List R).length=k) (H:J (tQ cl h W) m B p (h++[.ins C [] []]) t) (e:t=some v):qO cl C (AL.runN k m B) h rs W v:=by
 obtain⟨r,h1,h2⟩:=H _ hm v e
 cases v with
 | ok a=>exact G5 hl h1 h2
 | error er=>obtain⟨t,h2⟩:=h2;exact⟨t,G5 hl h1 h2⟩
theorem jQ {C:Addr} {F:Fn} {dv:List D} {W:α→List Ob} {o:Option (Except Err α)} (hf:EV n p h fa rs u p1 h1) (hw:rs.all dX=true) (hF:∀v,o=some v→qO cl C F h1 (rs++dv.map .d) W v) (hV:∀a,((W a).head?).bind Ck=some (V a)):EX cl n p h (iI C F dv fa) V o u p1 h1:=fun s m v hv=>⟨(hf s m).2,by
 have hO:=hF v hv
 have hw2:((.o h1.length:R)::(rs++dv.map .d)).all dX=true:=by
  simp only[a0S,List.all_append,hw,Bool.and_true,b0E,dX,List.all_map,List.all_eq_true]
  intro x _;rfl
 unfold iI
 rw[cM (hf s m).1]
 cases v with
 | ok a=>
  have hO:F (.o h1.length::(rs++dv.map .d)) (h1++[.ins C [] []])=some (.ret (.d .non),h1++W a):=hO
  have:ig F (.o h1.length::(rs++dv.map .d)) ⟨u s,h1++[.ins C [] []]⟩=some (.ok (.d .non) ⟨u s,h1++W a⟩):=by unfold ig;rw[a0g hw2];simp only[hO]
  rw[this]
  have hh:=hV a
  cases hW:W a with
  | nil=>rw[hW] at hh;cases hh
  | cons ob tl=>
   rw[hW] at hh
   have hh:Ck ob=some (V a):=hh
   have h3:((h1++ob::tl)[h1.length]?).bind Ck=some (V a):=by rw[hget];exact hh
   have h4:(h1++ob::tl).take h1.length=h1:=by simp
   simp only[h4,a0W,h3];rfl
 | error er=>
  obtain⟨t,hO⟩:=hO
  have:ig F (.o h1.length::(rs++dv.map .d)) ⟨u s,h1++[.ins C [] []]⟩=some (.ex (er.xd cl) ⟨u s,h1++t⟩):=by unfold ig;rw[a0g hw2];simp only[hO]
  rw[this]
  show some (Rx.ex (er.xd cl) (popS ⟨u s,h1⟩ ⟨u s,h1++t⟩))=_
  rw[abZ]⟩
structure sE where
 base:Int
 numbers:List (Str×Int)
structure G8 (cl:CL) (h:List Ob) (n m:Nat) (r:sE):Prop where
 o:h[n]?=some (.ins cl.Memory ["base","numbers"] [.d (.int r.base),.o m])
 d:h[m]?=some (.aV (kS r.numbers) (dV D.int r.numbers))∨h[m]?=some (.iD (kS r.numbers) (dV D.int r.numbers))
variable {k m:Nat} {M:sE}
theorem G8.inV (H:G8 cl h k m M) {s:List Sv}:AL.inV ⟨s,h⟩ (.o k)=some (cl.Memory,(["base","numbers"]:List Str),[R.d (.int M.base),R.o m]):=by unfold AL.inV;simp only[bF,H.o]
end
end TY
set_option maxHeartbeats 2000000
namespace TY
open PySem L2 DL AL PyProof.Rows
noncomputable def Fp (c:CL):S:=(ao (bT (fM (tF (m7 (aU jJ) (aU jJ) (eC (.int 1)) (M.of (aC (eV 0) aN) fZ) (eC (.int 8))))) (ao (bV (eC (.bl false)))
 aM) aM)
 (ao (ji (wS (eV 0)) (gN 1) (ao (bT (tF (eB (kIn true) (eV 1) (eC (.str "abcdefghijklmnopqrstuvwxyz")))) (ao (bV (eC (.bl false)))
 aM) aM)
 aM))
 (ao (bV (eC (.bl true)))
 aM)))
@[irreducible] noncomputable def xK (c:CL):Fn:=(runN 1 2 (Fp c))
theorem TV (c:CL):xK c=(runN 1 2 (Fp c)):=by unfold xK;rfl
noncomputable def Aq (text:Str):Option Bool:=
 (Qo text).bind fun v=>
 if (!(decide ((1:Int)≤v)&&decide (v≤(8:Int))))=true then some false
 else cJ (cV (fun letter s_=>
 (Ik letter ("abcdefghijklmnopqrstuvwxyz":Str)).bind fun q=>
 if (!q)=true then some (.rt false)
 else some (.nx ())) (signs text) ()) fun s_1=>
 some true
theorem abG {c:CL} {text:Str} {h:List Ob} {v:Bool}  (e:Aq text=some v):xK c [.d (D.str text)] h=some (outD D.bl h v):=by
 rw[TV]
 exact fn_of (p:=[(0,some (.v (.d (D.str text)))),(1,some .no)]) (dR rfl rfl) rfl  (show J (iz (outD D.bl h)) 2 (Fp c) _ h (Aq text) from
 bf fun v cR=>
 d7 (eZ (cU (lC aJ (ac6 cR (aD (aj rfl) aO)) fj aJ fj))) (dU (cO aJ fun s m=>rfl))
 (dZ (sW (α:=Unit) (pre:=fun s_=>[(1,none)]) (hp:=fun s_=>h) (a0:=()) (afV (aj rfl)) (bO b_) (pN rfl (fun _=>rfl)) (fun letter s_=>
 bf fun q wz=>
 d7 (cU (aX (aj rfl) aJ (ab3 wz))) (dU (cO aJ fun s m=>⟨rfl,rfl⟩))
 (dZ (qp (bO (nj 2 rfl rfl)) rfl))) fun s_1=>
 cO aJ fun s m=>rfl))) e
section
variable {n i j k m:Nat} {p q p1 p2 px:En} {s:List Sv} {α β γ ρ ι:Type} {h h0 h1 h2 h3 tl:List Ob} {f g e fo fv:M R} {fa ga:M (List R)} {x y z r:R} {rs xs:List R} {u u1 u2 u3:List Sv→List Sv} {d:D} {ds es:List D} {o:Ob} {b b1 b2:Bool} {Fin:ρ→Rs→Prop} {A B:S} {V:α→D} {a c:Int} {cl:CL} {t:Option ρ} {v:ρ} {Y Y':sE}
structure mY (cl:CL) (h:List Ob) (n m:Nat) (r:sE):Prop where
 o:h[n]?=some (.ins cl.Memory ["base","numbers"] [.d (.int r.base),.o m])
 d:h[m]?=some (.aV (kS r.numbers) (dV D.int r.numbers))
theorem mY.at (H:mY cl h k m Y):G8 cl h k m Y:=⟨H.o,.inl H.d⟩
theorem mY.app (H:mY cl h k m Y):mY cl (h++tl) k m Y:=⟨by rw[a0u (a0d.mp H.o).1];exact H.o,by rw[a0u (a0d.mp H.d).1];exact H.d⟩
theorem mY.ne (H:mY cl h k m Y):k≠m:=fun z=>by have:=H.o;rw[z,H.d] at this;cases this
theorem mY.lock (H:mY cl h k m Y):G8 cl (h.set m (.iD (kS Y.numbers) (dV D.int Y.numbers))) k m Y:=⟨by rw[b0C (fun z=>H.ne z.symm)];exact H.o,.inr (by rw[List.getElem?_set_self (a0d.mp H.d).1])⟩
def sE.put (Y:sE) (s:Str) (v:Int):sE:=⟨Y.base,j9 Y.numbers s v⟩
def Qp (h:List Ob) (m:Nat) (Y:sE):List Ob:=h.set m (.aV (kS Y.numbers) (dV D.int Y.numbers))
theorem mY.put (H:mY cl h k m Y) (hb:Y'.base=Y.base):mY cl (Qp h m Y') k m Y':=⟨by unfold Qp;rw[b0C (fun z=>H.ne z.symm),hb];exact H.o,by unfold Qp;rw[List.getElem?_set_self (a0d.mp H.d).1]⟩
theorem ade {F:Fn} {v:Except Err α} {st:List Sv} (hw:rs.all dX=true) (hF:F rs h=some (qN cl V h v)):ig F rs ⟨st,h⟩=some (match v with
 | .ok a=>.ok (.d (V a)) ⟨st,h⟩
 | .error x=>.ex (x.xd cl) ⟨st,h⟩):=by
 unfold ig;rw[a0g hw];simp only[hF];cases v<;>rfl
def X7 (h:List Ob) (out:ρ→Ot×List Ob) (v:ρ) (r:Rs):Prop:=∃h',endF r=some ((out v).1,h')∧h'.take h.length=h
theorem aey {mm kk:Nat} {args:List R} {out:ρ→Ot×List Ob} (hm:bR mm p (qM mm args)) (hl:args.length=kk) (ho:∀v,(out v).2=h∧∀x,(out v).1≠.ret (.o x)∧∀b,(out v).1≠.ret (.n b)) (H:J (X7 h out) mm B p h t) (e:t=some v):vN (AL.runN kk mm B) args h=some (out v):=by
 obtain⟨r,h1,h',h2,h3⟩:=H _ hm v e
 have hr:=G5 (n:=kk) (m:=mm) hl h1 h2
 obtain⟨ho1,ho2⟩:=ho v
 unfold vN
 rw[hr]
 cases hv:out v with
 | mk o hh=>
  rw[hv] at ho1 ho2
  have ho1:hh=h:=ho1
  subst ho1
  cases o with
  | exc x=>simp only[h3,a0W]
  | ret w=>
   cases w with
   | d x=>simp only[h3,a0W]
   | o y=>exact absurd rfl (ho2 y).1
   | n y=>exact absurd rfl ((ho2 0).2 y)
theorem adf {V:α→D}:∀v,(qN cl V h v).2=h∧∀x,(qN cl V h v).1≠.ret (.o x)∧∀b,(qN cl V h v).1≠.ret (.n b):=fun v=>by
 cases v<;>exact⟨rfl,fun x=>⟨(fun z=>by cases z),(fun b z=>by cases z)⟩⟩
theorem adg {er:Err} {hs:List Hd}:HD cl n p h hs er Fin none:=fun s mm y hy=>by cases hy
end
section
variable {K:PySem.W.Frag}
def Bx (K:PySem.W.Frag):Sp:=fun vs H Q _=>∃(a:Addr) (ns:List Int),vs=[.ref a]∧SqL K H a (ns.map V.int)∧ns.length≤63∧∀H2,Q (.bl true) H2
theorem ab9 (H:Hp):au K ⟨H,H,[]⟩ ⟨[],[]⟩ [] H [] H [] where
 keep:=fun a o h _=>h
 eB:=Ex.refl _
 bH:=Ex.refl _
 ap:=fun a h1 h2=>absurd h1 h2
 pre:=bJ.refl _
 hl:=rfl
 len:=rfl
 val:=fun i r h=>by simp at h
 obj:=fun n b h=>by simp at h
 own:=fun i b h=>by simp at h
 inj:=List.nodup_nil
 new:=fun a h=>by simp at h
 dsl:=fun i j b c a h=>by simp at h
 tmp:=fun p h=>by simp at h
theorem aez {F:Fn} (hF:∀ns:List Int,ns.length≤63→∃h',F [.d (.dG ns)] []=some (.ret (.d (.bl true)),h')) (vs:List V) (H:Hp) (Q:VK) (E:XK) (h:Bx K vs H Q E):aQ K F vs H Q E:=by
 obtain⟨a,ns,rfl,hS,hl,hQ⟩:=h
 obtain⟨h',e⟩:=hF ns hl
 refine⟨H,[],[.d (.dG ns)],[],_,ab9 H,.cons (show Rp K H (.dG ns) (.ref a) by unfold Rp;exact⟨a,rfl,hS⟩) .nil,e,?_⟩
 intro v H2 ⟨Hb,ι,C⟩
 have hv:v=.bl true:=C.tmp (rt K [] (.d (.bl true)) v) (by simp)
 rw[hv];exact hQ H2
theorem aeA {P:Program} {w:World} {mg:Str→Option Value} {base:Heap} {k:Nat} {f:Addr} {fd:FuncData} {ps:List Str} {F:Fn} (h:FnOk P w K mg base (L2.CX P w) k f fd ps (aQ K F)) (hF:∀ns:List Int,ns.length≤63→∃h',F [.d (.dG ns)] []=some (.ret (.d (.bl true)),h')):FnOk P w K mg base (L2.CX P w) k f fd ps (Bx K):=h.imp (aez hF)
theorem adh {c:CL} {C:Addr} {e:EC} (h:c.who C=some e):e∈c.has∧c.at e=C:=by
 unfold CL.who at h
 exact⟨b0c h,by simpa using List.find?_some h⟩
theorem adi {c:CL} {X:EC} (h:∀e∈c.has,PySem.W.exmOne K (.ref (c.at e)) (.ref (c.at X))=some (decide (e=X))):∀C b,c.m X C=some b→PySem.W.exmOne K (.ref C) (.ref (c.at X))=some b:=fun C b e=>by
 unfold CL.m at e
 obtain⟨x,hx,rfl⟩:=a0b.mp e
 obtain⟨h1,rfl⟩:=adh hx
 exact h x h1
theorem ab_ {c:CL} (h:(c.has.map c.at).Nodup):c.Ok:=⟨fun e h1 e' h2 he=>by
 have key:∀l:List EC,(l.map c.at).Nodup→e∈l→e'∈l→e=e':=by
  intro l
  induction l with
  | nil=>intro _ h;simp at h
  | cons x l ih=>
   intro hn m1 m2
   rw[a0y,a0Y] at hn
   rcases a0c.mp m1 with rfl|m1
   ·rcases a0c.mp m2 with rfl|m2
    ·rfl
    ·exact absurd (a0G.mpr ⟨e',m2,he.symm⟩) hn.1
   ·rcases a0c.mp m2 with q|m2
    ·subst q;exact absurd (a0G.mpr ⟨e,‹e∈l›,he⟩) hn.1
    ·exact ih hn.2 m1 m2
 exact key _ h h1 h2⟩
theorem all1 {α:Type} {p:α→Prop} {a:α} {l:List α} (h:p a) (k:∀x∈l,p x):∀x∈a::l,p x:=fun x hx=>(a0c.mp hx).elim (fun e=>by rw[e];exact h) (k x)
theorem Cr {α:Type} {p:α→Prop}:∀x∈([]:List α),p x:=fun x hx=>by simp at hx
theorem af2 {l:PySem.W.OpenLaw} {q:Program} {loose:List Str} {XP:(Str→Option Value)→Heap→Prop} {YP:World→Heap→Prop} {d:DefRec} {K:Params→PySem.W.Frag} {k:Nat} {x:Str} (hk:Room k callerA) (hn:l.most=some 63) (hdf:d.params.defaults=[])
  (hY:∀(w:World) (h:Heap),YP w h→(K w.params).In h)
  (F:∀(w:World) (mg:Str→Option Value) (fa:Addr) (h:Heap),(K w.params).In h→h.Ns mainGlobals mg→mg d.name=some (.ref fa)→
   ∃fd:FuncData,(∀(s:Shared) (u:Value),BindsTo s fd ⟨[u],[]⟩ [(x,u)])∧∀base:Heap,(K w.params).In base→base.Ns mainGlobals mg→FnOk l.prog w (K w.params) mg base (L2.CX l.prog w) k fa fd [x] (Bx (K w.params))) :
  PySem.W.WalkO q loose XP YP l.row.toRowW d [] (fun f vs=>PySem.call f vs):=
 L2.walk_of (n:=63) (k:=k) (x:=x) (CX:=fun w=>L2.CX l.prog w) (sp:=fun w=>Bx (K w.params)) hn (by decide) hdf hk hY F
  (fun w H a ns hl _ hS=>⟨a,ns,rfl,hS,hl,fun _=>rfl⟩)
  fun _ _ _ _ _ ⟨_,_,_,_,_,_,_,_,_,_,_,_,z⟩=>z
end
end TY
namespace TY
open PySem PySem.W L2 PyProof.Rows
end TY
namespace TY
open PySem L2 DL AL PyProof.Rows
def qW:D→Option Str
 | .str s=>some s
 | _=>none
def Yt:D→Option Int
 | .int i=>some i
 | _=>none
def Yu:D→Option (List D)
 | .tup ds=>some ds
 | _=>none
def bM (d:D) (i:Int):Option D:=match d with
 | .tup ds=>atI ds i
 | .lst ds=>atI ds i
 | _=>none
def X8 (d:D) (tn:String):Option Bool:=(CK d).bind fun n=>isT n tn
section
variable {n i j:Nat} {p q p1 p2 px:En} {α β γ ρ ι:Type} {h h1 h2:List Ob} {f g e:M R} {fa:M (List R)} {x y z r:R} {u u1:List Sv→List Sv} {d v:D} {ds:List D} {Fin:ρ→Rs→Prop} {A B:S} {a:Int} {ps:List (Str×Int)}
theorem ql (k:Key):keyD (kD k)=some k:=by cases k<;>rfl
end
section
variable {n:Nat} {p p1 p2:En} {h h1 h2:List Ob} {fa fk:M (List R)} {rs zs:List R} {u u1:List Sv→List Sv}
theorem VG {α:Type} {V:α→D}:EV n p h (dh (iy aN)) (.d (vL V [])) id p h:=eE (lu aO rfl rfl) rfl
end
section
variable {n:Nat} {p p1 p2:En} {h h1 h2:List Ob} {f:M R} {fa:M (List R)} {u u1:List Sv→List Sv}
def j_ (ss:List Str) (s:Str):Option Int:=(ss.findIdx? fun z=>decide (z=s)).map fun(j:Nat)=>(j:Int)
end
section
variable {n:Nat} {α:Type} {p p1 p2:En} {h h1 h2 h3:List Ob} {f fo e:M R} {fa:M (List R)} {rs:List R} {u u1:List Sv→List Sv} {d:D} {ds:List D} {C:Addr} {fs:List Str} {nm:Str} {F:Fn} {V:α→D} {cl:CL}
def pU (o:Option (Except Err α)):Option α:=match o with
 | some (.ok a)=>some a
 | _=>none
theorem VH {o:Option (Except Err α)} {a:α} (h:pU o=some a):o=some (.ok a):=by
 unfold pU at h
 split at h
 ·cases h;rfl
 ·cases h
theorem vp {o:Option (Except Err α)} {v:α} (hv:pU o=some v) (H:EX cl n p h e V o u p1 h1):EV n p h e (.d (V v)) u p1 h1:=fun s m=>⟨(H s m _ (VH hv)).2,(H s m _ (VH hv)).1⟩
theorem aeB {o:Option (Except Err α)} (ho:EV n p h fo (.d (.ins C fs ds)) u p1 h1) (hf:EV n p1 h1 fa rs u1 p2 h2) (hw:rs.all dX=true) (hF:∀v,o=some v→F (.d (.ins C fs ds)::rs) h2=some (qN cl V h2 v)):EX cl n p h (Ig C F fo fa) V o (fun s=>u1 (u s)) p2 h2:=fun s m v hv=>⟨(hf _ (ho s m).2).2,by
 have m1:=(ho s m).2
 unfold Ig
 rw[cM (ho s m).1]
 have e1:AL.inV ⟨u s,h1⟩ (.d (.ins C fs ds))=some (C,fs,ds.map R.d):=rfl
 have e2:AL.inV ⟨u1 (u s),h2⟩ (.d (.ins C fs ds))=some (C,fs,ds.map R.d):=rfl
 simp only[e1]
 rw[cM (hf _ m1).1]
 simp only[e2,a0W]
 rw[ade (V:=V) (by rw[a0S,hw];rfl) (hF v hv)]
 cases v<;>rfl⟩
end
def Rk (h:List Ob) (r:R) (k:Str) (x:R):Prop:=∀s,bY ⟨s,h⟩ r (.d (.str k))=some x
section
variable {n i:Nat} {α β ρ:Type} {p p1 p2:En} {h hh h1 h2 h3:List Ob} {f fo e:M R} {fa:M (List R)} {rs xs:List R} {u u1:List Sv→List Sv} {d:D} {ds:List D} {r x:R} {k:Str} {ks:List Key} {m:Nat} {Fin:ρ→Rs→Prop} {A B:S} {V:α→D} {v:ρ}
theorem af3 {o:Ob} {fo:M Ob} (H:EV n p h fo o u p1 h1) (hm:h1.length=m):EV n p h (Ib fo) (.o m) u p1 (h1++[o]):=fun s mm=>⟨by
 subst hm
 unfold Ib
 rw[cM (H s mm).1],(H s mm).2⟩
end
section
variable {n i:Nat} {α β ρ:Type} {p p1 p2:En} {h h1 h2 h3:List Ob} {f fo e:M R} {fa:M (List R)} {rs xs:List R} {u u1:List Sv→List Sv} {d v:D} {ds:List D} {r x:R} {V W:α→D}
def BJ (d:D) (ds:List D):Option Bool:=if (fK d&&fK (.tup ds))=true then some (ds.any fun z=>cG z d) else none
end
end TY
set_option maxHeartbeats 2000000
namespace TY
open PySem L2 DL AL PyProof.Rows
end TY
set_option maxHeartbeats 2000000
namespace TY
open PySem L2 DL AL PyProof.Rows
noncomputable def E_ (c:CL):S:=(ao (bQ (eC (.int 0)) (gN 3))
 (ao (bT (tF (eB (aU kLt) (eV 1) (M.of (aC (eV 0) aN) fZ))) (ao (bQ (M.of (aC (eB bY (eV 0) (eV 1)) aN) jD) (gN 3))
 aM) aM)
 (ao (bQ (eB (aU QM) (eV 3) (eB (aU BX) (eC (.int 10)) (eC (.int 18)))) (gN 4))
 (ao (bQ (eB bY (dh (iy (aC (eB jC (eV 3) (eB (aU pK) (eC (.int 7919)) (eV 1))) (aC (eB (aU Qg) (eV 3) (eB (aU BX) (eC (.int 10)) (eC (.int 18)))) aN)))) (M.of (aC (eV 4) aN) jD)) (gN 5))
 (ao (jE 6 (iy aN))
 (ao (ji (jd (aC (eV 2) aN)) (gN 7) (ao (bT (fM (tR (eV 4))) (ao (bQ (eB (aU jh) (M.of (aC (eB jC (eB jC (eB (aU pK) (eV 5) (eC (.int 48271))) (eB (aU pK) (eC (.int 11)) (eV 7))) (eC (.int 7))) aN) jD) (eC (.int 2147483647))) (gN 5))
 (ao (bQ (eB (aU jh) (M.of (aC (eB jC (eB jC (eB (aU pK) (eV 5) (eC (.int 69621))) (eB (aU pK) (eC (.int 5)) (eV 7))) (eC (.int 3))) aN) jD) (eC (.int 2147483647))) (gN 5))
 aM)) aM)
 (ao (jX (CV (eV 6) (aC (eB (aU jh) (M.of (aC (eV 5) aN) jD) (eC (.int 10000000))) aN) yQ))
 (ao (bT (tR (eV 4)) (ao (bQ (eB (aU Hf) (eV 5) (eC (.int 10000000))) (gN 5))
 aM) aM)
 aM))))
 (ao (bV (vK 6))
 aM)))))))
@[irreducible] noncomputable def wZ (c:CL):Fn:=(runN 3 8 (E_ c))
theorem Tz (c:CL):wZ c=(runN 3 8 (E_ c)):=by unfold wZ;rfl
noncomputable def uP (script:List Int) (k:Int) (many:Int):Option (List Int):=
 (if (decide (k<(script.length:Int)))=true then(atI script k).bind fun v=>
 some v else some (0:Int)).bind fun cell=>
 dD (decide (((10:Int) ^ (18:Int).toNat)≤cell)) fun great=>
 (atI [cell+((7919:Int)*k),cell-((10:Int) ^ (18:Int).toNat)] (if great=true then(1:Int) else 0)).bind fun left=>
 (fQ (0:Int) many).bind fun r=>
 (lH (fun at_ s_=>
 dD (if (!great)=true then((((((((s_.1*(48271:Int))+((11:Int)*at_))+(7:Int))%(2147483647:Int))*(69621:Int))+((5:Int)*at_))+(3:Int))%(2147483647:Int)) else s_.1) fun vq=>
 (Hr s_.2 (vq%(10000000:Int))).bind fun oX=>
 dD (if great=true then(vq/(10000000:Int)) else vq) fun BK=>
 some (BK,oX)) r (left,([]:List Int))).bind fun s_1=>
 some s_1.2
theorem abp {c:CL} {script:List Int} {k:Int} {many:Int} {h:List Ob} {v:List Int}  (e:uP script k many=some v):wZ c [.d (D.dG script),.d (D.int k),.d (D.int many)] h=some (outD (vL D.int) h v):=by
 rw[Tz]
 exact fn_of (p:=[(0,some (.v (.d (D.dG script)))),(1,some (.v (.d (D.int k)))),(2,some (.v (.d (D.int many)))),(3,some .no),(4,some .no),(5,some .no),(6,some .no),(7,some .no)]) (dR rfl rfl) rfl  (show J (iz (outD (vL D.int) h)) 8 (E_ c) _ h (uP script k many) from
 jY aJ rfl rfl (Xf (α:=Int) (pre:=fun cell=>[(3,some (.v (.d (D.int cell))))]) (hp:=fun cell=>h) (cU (aX (aj rfl) (ac5 (aD (aj rfl) aO)) Bw)) (bf fun v cR=>
 jY (pB (aD (aX (aj rfl) (aj rfl) (aes cR)) aO)) rfl rfl (sO (gY rfl (FJ rfl b_)) rfl)) (sO (gY rfl b_) rfl) fun cell=>
 Cp (V:=fun x=>.d (D.bl x)) (aX (aj rfl) (aX aJ aJ (VB rfl)) afT) rfl rfl fun great=>
 bf fun left aeC=>
 jY (aX (eE (lu (aD (aX (aj rfl) (aX aJ (aj rfl) (Od rfl)) mK) (aD (aX (aj rfl) (aX aJ aJ (VB rfl)) (jf rfl)) aO)) rfl rfl) rfl) (ac4 (aD (aj rfl) aO)) (nR (V:=D.int) aeC)) rfl rfl (pA (lu aO rfl rfl) rfl (bf fun r fV=>
 aep (α:=Int×(List Int)) (pre:=fun s_=>[(5,some (.v (.d (D.int s_.1)))),(6,some (.own (.lst (s_.2.map D.int)))),(7,none)]) (hp:=fun s_=>h) (a0:=(left,([]:List Int))) (kZ fV (aD (aj rfl) aO)) (gY rfl (gY rfl (bO b_))) (pN rfl (fun _=>rfl)) (fun at_ s_=>
 Ph (α:=Int) (pre:=fun vq=>[(5,some (.v (.d (D.int vq))))]) (hp:=fun vq=>h) (eZ (n_ (aj rfl) oE)) (jY (aX (pB (aD (aX (aX (aX (aj rfl) aJ (Vz rfl)) (aX aJ (aj rfl) (Od rfl)) mK) aJ mK) aO)) aJ (uV rfl)) rfl rfl (jY (aX (pB (aD (aX (aX (aX (aj rfl) aJ (Vz rfl)) (aX aJ (aj rfl) (Od rfl)) mK) aJ mK) aO)) aJ (uV rfl)) rfl rfl (sO (gY rfl (nj 2 rfl rfl)) rfl))) (sO (gY rfl b_) rfl) fun vq=>
 afW (V:=D.int) rfl (aX (pB (aD (aj rfl) aO)) aJ (uV rfl)) rfl rfl fun oX=>
 Ph (α:=Int) (pre:=fun BK=>[(5,some (.v (.d (D.int BK))))]) (hp:=fun BK=>h) (n_ (aj rfl) oE) (jY (aX (aj rfl) aJ (ac3 rfl)) rfl rfl (sO (gY rfl (FJ rfl b_)) rfl)) (sO (gY rfl b_) rfl) fun BK=>
 ac2 (gY rfl (gY rfl (bO (nj 7 rfl rfl)))) rfl) fun s_1=>
 cO (Wg rfl rfl rfl) fun s m=>rfl)))) e
section
variable {α β γ ι ρ:Type}
theorem adk {xs:List α} {x:α} (h:xs.length<16000000):Hr xs x=some (xs++[x]):=a0g h
theorem Og {xs ys:List α} (h:xs.length+ys.length≤16000000):Ht xs ys=some (xs++ys):=a0g h
theorem Gg {i j:Int} (h:0<j):pO i j=some (i%j):=a0g h
theorem adl {s:Str} (h:s.length≤16000000):Qo s=some (s.length:Int):=a0g h
theorem adn {lo hi:Int} (h:(-1000000000≤lo∧lo≤1000000000)∧-1000000000≤hi∧hi≤1000000000):fQ lo hi=some (rng lo hi):=a0g h
theorem agO (n:Nat):rng 0 (n:Int)=(List.range n).map fun(i:Nat)=>(i:Int):=by unfold rng;simp
theorem yJ {n:Nat} (h:n≤1000000000):fQ 0 (n:Int)=some ((List.range n).map fun(i:Nat)=>(i:Int)):=by rw[adn (by omega),agO]
theorem M_ {f:ι→α→Option α} {y:ι} {ys:List ι} {a:α}:lH f (y::ys) a=(f y a).bind (lH f ys):=rfl
theorem Vb {f:ι→α→Option α} (I:List ι→α→Prop) {ys:List ι} {a:α} (h0:I [] a) (hs:∀done y rest b,ys=done++y::rest→I done b→∃b',f y b=some b'∧I (done++[y]) b'):∃b,lH f ys a=some b∧I ys b:=by
 have key:∀(rest done:List ι) (b:α),ys=done++rest→I done b→∃b',lH f rest b=some b'∧I ys b':=by
  intro rest
  induction rest with
  | nil=>intro done b e hb;rw[a0O] at e;subst e;exact⟨b,rfl,hb⟩
  | cons y rest ih=>
   intro done b e hb
   obtain⟨b1,h1,h2⟩:=hs done y rest b e hb
   obtain⟨b2,h3,h4⟩:=ih (done++[y]) b1 (by rw[e];simp) h2
   exact⟨b2,by rw[M_,h1];exact h3,h4⟩
 exact key ys [] a rfl h0
theorem Vc {c:ι→Option Bool} {f:ι→Option β} {g:ι→β}:∀{ys:List ι},(∀y∈ys,c y=some true)→(∀y∈ys,f y=some (g y))→tO c f ys=some (ys.map g)
 | [],_,_=>rfl
 | y::ys,hc,hf=>by
  unfold tO
  rw[hc y (by simp),hf y (by simp)]
  simp only[a0i,a0W,Vc (ys:=ys) (fun z hz=>hc z (by simp[hz])) fun z hz=>hf z (by simp[hz])];rfl
theorem Gh {c:ι→Option Bool} {f:ι→Option β} {g:ι→β} {ys:List ι} (hl:ys.length≤16000000) (hc:∀y∈ys,c y=some true) (hf:∀y∈ys,f y=some (g y)):gA c f ys=some (ys.map g):=by unfold gA;rw[a0g hl];exact Vc hc hf
theorem VJ {f:ι→α→Option (Ct α ρ)} {y:ι} {ys:List ι} {a b:α} (h:f y a=some (.nx b)):cV f (y::ys) a=cV f ys b:=by
 conv=>lhs;unfold cV
 rw[h]
theorem VL {f:ι→α→Option (Ct α ρ)} {y:ι} {ys:List ι} {a:α} {v:ρ} (h:f y a=some (.rt v)):cV f (y::ys) a=some (.rt v):=by unfold cV;rw[h]
theorem ado {f:ι→α→Option (Ct α ρ)} {y:ι} {ys:List ι} {a b:α} (h:f y a=some (.bk b)):cV f (y::ys) a=some (.nx b):=by unfold cV;rw[h]
end
theorem jB {α:Type} {xs:List α} {i:Nat}:atI xs (i:Int)=xs[i]?:=by
 cases h:xs[i]? with
 | some x=>exact at_of (by omega) (by simpa using h)
 | none=>
  have:xs.length≤i:=List.getElem?_eq_none_iff.mp h
  unfold atI ixN
  rw[a0g (by omega),a0h (by omega)];rfl
def Hu (f:Nat→Int) (n:Nat):List Int:=(List.range n).map f
theorem Gi {f:Nat→Int} {n:Nat} {i:Int} (h0:0≤i) (h1:i<n):atI (Hu f n) i=some (f i.toNat):=at_of h0 (by unfold Hu;rw[a0p,b0g (by omega)];rfl)
def Drawn (f:Nat→Int):Prop:=∀i,0≤f i∧f i<10000000
theorem acd (sc:List Int) (k many:Nat) (hm:many≤100000):∃f,Drawn f∧uP sc (k:Int) (many:Int)=some (Hu f many):=by
 suffices ∃ws:List Int,ws.length=many∧(∀w∈ws,0≤w∧w<10000000)∧uP sc (k:Int) (many:Int)=some ws by
  obtain⟨ws,h1,h2,h3⟩:=this
  refine⟨fun i=>ws.getD i 0,fun i=>?_,?_⟩
  ·show 0≤ws.getD i 0∧ws.getD i 0<10000000
   rw[a0Q]
   cases q:ws[i]? with
   | none=>exact⟨by decide,by decide⟩
   | some w=>exact h2 w (a0l q)
  ·rw[h3]
   congr 1
   refine a0L fun i=>?_
   unfold Hu
   rw[a0p]
   by_cases hi:i<many
   ·rw[b0g hi,a0e (by omega)]
    simp[a0Q,a0e (show i<ws.length by omega)]
   ·rw[a0D (by omega),a0D (by simp;omega)];rfl
 unfold uP
 have hcell:∃cell,(if (decide ((k:Int)<(sc.length:Int)))=true then(atI sc (k:Int)).bind fun v=>some v else some (0:Int))=some cell:=by
  by_cases hk:k<sc.length
  ·rw[a0g (by simpa using hk)]
   exact⟨sc[k],by rw[jB,a0e hk];rfl⟩
  ·exact⟨0,by rw[a0h (by simpa using hk)]⟩
 obtain⟨cell,hc⟩:=hcell
 rw[hc]
 simp only[a0i,dD]
 have hl:∃left,atI [cell+((7919:Int)*k),cell-((10:Int) ^ (18:Int).toNat)] (if (decide (((10:Int) ^ (18:Int).toNat)≤cell))=true then(1:Int) else 0)=some left:=by
  split
  ·exact⟨_,rfl⟩
  ·exact⟨_,rfl⟩
 obtain⟨left,hl⟩:=hl
 rw[hl,yJ (by omega)]
 simp only[a0i]
 obtain⟨b,h1,h2⟩:=Vb (f:=fun at_ (s_:Int×List Int)=>(Hr s_.2 ((if (!decide (((10:Int) ^ (18:Int).toNat)≤cell))=true then(((((((s_.1*(48271:Int))+((11:Int)*at_))+(7:Int))%(2147483647:Int))*(69621:Int))+((5:Int)*at_))+(3:Int))%(2147483647:Int) else s_.1)%(10000000:Int))).bind fun oX=>some ((if (decide (((10:Int) ^ (18:Int).toNat)≤cell))=true then(if (!decide (((10:Int) ^ (18:Int).toNat)≤cell))=true then(((((((s_.1*(48271:Int))+((11:Int)*at_))+(7:Int))%(2147483647:Int))*(69621:Int))+((5:Int)*at_))+(3:Int))%(2147483647:Int) else s_.1)/(10000000:Int) else(if (!decide (((10:Int) ^ (18:Int).toNat)≤cell))=true then(((((((s_.1*(48271:Int))+((11:Int)*at_))+(7:Int))%(2147483647:Int))*(69621:Int))+((5:Int)*at_))+(3:Int))%(2147483647:Int) else s_.1)),oX)) (ys:=(List.range many).map fun(i:Nat)=>(i:Int)) (a:=(left,([]:List Int))) (fun done b=>b.2.length=done.length∧∀w∈b.2,0≤w∧w<10000000) ⟨rfl,by simp⟩ (by
  intro done y rest b e hb
  have hd:done.length<16000000:=by have:=congrArg List.length e;simp at this;omega
  refine⟨_,by rw[adk (by rw[hb.1];exact hd)];rfl,?_,?_⟩
  ·simp[hb.1]
  ·intro w hw
   simp only[b0G,a0s] at hw
   rcases hw with hw|rfl
   ·exact hb.2 w hw
   ·omega)
 rw[h1]
 exact⟨b.2,by rw[h2.1];simp,h2.2,rfl⟩
theorem aa6 (s:Str) (hl:s.length≤16000000):Aq s=some (o8 s):=by
 unfold Aq
 rw[adl hl]
 simp only[a0i]
 by_cases hc:1≤(s.length:Int)∧(s.length:Int)≤8
 ·rw[a0h (by simp;omega)]
  have loop:∀cs:List Nat,cV (fun letter (s_:Unit)=>(Ik letter ("abcdefghijklmnopqrstuvwxyz":Str)).bind fun q=>if (!q)=true then some (Ct.rt false) else some (Ct.nx ())) (cs.map fun c=>(⟨#[c]⟩:Str)) ()=some (if (cs.all fun c=>decide (c∈letters.cps.toList))=true then .nx () else .rt false):=by
   intro cs
   induction cs with
   | nil=>rfl
   | cons c cs ih=>
    have h1:Ik (⟨#[c]⟩:Str) ("abcdefghijklmnopqrstuvwxyz":Str)=some (decide (c∈letters.cps.toList)):=rfl
    rw[a0y]
    by_cases hm:c∈letters.cps.toList
    ·rw[VJ (b:=()) (by rw[h1];simp only[a0i,hm,decide_true];rfl),ih,a0S,a0q hm,b0E]
    ·rw[VL (v:=false) (by rw[h1];simp only[a0i,hm,b0q];rfl),a0S,a0F hm];rfl
  have e1:signs s=s.cps.toList.map fun c=>(⟨#[c]⟩:Str):=rfl
  rw[e1,loop]
  unfold o8
  cases hn:(s.cps.toList.all fun c=>decide (c∈letters.cps.toList)) with
  | true=>simp[hc,cJ]
  | false=>simp[cJ]
 ·rw[a0g (by simp;omega)]
  unfold o8
  have:(decide (1≤(s.length:Int))&&decide ((s.length:Int)≤8))=false:=by simp;omega
  rw[this];rfl
theorem aeD (n k:Int):(nm n k).length≤16000000∧pJ (.str (nm n k)):=by
 have h:=Fl n k
 have hl:=adU n k
 have hr:=PySem.StrLaws.reprText_len (nm n k) (fun c hc=>by
  rw[Gq] at hc
  have:=Ua hc
  rw[Mz,a0G] at this
  obtain⟨a,ha,rfl⟩:=this
  have:=List.mem_range.mp ha
  omega)
 exact⟨by omega,by show (reprText _).length≤1000000;omega⟩
theorem adp {i:Int} (h:-10000000000≤i∧i≤10000000000):pJ (.int i):=by
 show i.natAbs.log2<1920
 have h1:i.natAbs≤10000000000:=by omega
 by_cases h0:i.natAbs=0
 ·rw[h0];decide
 ·have:=(Nat.log2_lt h0 (k:=1920)).mpr (Nat.lt_of_le_of_lt h1 (Nat.lt_of_lt_of_le (show 10000000000<2 ^ 34 by decide) (Nat.pow_le_pow_right (by decide) (by decide))))
  exact this
theorem Vd (n k:Int):PyData.strOk (nm n k)=true:=by
 unfold PyData.strOk
 rw[← Array.all_toList,Gq,List.all_eq_true]
 intro c hc
 have h:=Ua hc
 rw[Mz,a0G] at h
 obtain⟨a,ha,rfl⟩:=h
 have:=List.mem_range.mp ha
 simp;omega
mutual
theorem Ve:∀d:D,bG d=true→cG d d=true
 | .non,_=>by simp[cG]
 | .bl _,_=>by simp[cG]
 | .int _,_=>by simp[cG]
 | .str _,_=>by simp[cG]
 | .lst xs,h=>by unfold cG;exact Nb xs (by unfold bG at h;exact h)
 | .tup xs,h=>by unfold cG;exact Nb xs (by unfold bG at h;exact h)
 | .dG _,h=>by simp[bG] at h
 | .ref _,h=>by simp[bG] at h
 | .ty _,h=>by simp[bG] at h
 | .aV _ _,h=>by simp[bG] at h
 | .dct _ _,h=>by simp[bG] at h
 | .ins _ _ _,h=>by simp[bG] at h
 | .exc _ _ _ _ _,h=>by simp[bG] at h
theorem Nb:∀ds:List D,g_ ds=true→j7 ds ds=true
 | [],_=>by simp[j7]
 | d::ds,h=>by
  unfold g_ at h
  rw[a0o] at h
  unfold j7
  rw[Ve d h.1,Nb ds h.2];rfl
end
def Cm (n:Nat) (d:D):Prop:=bG d=true∧dep d≤n
theorem Cm.ok {n:Nat} {d:D} (h:Cm n d) (hn:n≤64):fK d=true:=by unfold fK;rw[h.1,b0E,b0l];exact b0e h.2 hn
theorem Gy {n:Nat} {i:Int}:Cm n (.int i):=⟨by simp[bG],by simp[dep]⟩
theorem O5 {n:Nat} {s:Str} (h:PyData.strOk s=true):Cm n (.str s):=⟨by simpa [bG] using h,by simp[dep]⟩
theorem CZ {n:Nat}:∀{ds:List D},(∀d∈ds,Cm n d)→g_ ds=true∧qL ds≤n
 | [],_=>⟨by simp[g_],by simp[qL]⟩
 | d::ds,h=>by
  have h1:=h d (by simp)
  have h2:=CZ (ds:=ds) fun e he=>h e (by simp[he])
  exact⟨by unfold g_;rw[h1.1,h2.1];rfl,by unfold qL;exact Nat.max_le.mpr ⟨h1.2,h2.2⟩⟩
theorem Wr {n:Nat} {ds:List D} (h:∀d∈ds,Cm n d):Cm (n+1) (.lst ds):=⟨by unfold bG;exact(CZ h).1,by unfold dep;have:=(CZ h).2;omega⟩
theorem Gz {n:Nat} {ds:List D} (h:∀d∈ds,Cm n d):Cm (n+1) (.tup ds):=⟨by unfold bG;exact(CZ h).1,by unfold dep;have:=(CZ h).2;omega⟩
theorem Cm.mono {n m:Nat} {d:D} (h:Cm n d) (hm:n≤m):Cm m d:=⟨h.1,b0e h.2 hm⟩
theorem Az {n:Nat} {d:D} (h:Cm n d) (hn:n≤64):fG d d=some true:=by
 unfold fG
 rw[a0g (by rw[h.ok hn];simp),Ve d h.1]
section
variable {α β:Type} [DecidableEq β]
theorem A_:∀{xs:List (β×α)} {p:β×α},(xs.map (·.1)).Nodup→p∈xs→iU xs p.1=some p.2
 | [],p,_,h=>by simp at h
 | x::xs,p,hn,h=>by
  unfold iU
  rw[a0y,a0Y] at hn
  rw[a0B]
  rcases a0c.mp h with rfl|h
  ·simp
  ·have:¬x.1=p.1:=fun z=>hn.1 (by rw[z];exact a0G.mpr ⟨p,h,rfl⟩)
   simp only[this,b0q]
   exact A_ hn.2 h
theorem ace {xs:List (β×α)} {k:β} {v:α} (h:k∉xs.map (·.1)):j9 xs k v=xs++[(k,v)]:=by unfold j9;rw[a0h h]
theorem NP {xs:List (β×α)} {k:β} {v:α} (h:xs.length<16000000):iJ xs k v=some (j9 xs k v):=a0g h
end
end TY
set_option maxHeartbeats 2000000
namespace TY
open PySem L2 DL AL PyProof.Rows
structure rO where
 name:Str
 steps:List D
 turns:Int
 otherwise:Int
 locs:List Str
noncomputable def uR (step:D):Option D:=
 (bM step (0:Int)).bind fun v=>
 (fG ((fun d=>d) v) (D.str ("give":Str))).bind fun q=>
 if q=true then some (D.str ("":Str))
 else(fG ((fun d=>d) v) (D.str ("write":Str))).bind fun q1=>
 if q1=true then(bM step (1:Int)).bind fun v1=>
 some v1
 else(bM step (2:Int)).bind fun v2=>
 some v2
abbrev Pt:=Int ⊕ Str
def pD:Pt→D
 | .inl i=>.int i
 | .inr s=>.str s
abbrev wD (w:List Pt):D:=.tup (w.map pD)
inductive Gd where
 | no|short (gs:List D)|full (l sg:Str) (w:List Pt)
def gD:Gd→D
 | .no=>.non
 | .short gs=>.tup gs
 | .full l sg w=>.tup [.str l,.str sg,wD w]
inductive St where
 | read (l c:Str) (g:Gd)|write (c:Str) (w:List Pt) (g:Gd)|swap (l c:Str) (w:List Pt) (g:Gd)|cas (l c:Str) (o w:List Pt) (g:Gd)|give (w:List Pt) (g:Gd)
def sD:St→D
 | .read l c g=>.tup [.str "read",.str l,.str c,gD g]
 | .write c w g=>.tup [.str "write",.str c,wD w,gD g]
 | .swap l c w g=>.tup [.str "swap",.str l,.str c,wD w,gD g]
 | .cas l c o w g=>.tup [.str "cas",.str l,.str c,wD o,wD w,gD g]
 | .give w g=>.tup [.str "give",wD w,gD g]
def St.g:St→Gd
 | .read _ _ g=>g|.write _ _ g=>g|.swap _ _ _ g=>g|.cas _ _ _ _ g=>g|.give _ g=>g
def Gd.ws:Gd→List (List Pt)
 | .full _ _ w=>[w]
 | _=>[]
def Gd.ls:Gd→List Str
 | .full l _ _=>[l]
 | _=>[]
def St.own:St→List (List Pt)
 | .read _ _ _=>[]|.write _ w _=>[w]|.swap _ _ w _=>[w]|.cas _ _ o w _=>[o,w]|.give w _=>[w]
def St.ws (s:St):List (List Pt):=s.own++s.g.ws
def pW (w:List Pt):List Str:=w.filterMap fun p=>match p with|.inr s=>some s|.inl _=>none
def St.fst:St→List Str
 | .read l _ _=>[l]|.swap l _ _ _=>[l]|.cas l _ _ _ _=>[l]|_=>[]
def St.ls (s:St):List Str:=s.fst++s.g.ls++s.ws.flatMap pW
def St.cell:St→Str
 | .read _ c _=>c|.write c _ _=>c|.swap _ c _ _=>c|.cas _ c _ _ _=>c|.give _ _=>""
def St.jc:St→Bool
 | .give _ _=>true|_=>false
def X_ (w:List Pt):Bool:=(decide (1≤w.length)&&decide (w.length≤3))&&w.all fun p=>match p with|.inl i=>decide (0≤i)&&decide (i≤9)|.inr _=>true
def Qq:Gd→Bool
 | .no=>true|.short _=>false|.full _ sg _=>decide (sg∈(["=","!","<"]:List Str))
def St.ok (s:St):Bool:=Qq s.g&&s.ws.all X_&&s.ls.all o8&&(s.jc || o8 s.cell)
theorem gJ {s t:Str}:fG (.str s) (.str t)=some (decide (s=t)):=by
 unfold fG
 rw[a0g (by simp[dB])]
 simp only[cG,str_beq]
theorem ix0 {x:D} {r:List D}:bM (.tup (x::r)) (0:Int)=some x:=show atI (x::r) 0=some x from at_of (by decide) rfl
theorem Oh {s:Str}:qW (.str s)=some s:=rfl
theorem af4 {p:Pt}:X8 (pD p) "int"=some p.isLeft:=by cases p<;>rfl
theorem abH (s:St):uR (sD s)=some (.str s.cell):=by
 cases s with
 | read l c g=>unfold uR;rw[show bM (sD (.read l c g)) (0:Int)=some (.str "read") from rfl,show bM (sD (.read l c g)) (2:Int)=some (.str c) from rfl];simp only[a0i,gJ];rw[a0h (by trivial),a0h (by trivial)];rfl
 | write c w g=>unfold uR;rw[show bM (sD (.write c w g)) (0:Int)=some (.str "write") from rfl,show bM (sD (.write c w g)) (1:Int)=some (.str c) from rfl];simp only[a0i,gJ];rw[a0h (by trivial),a0g (by trivial)];rfl
 | swap l c w g=>unfold uR;rw[show bM (sD (.swap l c w g)) (0:Int)=some (.str "swap") from rfl,show bM (sD (.swap l c w g)) (2:Int)=some (.str c) from rfl];simp only[a0i,gJ];rw[a0h (by trivial),a0h (by trivial)];rfl
 | cas l c o w g=>unfold uR;rw[show bM (sD (.cas l c o w g)) (0:Int)=some (.str "cas") from rfl,show bM (sD (.cas l c o w g)) (2:Int)=some (.str c) from rfl];simp only[a0i,gJ];rw[a0h (by trivial),a0h (by trivial)];rfl
 | give w g=>unfold uR;rw[show bM (sD (.give w g)) (0:Int)=some (.str "give") from rfl];simp only[a0i,gJ];rw[a0g (by trivial)];rfl
theorem abq {s:Str} (h:o8 s=true):s.length≤8:=by
 unfold o8 at h
 rw[a0o,a0o,b0l,b0l] at h
 omega
theorem St.aeE {s:St} (h:s.ok=true):s.ls.length≤20:=by
 have hw:∀w∈s.ws,(pW w).length≤3:=by
  intro w hw
  unfold St.ok at h
  rw[a0o,a0o,a0o] at h
  have:=List.all_eq_true.mp h.1.1.2 w hw
  unfold X_ at this
  rw[a0o,a0o,b0l,b0l] at this
  have h2:(pW w).length≤w.length:=List.length_filterMap_le _ _
  omega
 have h4:s.ws.length≤3:=by cases s<;>cases ‹Gd›<;>simp[St.ws,St.own,St.g,Gd.ws]
 have h5:∀(l:List (List Pt)),(∀w∈l,(pW w).length≤3)→(l.flatMap pW).length≤3*l.length:=by
  intro l
  induction l with
  | nil=>intro _;simp
  | cons a l ih=>intro h;have h1:=h a (by simp);have h2:=ih fun x hx=>h x (by simp[hx]);simp only[List.flatMap_cons,a0T,a0P];omega
 have h6:=h5 s.ws hw
 have h7:s.fst.length≤1:=by cases s<;>simp[St.fst]
 have h8:s.g.ls.length≤1:=by cases s.g<;>simp[Gd.ls]
 unfold St.ls
 simp only[a0T]
 omega
def jH (acc:List Str) (x:Str):List Str:=if x∈acc then acc else acc++[x]
def Ws (ss:List St):List Str:=ss.foldl (fun acc s=>s.ls.foldl jH acc) []
theorem acf {acc:List Str} {x:Str}:(jH acc x).length≤acc.length+1:=by unfold jH;split<;>simp
theorem Uu:∀{xs acc:List Str},(xs.foldl jH acc).length≤acc.length+xs.length
 | [],acc=>by simp
 | x::xs,acc=>by
  have h1:=Uu (xs:=xs) (acc:=jH acc x)
  have h2:=acf (acc:=acc) (x:=x)
  simp only[b0H,a0P];omega
theorem af5 {α:Type} {xs:List α} {i:Int} (h0:0≤i) (h1:i<xs.length):∃x,x∈xs∧atI xs i=some x:=
 ⟨xs[i.toNat]'(by omega),List.getElem_mem _,at_of h0 (a0e _)⟩
end TY
set_option maxHeartbeats 2000000
namespace TY
open PySem L2 DL AL PyProof.Rows
structure Gj where
 base:Int
 cells:List Str
 start:List Int
 strong:List Str
 programs:List (Str×rO)
 glue:List (Str×Int)
noncomputable def rQ (operation:rO) (worth:D) (locs:List Int) (base:Int):Option Int:=
 (Yu worth).bind fun v=>
 (lH (fun part total=>
 (X8 part "int").bind fun v1=>
 (if v1=true then(Yt part).bind fun v2=>
 dD (total+v2) fun aeF=>
 some aeF else(qW part).bind fun v3=>
 (j_ operation.locs v3).bind fun v4=>
 (atI locs v4).bind fun v5=>
 dD (total+v5) fun aeG=>
 some aeG).bind fun aeH=>
 some aeH) v (0:Int)).bind fun aeI=>
 (pO aeI base).bind fun v6=>
 some v6
noncomputable def Oi (operation:rO) (guard:D) (locs:List Int) (base:Int):Option Bool:=
 if (isNon guard)=true then some true
 else(bM guard (0:Int)).bind fun v=>
 (qW v).bind fun v1=>
 (j_ operation.locs v1).bind fun v2=>
 (atI locs v2).bind fun have_=>
 (bM guard (2:Int)).bind fun v3=>
 (rQ operation v3 locs base).bind fun worth=>
 (bM guard (1:Int)).bind fun v4=>
 (fG ((fun d=>d) v4) (D.str ("=":Str))).bind fun q=>
 if q=true then some (decide (have_=worth))
 else(fG ((fun d=>d) v4) (D.str ("!":Str))).bind fun q1=>
 if q1=true then some (!decide (have_=worth))
 else some (decide (have_<worth))
noncomputable def xW (operation:rO) (turn:Int) (at_:Int) (locs:List Int) (base:Int):Option (Int×Int×Int×Int×(List Int)):=
 cJ (zA (fun s_=>some (decide (s_.2<operation.turns))) (fun s_=>
 cJ (zA (fun Cu=>some (decide (Cu<(operation.steps.length:Int)))) (fun Cu=>
 (atI operation.steps Cu).bind fun step=>
 (bM step (-(1:Int))).bind fun v=>
 (Oi operation v locs base).bind fun v1=>
 if v1=true then(bM step (0:Int)).bind fun v2=>
 (fG ((fun d=>d) v2) (D.str ("give":Str))).bind fun q=>
 if q=true then(bM step (1:Int)).bind fun v3=>
 (rQ operation v3 locs base).bind fun v4=>
 some (.rt (.rt ((2:Int),v4,(0:Int),(-(1:Int)),([]:List Int))))
 else some (.rt (.rt ((1:Int),s_.2,Cu,(-(1:Int)),locs)))
 else dD (Cu+(1:Int)) fun agP=>
 some (.nx agP)) s_.1) fun ahi=>
 dD (s_.2+(1:Int)) fun turn1=>
 some (.nx ((0:Int),turn1))) (at_,turn)) fun s_1=>
 some ((2:Int),operation.otherwise,(0:Int),(-(1:Int)),([]:List Int))
noncomputable def LC (operation:rO) (base:Int):Option (Int×Int×Int×Int×(List Int)):=
 (gA (fun name=>some true) (fun name=>some (0:Int)) operation.locs).bind fun v=>
 (xW operation (0:Int) (0:Int) v base).bind fun v1=>
 some v1
def oW {α:Type} (values:List α) (at_:Int) (value:α):Option (List α):=
 (Ht (cut values none (some at_)) [value]).bind fun v=>(Ht v (cut values (some (at_+1)) none)).bind fun w=>some w
noncomputable def Pk (Fb:Int) (Ub:List Str) (aa7:List Str) (operation:rO) (numbers:List Int) (frame:Int×Int×Int×Int×(List Int)):Option ((List Int)×(Int×Int×Int×Int×(List Int))×(List Int)×Bool):=
 (atI operation.steps frame.2.2.1).bind fun step=>
 (uR step).bind fun v=>
 (qW v).bind fun v1=>
 (j_ Ub v1).bind fun spot=>
 (atI numbers spot).bind fun found=>
 dD [found] fun seen=>
 (bM step (0:Int)).bind fun v2=>
 (fG ((fun d=>d) v2) (D.str ("write":Str))).bind fun q=>
 cJ (if q=true then(bM step (2:Int)).bind fun v3=>
 (rQ operation v3 frame.2.2.2.2 Fb).bind fun v4=>
 (oW numbers spot v4).bind fun acg=>
 some (.nx (([]:List Int),acg,frame.2.2.2.2)) else(fG ((fun d=>d) v2) (D.str ("read":Str))).bind fun q1=>
 cJ (if q1=true then(bM step (1:Int)).bind fun v5=>
 (qW v5).bind fun v6=>
 (j_ operation.locs v6).bind fun v7=>
 (oW frame.2.2.2.2 v7 found).bind fun locs=>
 some (.nx (locs,numbers,seen)) else(jF (decide (frame.2.2.2.1<(0:Int))) ((fG ((fun d=>d) v2) (D.str ("cas":Str))).bind fun q2=>(jF q2 ((bM step (3:Int)).bind fun v8=>(rQ operation v8 frame.2.2.2.2 Fb).bind fun v9=>some (!decide (found=v9)))).bind fun b=>some b)).bind fun b1=>
 cJ (if b1=true then(bM step (1:Int)).bind fun v10=>
 (qW v10).bind fun v11=>
 (j_ operation.locs v11).bind fun Il=>
 (oW frame.2.2.2.2 Il (0:Int)).bind fun af6=>
 some (.nx (af6,numbers,seen)) else(jF (decide (frame.2.2.2.1<(0:Int))) ((atI Ub spot).bind fun ug=>some (!decide (ug∈aa7)))).bind fun b2=>
 if b2=true then some (.rt (.rt (.rt (numbers,((1:Int),frame.2.1,frame.2.2.1,found,frame.2.2.2.2),seen,false))))
 else dD (if (decide ((0:Int)≤frame.2.2.2.1))=true then(frame.2.2.2.1,([]:List Int)) else(found,seen)) fun s_=>
 (bM step (-(2:Int))).bind fun zB=>
 (rQ operation zB frame.2.2.2.2 Fb).bind fun Im=>
 (oW numbers spot Im).bind fun ach=>
 (fG ((fun d=>d) v2) (D.str ("swap":Str))).bind fun q3=>
 dD (if q3=true then s_.1 else(1:Int)) fun gained=>
 (bM step (1:Int)).bind fun Io=>
 (qW Io).bind fun v17=>
 (j_ operation.locs v17).bind fun v18=>
 (oW frame.2.2.2.2 v18 gained).bind fun af7=>
 some (.nx (af7,ach,s_.2))) fun s_1=>
 some (.nx (s_1.1,s_1.2.1,s_1.2.2))) fun s_2=>
 some (.nx (s_2.2.2,s_2.2.1,s_2.1))) fun qX=>
 (xW operation frame.2.1 (frame.2.2.1+(1:Int)) qX.2.2 Fb).bind fun Q8=>
 some (qX.2.1,Q8,qX.1,true)
section
variable {n i j m:Nat} {p q p1 p2 px:En} {s:List Sv} {α β γ ρ ι κ:Type} {h h' h0 h1 h2 h3 hh hh' tl:List Ob} {f g e fo fv f1:M R} {fa ga:M (List R)} {x y z r:R} {rs xs:List R} {u u1 u2 u3:List Sv→List Sv} {d:D} {ds es:List D} {o:Ob} {b b1 b2:Bool} {Fin:ρ→Rs→Prop} {A B:S} {V:α→D} {a c:Int} {cl:CL} {t:Option ρ} {v:ρ} {C:Addr} {fs:List Str} {F:Fn} {k k1:G} {vs vs1:List Nat}
def Qs (V:α→D) (h:List Ob) (v:List α):Ot×List Ob:=(.ret (.n (.lst (v.map V))),h)
theorem tH (m:bR n p s) (e:lk p i=some (.own o)):endF (.rt (.w i) ⟨s,h⟩)=some (.ret (.n o),h):=by
 show (match s[i]? with|some (.own b)=>some (Ot.ret (.n b),h)|_=>none)=_
 rw[m.get i _ e]
end
structure zE {κ:Type} (V:κ→D) (dp:Nat):Prop where
 ok:∀a,∃k,eO (V a)=some k∧k.depth≤dp
 inj:∀a b,eO (V a)=eO (V b)→a=b
noncomputable def pX {κ:Type} (V:κ→D) (a:κ):NestedKey:=(eO (V a)).getD .none
section
variable {α β γ δ ε κ:Type} {V:κ→D} {A:α→D} {B:β→D} {C:γ→D} {E:δ→D} {F:ε→D} {d d1 d2 d3 d4 d5:Nat}
theorem zE.val (h:zE V d) (a:κ):eO (V a)=some (pX V a):=by
 obtain⟨k,e,_⟩:=h.ok a
 unfold pX;rw[e];rfl
theorem zE.dep (h:zE V d) (a:κ):(pX V a).depth≤d:=by
 obtain⟨k,e,l⟩:=h.ok a
 unfold pX;rw[e];exact l
theorem abr {x:D} {xs:List D}:nZ (x::xs)=(eO x).bind fun k=>(nZ xs).map (k::·):=by conv=>lhs;unfold nZ
theorem abI:nZ []=some []:=by unfold nZ;rfl
theorem aeJ:NestedKey.depthAll []=0:=by unfold NestedKey.depthAll;rfl
theorem adq {k:NestedKey} {ks:List NestedKey}:NestedKey.depthAll (k::ks)=max k.depth (NestedKey.depthAll ks):=by conv=>lhs;unfold NestedKey.depthAll
theorem zE.all (h:zE V d):∀xs:List κ,nZ (xs.map V)=some (xs.map (pX V))∧NestedKey.depthAll (xs.map (pX V))≤d
 | []=>⟨abI,by rw[List.map_nil,aeJ];exact b0j _⟩
 | x::xs=>by
  obtain⟨h1,h2⟩:=h.all xs
  refine⟨by rw[a0y,abr,h.val,h1];rfl,?_⟩
  rw[a0y,adq]
  exact Nat.max_le.mpr ⟨h.dep x,h2⟩
structure Yv {κ:Type} (V:κ→D):Prop where
 kt:∀a,XQ (V a)=some (pX V a)
 inj:∀a b,pX V a=pX V b→a=b
end
section
variable {α β γ ρ:Type} {n i j m:Nat} {p q p1 p2 p3:En} {s:List Sv} {h h1 h2 h3:List Ob} {f:M Ob} {g e fo:M R} {fa:M (List R)} {r:R} {rs:List R} {u u1 u2:List Sv→List Sv} {ds:List D} {V:α→D} {Fin:ρ→Rs→Prop} {B:S} {C:Addr} {fs:List Str} {nm:Str} {F:Fn} {cl:CL}
theorem aeK {zs:List α} (ho:EV n p h fo (.d (.ins C fs ds)) u p1 h1) (hn:fs.contains nm=false) (hf:EV n p1 h1 fa rs u1 p2 h2) (hw:rs.all dX=true) (hF:F (.d (.ins C fs ds)::rs) h2=some (Qs V h2 zs)):EV n p h (jK C nm F fo fa) (.lst (zs.map V)) (fun s=>u1 (u s)) p2 h2:=fun s m=>⟨by
 have m1:=(ho s m).2
 unfold jK
 rw[cM (ho s m).1]
 have e1:AL.inV ⟨u s,h1⟩ (.d (.ins C fs ds))=some (C,fs,ds.map R.d):=rfl
 simp only[e1]
 have hn':nm∉fs:=by simpa using hn
 rw[a0g ⟨trivial,hn'⟩,cM (hf _ m1).1]
 unfold Bu
 rw[a0g (by rw[a0S,hw];rfl),hF];rfl,(hf _ (ho s m).2).2⟩
theorem aeL {o:Ob} {v:ρ} (H:EV n p h f o u p1 h1) (K:∀s,bR n p1 s→Fin v (.rn o ⟨s,h1⟩)):J Fin n (ao (yH f) B) p h (some v):=fun s m v' ev=>by
 cases ev
 exact⟨.rn o ⟨u s,h1⟩,by unfold ao yH;rw[(H s m).1],K _ (H s m).2⟩
end
end TY
namespace AL
open PySem L2 DL PyProof.Rows
end AL
namespace TY
open PySem L2 DL AL PyProof.Rows
end TY
namespace DL
open PySem L2 PyProof.Rows
end DL
namespace AL
open PySem L2 DL PyProof.Rows
end AL
namespace TY
open PySem L2 DL AL PyProof.Rows
end TY
namespace AL
open PySem L2 DL PyProof.Rows
end AL
namespace TY
open PySem L2 DL AL PyProof.Rows
def Qt {ι κ β:Type} [DecidableEq κ] (c:ι→Option Bool) (fk:ι→Option κ) (fv:ι→Option β):List ι→List (κ×β)→Option (List (κ×β))
 | [],a=>some a
 | y::ys,a=>(c y).bind fun b=>if b=true then(fk y).bind fun k=>(fv y).bind fun v=>Qt c fk fv ys (j9 a k v) else Qt c fk fv ys a
def cQ {ι κ β:Type} [DecidableEq κ] (c:ι→Option Bool) (fk:ι→Option κ) (fv:ι→Option β) (ys:List ι):Option (List (κ×β)):=if ys.length≤16000000 then Qt c fk fv ys [] else none
end TY
set_option maxHeartbeats 1000000
namespace DL
open PySem L2 PyProof.Rows
end DL
namespace AL
open PySem L2 DL PyProof.Rows
mutual
def wA:NestedKey→D
 | .none=>.non
 | .num i=>.int i
 | .text x=>.str x
 | .tup ks=>.tup (Cv ks)
def Cv:List NestedKey→List D
 | []=>[]
 | k::ks=>wA k::Cv ks
end
mutual
theorem Wt:∀(d:D) (k:NestedKey),eO d=some k→wA k=d
 | .non,k,e=>by unfold eO at e;cases e;unfold wA;rfl
 | .int i,k,e=>by unfold eO at e;cases e;unfold wA;rfl
 | .str i,k,e=>by unfold eO at e;cases e;unfold wA;rfl
 | .tup ds,k,e=>by
  unfold eO at e
  obtain⟨ks,h,rfl⟩:=a0b.mp e
  unfold wA
  rw[VN ds ks h]
 | .bl _,k,e=>by unfold eO at e;cases e
 | .ref _,k,e=>by unfold eO at e;cases e
 | .ty _,k,e=>by unfold eO at e;cases e
 | .lst _,k,e=>by unfold eO at e;cases e
 | .dG _,k,e=>by unfold eO at e;cases e
 | .aV _ _,k,e=>by unfold eO at e;cases e
 | .dct _ _,k,e=>by unfold eO at e;cases e
 | .oF _ _ _,k,e=>by unfold eO at e;cases e
 | .ins _ _ _,k,e=>by unfold eO at e;cases e
 | .exc _ _ _ _ _,k,e=>by unfold eO at e;cases e
theorem VN:∀(ds:List D) (ks:List NestedKey),nZ ds=some ks→Cv ks=ds
 | [],ks,e=>by unfold nZ at e;cases e;unfold Cv;rfl
 | d::ds,ks,e=>by
  unfold nZ at e
  obtain⟨k,h1,e⟩:=a0a.mp e
  obtain⟨ks',h2,rfl⟩:=a0b.mp e
  unfold Cv
  rw[Wt d k h1,VN ds ks' h2]
end
end AL
set_option maxHeartbeats 2000000
namespace DL
open PySem L2 PyProof.Rows PySem.Spec
end DL
set_option maxHeartbeats 2000000
namespace AL
open PySem L2 DL PyProof.Rows
end AL
set_option maxHeartbeats 1000000
namespace AL
open PySem L2 DL PyProof.Rows
end AL
namespace DL
open PySem L2 PyProof.Rows
end DL
namespace AL
open PySem L2 DL PyProof.Rows
end AL
set_option maxHeartbeats 1000000
namespace TY
open PySem L2 DL AL PyProof.Rows
section
variable {κ α β ρ ι:Type} [DecidableEq κ] {V:κ→D} {U:α→D} {U':β→D} {w:World} {n i j:Nat} {p q p1 p2:En} {h h1 h2:List Ob} {f g e:M R} {u u1 u2:List Sv→List Sv} {zs:List (κ×β)} {k:κ} {v:α} {Fin:ρ→Rs→Prop} {A B:S} {ds:List D}
theorem Yv.back (hV:Yv V) (a:κ):wA (pX V a)=V a:=Wt _ _ (acZ (hV.kt a)).1
end
end TY
set_option maxHeartbeats 1000000
namespace DL
open PySem L2 PyProof.Rows
end DL
namespace AL
open PySem L2 DL PyProof.Rows
end AL
namespace TY
open PySem L2 DL AL PyProof.Rows
end TY
set_option maxHeartbeats 2000000
namespace DL
open PySem L2 PyProof.Rows PySem.W PySem.Calls
structure oY (N P:List Str) (sc:Scope):Prop where
 kind:sc.kind=.function
 co:sc.isCoroutine=false
 gen:sc.isGenerator=false
 nd:N.Nodup
 pre:N.take P.length=P
 par:∀x∈P,sc.names.lookup x=some .local
 nocell:∀y∈sc.names,y.2≠.cell
 free:∀y∈sc.names,y.2=.free→y.1="__class__"
 vB:sc.names.lookup ("super":Str)=some .globalImplicit
 vC:sc.names.lookup ("__class__":Str)=some .free
def jM (CX:CXT) (P:Program) (w:World) (K:PySem.W.Frag) (mg:Str→Option Value) (base:Heap) (N:List Str) (qual:Str) (scope:Scope) (f:Addr) (cd:Value) (cc:Addr) (A:Around) (outer:List Env) (s:Shared) (H:Hp) (E:XK):Cx where
 prog:=P
 w:=w
 K:=K
 mg:=mg
 base:=base
 A:=A.deeper (ksEnv qual scope s.heap.objs.size f cd cc)
 N:=N
 s_0:=s
 H_0:=H
 env:=ksEnv qual scope s.heap.objs.size f cd cc
 outer:=outer
 stack:=ksEnv qual scope s.heap.objs.size f cd cc::outer
 ex:=[]
 calm:=true
 fn:=fun x=>!(x == ("__class__":Str))
 pn:=[]
 xe:=fun e s'=>wpAny (model P w) (A.deeper (ksEnv qual scope s.heap.objs.size f cd cc)) (leaving (ksEnv qual scope s.heap.objs.size f cd cc) e) (fun _ s''=>CX outer H s E e s'') (fun e' s''=>CX outer H s E e' s'') s'
theorem Uv {x:Str} {v:Value}:∀{l:List (Str×Value)},(l.map (·.1)).Nodup→(x,v)∈l→l.lookup x=some v
 | [],_,h=>by cases h
 | (y,w)::l,nd,h=>by
  rw[a0y] at nd
  rcases a0c.mp h with e|h'
  ·cases e;simp[List.lookup]
  ·have ne:(x == y)=false:=by
    simp only[beq_eq_false_iff_ne,ne_eq]
    rintro rfl
    exact(a0Y.mp nd).1 (by have:=b0n (f:=fun z:Str×Value=>z.1) h';exact this)
   simp only[List.lookup,ne]
   exact Uv (a0Y.mp nd).2 h'
theorem adt {P:List Str} {us:List Value} {i:Nat} {x:Str} {v:Value} (nd:P.Nodup) (hl:us.length=P.length) (h1:P[i]?=some x) (h2:us[i]?=some v):(P.zip us).reverse.lookup x=some v:=by
 refine Uv ?_ (List.mem_reverse.mpr (a0l (i:=i) ?_))
 ·rw[List.map_reverse,List.map_fst_zip (by omega)]
  exact(List.reverse_perm P).nodup_iff.mpr nd
 ·rw[List.getElem?_zip_eq_some];exact⟨h1,h2⟩
section
variable {CX:CXT} {P:Program} {w:World} {K:PySem.W.Frag} {mg:Str→Option Value} {base:Heap} {N ps:List Str} {qual name:Str} {scope:Scope} {f cc D:Addr} {cd:Value} {A:Around} {outer:List Env} {s:Shared} {H:Hp} {E:XK} {us:List Value} {vs:List V} {cl:Value} {cld:Option Addr} {csl:Array (Option Value)}
theorem adu (S:oY N ps scope) {L:Addr} {x:Str} (h:(ksEnv qual scope L f cd cc).kindOf x=some .cell∨(ksEnv qual scope L f cd cc).kindOf x=some .free):x="__class__":=by
 have h:scope.names.lookup x=some .cell∨scope.names.lookup x=some .free:=h
 rcases h with h|h
 ·exact absurd rfl (S.nocell _ (b0o h))
 ·exact S.free _ (b0o h) rfl
theorem Ba {L:Addr} {x:Str} {c:Addr} (h:(ksEnv qual scope L f cd cc).cells.lookup x=some c):x="__class__"∧c=cc:=by
 have h:List.lookup x [(("__class__":Str),cc)]=some c:=h
 cases z:(x == ("__class__":Str)) with
 | true=>
  rw[List.lookup,z] at h
  exact⟨beq_iff_eq.mp z,(a0z h).symm⟩
 | false=>rw[List.lookup,z] at h;cases h
theorem abt {h₁:Heap} {tk:Nat} (S:oY N ps scope) (hcell:K.lookup cc=some ⟨cl,cld,.cell (some (.ref D)),csl⟩) (hd:A.handled=none) (e0:Env0 P w K mg base A outer s H) (hl:vs.length=ps.length) (r:Vals vs us)
  (hns:h₁.Ns s.heap.objs.size (fun x=>(ps.zip us).reverse.lookup x)) (hk:∀b o,s.heap.get? b=some o→h₁.get? b=some o) :
  Inv (jM CX P w K mg base N qual scope f cd cc A outer s H E) [] (L2.start N vs) H {s with heap:=h₁,toks:=tk}:=by
 have hpl:ps.length≤N.length:=by have:=congrArg List.length S.pre;rw[List.length_take] at this;omega
 have noA:∀b:Addr,b∉(jM CX P w K mg base N qual scope f cd cc A outer s H E).ex:=fun b z=>absurd (show b∈([]:List Addr) from z) (by simp)
 have KX:K.In s.heap:=e0.mod.kin.keeps fun b o e=>(e0.bs b o e).1
 have hcb:base.get? cc=some ⟨cl,cld,.cell (some (.ref D)),csl⟩:=e0.mod.kin _ _ hcell
 refine⟨⟨e0.mod,S.kind,rfl,rfl,a0v _,fun y z c h1 h2=>?_,fun y hy=>?_,fun y c hy h=>?_,fun _=>hd,Around.frames_deeper e0.frames,.inr ⟨rfl,rfl⟩,fun b z=>absurd z (noA b),e0.bs,e0.bsz,fun b _ _=>noA b,fun b z=>absurd z (noA b),e0.funs,e0.frf⟩,
  rfl,e0.bare,Un.kept hk,⟨_,hns,fun i y v h1 h2 h3=>?_⟩,fun y c h=>?_,e0.hok.fresh (a0v _),fun y c h=>?_,fun p hp=>absurd (show p∈([]:List (Addr×Obj)) from hp) (by simp),e0.hok.kept hk,?_⟩
 ·rw[(Ba h1).1,(Ba h2).1]
 ·rw[adu S hy];exact⟨cc,rfl⟩
 ·rw[(Ba h).1] at hy;exact absurd hy (by show ¬((!(("__class__":Str) == ("__class__":Str)))=true);simp)
 ·have hi:i<vs.length:=by
   unfold L2.start at h2
   by_cases hi:i<vs.length
   ·exact hi
   ·rw[a0t (by simpa using hi)] at h2
    rw[b0v] at h2
    split at h2<;>cases h2
  have ha:vs[i]?=some v:=by
   unfold L2.start at h2
   rw[a0u (by simpa using hi),a0p] at h2
   cases e:vs[i]? with
   | none=>rw[e] at h2;cases h2
   | some a=>rw[e] at h2;cases h2;rfl
  obtain⟨u,hu,rv⟩:=r.get ha
  have hp:ps[i]?=some y:=by
   rw[← S.pre,List.getElem?_take_of_lt (by omega)];exact h1
  have ndP:ps.Nodup:=by rw[← S.pre];exact S.nd.sublist (List.take_sublist _ _)
  exact⟨u,rv,.inl ⟨S.par y (a0l hp),adt ndP (by rw[← r.length];exact hl) hp hu⟩⟩
 ·rw[(Ba h).2];exact⟨_,_,hk _ _ (e0.bs _ _ hcb).1,rfl⟩
 ·rw[(Ba h).2];exact(e0.bs _ _ hcb).2
 ·unfold L2.start
  show _=N.length
  rw[a0T,a0C,List.length_replicate]
  omega
def yW (X:Cx) (body bd:List Stmt) (t:TS):Prop:=∀(pins:List (Addr×Obj)) (s:Shared) (σ:L2.St) (H:Hp) (D:Ends),Inv X pins σ H s→t D σ H→_root_.PySem.wpAt (model X.prog X.w) X.A (.func body X.env) (execs bd X.env) (SP X pins D) X.xe s
theorem aeM {k:Nat} {params:Arguments} {body:List Stmt} {dV kV doc pm ct oc:Value} {an od:Option Addr} {osl:Array (Option Value)} {sp:Sp} (lk:K.lookup f=some ⟨oc,od,.func (ksFn name qual params body scope dV kV doc pm an cd ct cc),osl⟩) (hcd:PySem.W.codeIn K cd qual=true) (S:oY N ps scope)
  (hcell:K.lookup cc=some ⟨cl,cld,.cell (some (.ref D)),csl⟩) (len:∀vs H Q E,sp vs H Q E→vs.length=ps.length)
  (hbody:∀(A:Around) (outer:List Env) (s:Shared) (H:Hp) (vs:List V) (Q:VK) (E:XK),Room k (A.deeper (ksEnv qual scope s.heap.objs.size f cd cc))→sp vs H Q E→
   ∃t,yW (jM CX P w K mg base N qual scope f cd cc A outer s H E) body body t∧t {nx:=fun _ H'=>Q .non H',rt:=Q} (L2.start N vs) H) :
  FnOk P w K mg base CX (k+1) f (ksFn name qual params body scope dV kV doc pm an cd ct cc) ps sp:=by
 refine⟨len,fun A outer s H args us vs Q E hr e0 hb r hsp=>?_⟩
 have hl:=len _ _ _ _ hsp
 have KX:K.In s.heap:=e0.mod.kin.keeps fun b o e=>(e0.bs b o e).1
 have lim:s.heap.NoLimit:=e0.mod.nolimit.keeps fun b o e=>(e0.bs b o e).1
 refine ks_codeAny_call_defAt (fd:=ksFn name qual params body scope dV kV doc pm an cd ct cc) (body:=body) (binds:=ps.zip us) hr.depth (KX _ _ lk) rfl lim (PySem.W.codeRec_of KX hcd) rfl hb S.nocell (fun y hy=>S.par _ (List.of_mem_zip hy).1) (fun h₁ hns hk₁=>?_) S.co S.gen S.kind
 obtain⟨t,ht,hq⟩:=hbody A outer s H vs Q E (hr.deeper _) hsp
 have I:=abt (CX:=CX) (E:=E) (qual:=qual) (f:=f) (cd:=cd) (tk:=s.toks+(ps.zip us).length) S hcell hr.hd e0 hl r hns hk₁
 refine ks_wpAt_mono (ht [] _ (L2.start N vs) H _ I hq) (fun fl s' hs=>?_) fun e s' hs=>hs
 have fin:∀{σ':L2.St} {H':Hp} {v:V} {u:Value},Inv (jM CX P w K mg base N qual scope f cd cc A outer s H E) [] σ' H' s'→RelV v u→Q v H'→CE outer P w H s Q u s':=
  fun {σ' H' v u} J rv q=>⟨v,H',J.os,J.bare,J.base,J.hok,rv,q⟩
 cases fl with
 | ret u=>
  obtain⟨v,σ',H',J,rv,q⟩:=hs
  exact fin J rv q
 | next=>
  obtain⟨σ',H',J,q⟩:=hs
  exact fin (v:=V.non) (u:=Value.none) J rfl q
 | brk=>
  obtain⟨_,_,_,q⟩:=hs
  exact False.elim q
 | cont=>
  obtain⟨_,_,_,q⟩:=hs
  exact False.elim q
end
structure lJ (prog:Program) (K:PySem.W.Frag) (mg:Str→Option Value) (x qual:Str) (st:Stmt) (D f:Addr) (fd:FuncData):Prop where
 ex:∃(oc:Value) (od:Option Addr) (dV kV doc pm:Value) (an:Option Addr) (cda cc:Addr) (ct:Value) (osl:Array (Option Value)) (ccl:Value) (cdd:Option Addr) (vs:Array Value) (ccs:Array (Option Value)) (file:Str) (tf:Tok) (cl:Value) (cld:Option Addr) (csl:Array (Option Value)),
  fd=PySem.W.ksFn x qual (defArgs st) (defBody st) (defScope st) dV kV doc pm an (.ref cda) ct cc∧K.lookup f=some ⟨oc,od,.func fd,osl⟩∧PySem.W.codeIn K (.ref cda) qual=true∧
  K.lookup cda=some ⟨ccl,cdd,.fields vs,ccs⟩∧vs[2]?=some (.str file tf)∧((prog.main.file:Str) == file)=true∧K.lookup cc=some ⟨cl,cld,.cell (some (.ref D)),csl⟩
 kp:PySem.W.keepIn K (.ref f)=true
 qY:(PySem.W.clsIn K D).isSome=true
 oJ:mg "super"=none
 top:(prog.main.scope.names.lookup ("super":Str)).isSome=false
 fL:PySem.W.nsIn K PySem.cStatics "thirdparty.any"=some none
structure Hv (prog:Program) (K:PySem.W.Frag) (mg:Str→Option Value) (D f cda cc:Addr) (fd:FuncData):Prop where
 ex:∃(oc:Value) (od:Option Addr) (osl:Array (Option Value)) (ccl:Value) (cdd:Option Addr) (vs:Array Value) (ccs:Array (Option Value)) (file:Str) (tf:Tok) (cl:Value) (cld:Option Addr) (csl:Array (Option Value)),
  K.lookup f=some ⟨oc,od,.func fd,osl⟩∧K.lookup cda=some ⟨ccl,cdd,.fields vs,ccs⟩∧vs[2]?=some (.str file tf)∧((prog.main.file:Str) == file)=true∧K.lookup cc=some ⟨cl,cld,.cell (some (.ref D)),csl⟩
 qY:(PySem.W.clsIn K D).isSome=true
 oJ:mg "super"=none
 top:(prog.main.scope.names.lookup ("super":Str)).isSome=false
 fL:PySem.W.nsIn K PySem.cStatics "thirdparty.any"=some none
structure iw (P:Program) (w:World) (K:PySem.W.Frag) (mg:Str→Option Value) (base:Heap) (C D:Addr) (m:Str) (ps:List Str) (k:Nat) (sp:Sp):Prop where
 ex:∃f fd,FnOk P w K mg base (L2.CX P w) k f fd ps sp∧PySem.W.ks_superIn K C D m=some (some (.ref f))∧PySem.W.typeIn K (.ref f)=some (.type "function")∧PySem.W.fnIn K f=true∧PySem.W.mroIn K C (.ref D)=some true∧Binds K fd ps []
theorem Uj {K:PySem.W.Frag} {mg:Str→Option Value} {h h':Heap} (X:L2.Mod K mg h) (k:∀b o,h.get? b=some o→h'.get? b=some o):L2.Mod K mg h':=by
 obtain⟨a,b,⟨mb,c,d⟩,f⟩:=X
 exact⟨a.keeps k,b.keeps k,⟨mb,c.keeps k,d⟩,f.keeps k⟩
end DL
set_option maxHeartbeats 1000000
namespace AL
open PySem L2 DL PyProof.Rows
section
variable {K:PySem.W.Frag}
theorem Cy {P:Program} {w:World} {mg:Str→Option Value} {base:Heap} {nm qual:Str} {st:Stmt} {D f:Addr} {fd:FuncData} {N ps:List Str} {k:Nat} {g:S} (F:lJ P K mg nm qual st D f fd) (sc:oY N ps (defScope st)) (F':Fn) (hF:∀args h y,F' args h=some y→args.length=ps.length∧yR N.length g args h=some y)
  (hbody:∀(cda cc:Addr) (A:Around) (outer:List Env) (s:Shared) (H:Hp) (aY:XK),fd.params=defArgs st→Hv P K mg D f cda cc fd→Room k (A.deeper (PySem.W.ksEnv qual (defScope st) s.heap.objs.size f (.ref cda) cc))→
   ∃t,yW (jM (L2.CX P w) P w K mg base N qual (defScope st) f (.ref cda) cc A outer s H aY) (defBody st) (defBody st) t∧XS K (fun cls d _ H=>aY cls d H) t g) :
  FnOk P w K mg base (L2.CX P w) (k+1) f fd ps (aQ K F'):=by
 obtain⟨⟨oc,od,dV,kV,doc,pm,an,cda,cc,ct,osl,ccl,cdd,vs,ccs,file,tf,cl,cld,csl,rfl,lk,hcd,hcode,hvs,hfile,hcell⟩,kp,qY,oJ,top,fL⟩:=F
 refine aeM lk hcd sc hcell (fun vs H Q aY h=>?_) fun A outer s H vs Q aY hr h=>?_
 ·obtain⟨Hb,ι,args,h,y,C,r,e,_⟩:=h
  rw[← Paired.length r];exact(hF args h y e).1
 ·obtain⟨Hb,ι,args,h,y,C,r,e,p⟩:=h
  obtain⟨t,ht,hx⟩:=hbody cda cc A outer s H aY rfl ⟨⟨_,_,_,_,_,_,_,_,_,_,_,_,lk,hcode,hvs,hfile,hcell⟩,qY,oJ,top,fL⟩ hr
  refine⟨t,ht,?_⟩
  obtain⟨z,hz,ez⟩:=a0a.mp (hF args h y e).2
  refine hx ⟨H,Hb,ι⟩ _ _ H [] ⟨Hb,ι,N_ C r⟩ _ z hz ?_
  cases z with
  | nx st=>cases ez;exact fun σ H2 ⟨bK,bL,C2⟩=>p .non H2 ⟨bK,bL,C2.bare.temps fun q hq=>by rw[a0s.mp hq];show Rp K _ _ _;unfold Rp;rfl⟩
  | rn b st=>
   cases ez
   intro σ v H2 C2
   obtain⟨bK,bL,a,u,C2,h1,h2,h3,h4,h5,h6,hz,_⟩:=C2
   exact p v H2 ⟨bK,bL,a,u,C2.bare,h1,h2,h3,h4,h5,h6,hz,fun i c h=>by simp at h⟩
  | bk st=>cases ez
  | ct st=>cases ez
  | ex x st=>
   cases ez
   intro cls d σ H2 X
   obtain⟨bK,bL,dd,vs',C2,rr⟩:=X
   exact p cls d H2 ⟨bK,bL,dd,vs',C2.bare,rr⟩
  | rt r st=>
   intro σ v H2 ⟨bK,bL,C2⟩
   have hv:Rt K σ bL bK r v:=C2.tmp (rt K σ r v) (by simp)
   cases r with
   | d x=>cases ez;exact p v H2 ⟨bK,bL,C2.bare.temps fun q hq=>by rw[a0s.mp hq];exact hv⟩
   | o n=>cases ez;exact p v H2 ⟨bK,bL,C2.bare.temps fun q hq=>by rw[a0s.mp hq];exact hv⟩
   | w i=>
    simp only[endF] at ez
    cases q:st.s[i]? with
    | none=>rw[q] at ez;cases ez
    | some sv=>
     rw[q] at ez
     cases sv with
     | no=>cases ez
     | v r=>cases ez
     | own b=>
      cases ez
      obtain⟨v',e',CO⟩:=C2.take q
      have hv:σ[i]?=some (some v):=hv
      rw[hv] at e';cases e'
      obtain⟨iZ,jo,a,u,C3,h1,h2,h3,h4,h5,h6,hz,_⟩:=CO
      refine p v H2 ⟨iZ,jo,a,u,C3.bare.temps (ts':=[]) (fun q hq=>?_),h1,h2,h3,h4,h5,h6,hz,fun i c h=>?_⟩
      ·cases hq
      ·simp at h
end
end AL
namespace TY
open PySem L2 DL AL PyProof.Rows
end TY
namespace AL
open PySem L2 DL PyProof.Rows
end AL
namespace TY
open PySem L2 DL AL PyProof.Rows
section
variable {α β γ ρ ι:Type} {n i j m b:Nat} {p q p1 p2 p3:En} {s:List Sv} {h h1 h2 h3 t:List Ob} {f g e:M R} {fa:M (List R)} {r:R} {rs:List R} {u u1 u2:List Sv→List Sv} {ds:List D} {V:β→D} {Fin:ρ→Rs→Prop} {A B:S} {xss:List (List β)} {k:Int} {v:β} {lkp:ST→Prop}
structure Qu (V:β→D) (h:List Ob) (m b:Nat) (xss:List (List β)):Prop where
 o:h[m]?=some (.bW (afF b xss.length))
 l:∀(k:Nat) x,xss[k]?=some x→h[b+k]?=some (.lst (x.map V))
theorem VP {o:Ob} (e:h[m]?=some o):(h++t)[m]?=some o:=by
 rw[a0u (a0d.mp e).1];exact e
theorem Qu.app (L:Qu V h m b xss):Qu V (h++t) m b xss:=⟨VP L.o,fun k x e=>VP (L.l k x e)⟩
end
end TY
set_option maxHeartbeats 1000000
namespace AL
open PySem L2 DL PyProof.Rows
end AL
namespace TY
open PySem L2 DL AL PyProof.Rows
end TY
namespace AL
open PySem L2 DL PyProof.Rows
section
variable {K:PySem.W.Frag} {P:Program} {w:World} {mg:Str→Option Value} {base:Heap} {nm qual:Str} {st:Stmt} {f:Addr} {fd:FuncData} {N ps:List Str} {k:Nat} {g:S} {F':Fn}
theorem lU (F:fX K nm qual st f fd) (sc:FnScope N ps (defScope st)) (e:F'=AL.runN ps.length N.length g)
  (hbody:∀(cdv:Value) (A:Around) (outer:List Env) (s:Shared) (H:Hp) (aY:XK) (hr:Room k (A.deeper (envOfC qual (defScope st) s.heap.objs.size f cdv))) (tk:Takes (cxOf (L2.CX P w) P w K mg base N qual (defScope st) f cdv A outer s H aY) (fun cls d _ H=>aY cls d H)) (po:PassesOwn (model (cxOf (L2.CX P w) P w K mg base N qual (defScope st) f cdv A outer s H aY).prog (cxOf (L2.CX P w) P w K mg base N qual (defScope st) f cdv A outer s H aY).w) (cxOf (L2.CX P w) P w K mg base N qual (defScope st) f cdv A outer s H aY).A (cxOf (L2.CX P w) P w K mg base N qual (defScope st) f cdv A outer s H aY).env (cxOf (L2.CX P w) P w K mg base N qual (defScope st) f cdv A outer s H aY).xe),
   ∃t,PSs (cxOf (L2.CX P w) P w K mg base N qual (defScope st) f cdv A outer s H aY) (defBody st) t∧XS K (fun cls d _ H=>aY cls d H) t g) :
  FnOk P w K mg base (L2.CX P w) (k+1) f fd ps (aQ K F'):=by
 rw[e]
 exact fnF F sc _ (fun args h y e=>qm e) fun cdv A outer s H aY hr=>hbody cdv A outer s H aY hr (b0J rfl rfl rfl rfl) (b0A rfl)
end
end AL
namespace L2
open PySem PyProof.Rows
end L2
namespace DL
open PySem L2 PyProof.Rows
end DL
namespace AL
open PySem L2 DL PyProof.Rows
end AL
namespace TY
open PySem L2 DL AL PyProof.Rows
section
variable {α:Type} {V:α→D} {h:List Ob} {n:Nat}
open Classical in
noncomputable def hL (V:α→D) (h:List Ob) (n:Nat):Option (List α):=if e:∃xs:List α,h[n]?=some (.lst (xs.map V)) then some e.choose else none
open Classical in
noncomputable def C_ (V:α→D) (h:List Ob) (n:Nat):Option (List (Str×α)):=if e:∃zs:List (Str×α),h[n]?=some (.aV (kS zs) (dV V zs)) then some e.choose else none
theorem Wu {zs:List (Str×α)} (e:C_ V h n=some zs):h[n]?=some (.aV (kS zs) (dV V zs)):=by
 unfold C_ at e
 split at e
 ·rename_i q
  cases e
  exact q.choose_spec
 ·cases e
theorem Wv {V:α→D} (hi:∀a b,V a=V b→a=b):∀{xs ys:List (Str×α)},kS xs=kS ys→dV V xs=dV V ys→xs=ys
 | [],[],_,_=>rfl
 | [],_::_,e,_=>by cases e
 | _::_,[],e,_=>by cases e
 | (k,x)::xs,(l,y)::ys,e,f=>by
  have h1:k=l:=by have:=(List.cons.inj e).1;exact Sum.inr.inj this
  have h2:=hi x y (List.cons.inj f).1
  have h3:=Wv hi (List.cons.inj e).2 (List.cons.inj f).2
  rw[h1,h2,h3]
theorem aeN (hi:∀a b,V a=V b→a=b) {zs:List (Str×α)} (e:h[n]?=some (.aV (kS zs) (dV V zs))):C_ V h n=some zs:=by
 unfold C_
 have q:∃zs:List (Str×α),h[n]?=some (.aV (kS zs) (dV V zs)):=⟨zs,e⟩
 rw[dif_pos q]
 have h1:=e.symm.trans q.choose_spec
 injection (a0z h1) with h2 h3
 exact congrArg some (Wv hi h2 h3).symm
open Classical in
noncomputable def hO (h:List Ob) (n:Nat):Option (List Nat):=if e:∃xs:List Nat,h[n]?=some (.bW (xs.map R.o)) then some e.choose else none
end
section
variable {ρ:Type} {Fin:ρ→Rs→Prop} {n:Nat} {B:S} {p:En}
theorem Ww {X:List Ob} {t:List Ob→Option ρ} (K:∀x,J Fin n B p x (t x)):J Fin n B p X (dD X t):=K X
end
def obO:List Nat→Ob
 | []=>.lst []
 | x::xs=>.bW ((x::xs).map R.o)
open Classical in
noncomputable def hQ (h:List Ob) (n:Nat):Option (List Nat):=if e:∃xs:List Nat,h[n]?=some (obO xs) then some e.choose else none
section
variable {α ρ:Type} {Fin:ρ→Rs→Prop} {n m:Nat} {p p1:En} {h h1:List Ob} {V:α→D} {B:S} {f fo fi e:M R} {fa:M (List R)} {u:List Sv→List Sv}
theorem Oj {k:Str} {zs:List (Str×α)} {v:α} (hl:h[m]?=some (.aV (kS zs) (dV V zs))) (e:iU zs k=some v):KV n p h bY (.o m) (.d (.str k)) (.d (V v)):=fun s _=>by
 have h1:bF ⟨s,h⟩ (.o m)=some (.aV (kS zs) (dV V zs)):=hl
 exact VD (by simp only[jm,h1]) (by simp only[iG,h1]) (fun _=>by unfold vH;rfl) rfl (Wm e)
theorem dcH {s:List Sv} {ks:List Key} {ds:List D} (hl:h[m]?=some (.aV ks ds)):jm ⟨s,h⟩ (.o m)=some (ks,ds)∧lG ⟨s,h⟩ (.o m)=none∧∀t,snap ⟨s,h⟩ (.o m)≠some (.str t):=by
 have h1:bF ⟨s,h⟩ (.o m)=some (.aV ks ds):=hl
 exact⟨by simp only[jm,h1],by show iG _ (.o m)=_;simp only[iG,h1],fun t z=>by have z:(bF ⟨s,h⟩ (.o m)).bind d8=_:=z;rw[h1] at z;cases z⟩
theorem adw {zs:List (Str×α)} {k:Str} {w:α} {t:List (Str×α)→Option ρ} (hv:EV n p h e (.d (V w)) u p1 h1) (hl:h1[m]?=some (.aV (kS zs) (dV V zs))) (ho:EV n p1 h1 fo (.o m) id p1 h1) (hi:EV n p1 h1 fi (.d (.str k)) id p1 h1) (K:∀ys,J Fin n B p1 (h1.set m (.aV (kS ys) (dV V ys))) (t ys)):J Fin n (ao (bQ e (gS fo fi)) B) p h ((iJ zs k w).bind t):=fun st mm v ev=>by
 obtain⟨ys,hy,ev⟩:=a0a.mp ev
 obtain⟨hlen,rfl⟩:=uf hy
 have m1:=(hv st mm).2
 obtain⟨r,hr,hf⟩:=K (j9 zs k w) _ m1 v ev
 refine⟨r,jV (yU (hv st mm).1 ?_) hr,hf⟩
 show (fo.bind _) ⟨u st,h1⟩=_
 rw[cM (show fo ⟨u st,h1⟩=some (.ok _ ⟨u st,h1⟩) from(ho _ m1).1),cM (show fi ⟨u st,h1⟩=some (.ok _ ⟨u st,h1⟩) from(hi _ m1).1)]
 have e2:bF ⟨u st,h1⟩ (.o m)=some (.aV (kS zs) (dV V zs)):=hl
 rw[e2]
 have hk:keyD (.str k)=some (.inr k):=rfl
 have hlen2:(kS zs).length<16000000:=by rw[a0C];exact hlen
 simp only[a0i,vG,hk,a0g hlen2,b0h,pG]
 rw[(G7 (V:=V) (v:=w)).1,G7.2]
end
end TY
namespace TY
open PySem L2 DL AL PyProof.Rows
end TY
set_option maxHeartbeats 1000000
namespace DL
open PySem L2 PyProof.Rows
section
variable {X:Cx} {a b:Expr} {ta tb:TE} {pos:Pos}
theorem af8 (K:PySem.W.Frag) (hu:X.A.units+64<cLine) (ha:PE X a ta) (hb:PE X b tb) (hK:X.K=K:=by rfl):PE X (.Compare a [.Eq] [b] pos) (tOp (qQ K) ta tb):=by subst hK;exact pe_cmpR (OpR.or op_eq (op_eqD hu)) ha hb (nomark _)
end
end DL
namespace TY
open PySem L2 DL AL PyProof.Rows
section
variable {α β γ ρ ι:Type} {Fin:ρ→Rs→Prop} {n m i:Nat} {p p1:En} {h h1:List Ob} {V:α→D} {A B:S} {e f fo fi:M R} {fa:M (List R)} {zs:List (Str×α)} {v:ρ} {u:List Sv→List Sv}
theorem abJ (hl:h1[m]?=some (.aV (kS zs) (dV V zs))) (hf:EV n p h fa [.o m] u p1 h1):EV n p h (M.of fa kList) (.lst ((zs.map (·.1)).map D.str)) u p1 h1:=je hf fun s mm=>by
 obtain⟨a,b,c⟩:=dcH (s:=s) hl
 unfold kList
 simp only[b,a,b0h]
 rw[show (kS zs).map kD=(zs.map (·.1)).map D.str from Wn]
end
end TY
set_option maxHeartbeats 2000000
namespace TY
open PySem L2 DL AL PyProof.Rows
end TY
set_option maxHeartbeats 2000000
namespace AL
open PySem L2 DL PyProof.Rows
end AL
set_option maxHeartbeats 2000000
namespace TY
open PySem L2 DL AL PyProof.Rows
end TY
set_option maxHeartbeats 4000000
namespace DL
open PySem L2 PyProof.Rows
end DL
namespace AL
open PySem L2 DL PyProof.Rows
end AL
namespace TY
open PySem L2 DL AL PyProof.Rows
end TY
set_option maxHeartbeats 2000000
namespace TY
open PySem L2 DL AL PyProof.Rows
end TY
set_option maxHeartbeats 2000000
namespace TY
open PySem L2 DL AL PyProof.Rows
end TY
set_option maxHeartbeats 2000000
namespace TY
open PySem L2 DL AL PyProof.Rows
end TY
set_option maxHeartbeats 2000000
namespace TY
open PySem L2 DL AL PyProof.Rows
structure uW where
 lines:List (Str×List (Int×Int))
 size:Int
 start:Int
abbrev Bb (c:CL) (o:uW):D:=.ins c.Table ["lines","size","start"] [qU (vL (aR D.int D.int)) o.lines,.int o.size,.int o.start]
noncomputable def FQ (c:CL):S:=(ao (bT (kE (fM (tF (m7 (aU jJ) (aU jJ) (eC (.int 1)) (eV 1) (eC (.int 100))))) (tF (eB (aU (kEq true)) (M.of (aC (eV 0) aN) fZ) (eV 1)))) (ao (bV (eC (.bl false)))
 aM) aM)
 (ao (ji (wL (eV 0)) (gN 2) (ao (bT (tF (eB (aU (kEq true)) (M.of (aC (eV 2) aN) fZ) (eC (.int 2)))) (ao (bV (eC (.bl false)))
 aM) aM)
 (ao (bQ (eV 2) (gT ((gN 3)::((gN 4)::[]))))
 (ao (bT (kE (fM (tF (m7 (aU jJ) (aU jJ) (eC (.int 0)) (eV 3) (eC (.int 9))))) (fM (tF (m7 (aU jJ) (aU kLt) (eC (.int 0)) (eV 4) (eV 1))))) (ao (bV (eC (.bl false)))
 aM) aM)
 aM))))
 (ao (bV (eC (.bl true)))
 aM)))
@[irreducible] noncomputable def xX (c:CL):Fn:=(runN 2 5 (FQ c))
theorem Uc (c:CL):xX c=(runN 2 5 (FQ c)):=by unfold xX;rfl
noncomputable def Bc (row:List (Int×Int)) (size:Int):Option Bool:=
 if ((!(decide ((1:Int)≤size)&&decide (size≤(100:Int)))) || (!decide ((row.length:Int)=size)))=true then some false
 else cJ (cV (fun pair s_=>
 if (!decide ((2:Int)=(2:Int)))=true then some (.rt false)
 else if ((!(decide ((0:Int)≤pair.1)&&decide (pair.1≤(9:Int)))) || (!(decide ((0:Int)≤pair.2)&&decide (pair.2<size))))=true then some (.rt false)
 else some (.nx ())) row ()) fun s_1=>
 some true
theorem aci {c:CL} {row:List (Int×Int)} {size:Int} {h:List Ob} {v:Bool}  (e:Bc row size=some v):xX c [.d ((vL (aR D.int D.int)) row),.d (D.int size)] h=some (outD D.bl h v):=by
 rw[Uc]
 exact fn_of (p:=[(0,some (.v (.d ((vL (aR D.int D.int)) row)))),(1,some (.v (.d (D.int size)))),(2,some .no),(3,some .no),(4,some .no)]) (dR rfl rfl) rfl  (show J (iz (outD D.bl h)) 5 (FQ c) _ h (Bc row size) from
 d7 (OD (eZ (cU (lC aJ (aj rfl) fj aJ fj))) (cU (aX (Oe (V:=(aR D.int D.int)) (aD (aj rfl) aO)) (aj rfl) OJ))) (dU (cO aJ fun s m=>rfl))
 (dZ (sW (α:=Unit) (pre:=fun s_=>[(2,none),(3,none),(4,none)]) (hp:=fun s_=>h) (a0:=()) (Pj (V:=(aR D.int D.int)) (aj rfl)) (bO (bO (bO b_))) (pN rfl (fun _=>rfl)) (fun pair s_=>
 d7 (cU (aX (ab5 (aD (aj rfl) aO)) aJ OJ)) (dU (cO aJ fun s m=>⟨rfl,rfl⟩))
 (dZ (afS [3,4] (aj rfl) rfl rfl (d7 (OD (eZ (cU (lC aJ (aj rfl) fj aJ fj))) (eZ (cU (lC aJ (aj rfl) fj (aj rfl) Bw)))) (dU (cO aJ fun s m=>⟨rfl,rfl⟩))
 (dZ (qp (bO (bO (bO (nj 6 rfl rfl)))) rfl)))))) fun s_1=>
 cO aJ fun s m=>rfl))) e
noncomputable def Em (c:CL):S:=(ao (bT (fM (tF (m7 (aU jJ) (aU jJ) (eC (.int 1)) (M.of (aC (eV 1) aN) fZ) (eC (.int 6))))) (ao (oH c.BadTable "name" (aC (eC (.str "")) aN))
 aM) aM)
 (ao (jE 3 Hl)
 (ao (bQ (Hi (eC (.int 1))) (gN 4))
 (ao (yI (pV 1) (gN 5) (ao (bQ (dh (M.of (aC (eB bY (eV 1) (eV 5)) aN) kList)) (gN 6))
 (ao (bT (tF (eB (aU kLt) (eV 4) (eC (.int 0)))) (ao (bQ (M.of (aC (eV 6) aN) fZ) (gN 4))
 aM) aM)
 (ao (bT (kE (fM (tR (lB (xK c) (aC (eV 5) aN)))) (fM (tR (lB (xX c) (aC (eV 6) (aC (eV 4) aN)))))) (ao (oH c.BadTable "name" (aC (eV 5) aN))
 aM) aM)
 (ao (bQ (eV 6) (gS (eV 3) (eV 5)))
 aM)))))
 (ao (bT (fM (tF (m7 (aU jJ) (aU kLt) (eC (.int 0)) (eV 2) (eV 4)))) (ao (oH c.BadTable "name" (aC (eC (.str "")) aN))
 aM) aM)
 (ao (tV [c.Table] "lines" (eV 0) (vK 3))
 (ao (tV [c.Table] "size" (eV 0) (eV 4))
 (ao (tV [c.Table] "start" (eV 0) (eV 2))
 aM))))))))
@[irreducible] noncomputable def rH (c:CL):Fn:=(runN 3 7 (Em c))
theorem SQ (c:CL):rH c=(runN 3 7 (Em c)):=by unfold rH;rfl
noncomputable def Ai (rows:List (Str×(List (Int×Int)))) (start:Int):Option (Except Err uW):=
 if (!(decide ((1:Int)≤(rows.length:Int))&&decide ((rows.length:Int)≤(6:Int))))=true then kW (D.str ("":Str)) (.error ⟨.BadTable,[(D.str ("":Str))]⟩)
 else dD (-(1:Int)) fun size=>
 cJ (cV (fun name s_=>
 (iU rows name).bind fun v=>
 dD (if (decide (s_.1<(0:Int)))=true then(v.length:Int) else s_.1) fun yK=>
 (Aq name).bind fun v1=>
 (t_ (!v1) ((Bc v yK).bind fun v2=>some (!v2))).bind fun b=>
 if b=true then kW (D.str name) (.rt (.error ⟨.BadTable,[(D.str name)]⟩))
 else(iJ s_.2 name v).bind fun lines=>
 some (.nx (yK,lines))) (rows.map (·.1)) (size,([]:List (Str×(List (Int×Int)))))) fun s_1=>
 if (!(decide ((0:Int)≤start)&&decide (start<s_1.1)))=true then kW (D.str ("":Str)) (.error ⟨.BadTable,[(D.str ("":Str))]⟩)
 else some (.ok ⟨s_1.2,s_1.1,start⟩)
theorem aaA {c:CL} {rows:List (Str×(List (Int×Int)))} {start:Int} {h:List Ob} {v:Except Err uW}  (e:Ai rows start=some v):qO c c.Table (rH c) h [.d ((qU (vL (aR D.int D.int))) rows),.d (D.int start)] (fun r=>[.ins c.Table ["lines","size","start"] [.d ((qU (vL (aR D.int D.int))) r.lines),.d (D.int r.size),.d (D.int r.start)]]) v:=by
 rw[SQ]
 exact u6 (p:=[(0,some (.v (.o h.length))),(1,some (.v (.d ((qU (vL (aR D.int D.int))) rows)))),(2,some (.v (.d (D.int start)))),(3,some .no),(4,some .no),(5,some .no),(6,some .no)]) (dR rfl rfl) rfl  (show J (tQ c h (fun r=>[.ins c.Table ["lines","size","start"] [.d ((qU (vL (aR D.int D.int))) r.lines),.d (D.int r.size),.d (D.int r.start)]])) 7 (Em c) _ (h++[.ins c.Table [] []]) (Ai rows start) from
 d7 (eZ (cU (lC aJ (ab6 (V:=(vL (aR D.int D.int))) (aD (aj rfl) aO)) fj aJ fj))) (dU (oA (aD aJ aO) fun s m=>⟨_,rfl⟩))
 (dZ (pA aeo rfl (Cp (V:=fun x=>.d (D.int x)) (Wh aJ) rfl rfl fun size=>
 ac9 (α:=Int×(List (Str×(List (Int×Int))))) (pre:=fun s_=>[(4,some (.v (.d (D.int s_.1)))),(3,some (.own (.aV (kS s_.2) (dV (vL (aR D.int D.int)) s_.2)))),(5,none),(6,none)]) (hp:=fun s_=>(h++[.ins c.Table [] []])) (a0:=(size,([]:List (Str×(List (Int×Int)))))) (afX rfl) ac8 rfl (gY rfl (gY rfl (bO (bO b_)))) (pN rfl (fun _=>rfl)) (fun name s_=>
 bf fun v cR=>
 jY (eE (ab7 (aD (aX (aj rfl) (aj rfl) (VF (V:=(vL (aR D.int D.int))) cR)) aO)) rfl) rfl rfl (Ph (α:=Int) (pre:=fun yK=>[(4,some (.v (.d (D.int yK))))]) (hp:=fun yK=>(h++[.ins c.Table [] []])) (cU (aX (aj rfl) aJ Bw)) (jY (Oe (V:=(aR D.int D.int)) (aD (aj rfl) aO)) rfl rfl (sO (gY rfl (FJ rfl b_)) rfl)) (sO (gY rfl b_) rfl) fun yK=>
 bf fun v1 lK=>
 bf fun b Q9=>
 d7 (Gf Q9 (eZ (n_ (ev_call (aD (aj rfl) aO) rfl (abG lK)) oE)) (sV fun v2 Cz=>(eo_some (eZ (n_ (ev_call (aD (aj rfl) (aD (aj rfl) aO)) rfl (aci Cz)) oE))))) (dU (oA (aD (aj rfl) aO) fun s m=>⟨⟨_,rfl⟩,rfl⟩))
 (dZ (qu (V:=(vL (aR D.int D.int))) (aj rfl) (aj rfl) rfl rfl rfl fun lines=>
 qp (gY rfl (gY rfl (bO (bO (nj 8 rfl rfl))))) rfl)))) fun s_1=>
 d7 (eZ (cU (lC aJ (aj rfl) fj (aj rfl) Bw))) (dU (oA (aD aJ aO) fun s m=>⟨_,rfl⟩))
 (dZ (qF (Wg rfl rfl rfl) (aj rfl) (by simp<;>omega) rfl rfl (by trivial) (qF (aj rfl) (aj rfl) (by simp<;>omega) rfl rfl (by trivial) (qF (aj rfl) (aj rfl) (by simp<;>omega) rfl rfl (by trivial) (mJ fun s m=>by exact rfl))))))))) e
noncomputable def Ed (c:CL):S:=(ao (yH (M.of (aC (iT [c.Table] "lines" (eV 0)) aN) kList))
 aM)
@[irreducible] noncomputable def wF (c:CL):Fn:=(runN 1 1 (Ed c))
theorem Ss (c:CL):wF c=(runN 1 1 (Ed c)):=by unfold wF;rfl
noncomputable def Ef (self:uW):Option (List Str):=
 some (self.lines.map (·.1))
theorem aas {c:CL} {self:uW} {h:List Ob} {v:List Str}  (e:Ef self=some v):wF c [.d ((Bb c) self)] h=some (Qs D.str h v):=by
 rw[Ss]
 exact fn_of (p:=[(0,some (.v (.d ((Bb c) self))))]) (dR rfl rfl) rfl  (show J (iz (Qs D.str h)) 1 (Ed c) _ h (Ef self) from
 aeL (abF (V:=(vL (aR D.int D.int))) (aD (jx (aj rfl) (by simp<;>omega) rfl) aO)) fun s m=>rfl) e
noncomputable def Eo (c:CL):S:=(ao (bT (tF (eB (kIn true) (eV 1) (iT [c.Table] "lines" (eV 0)))) (ao (oH c.NoOperation "name" (aC (eV 1) aN))
 aM) aM)
 (ao (bT (fM (tF (m7 (aU jJ) (aU kLt) (eC (.int 0)) (eV 2) (iT [c.Table] "size" (eV 0))))) (ao (oH c.BadNumber "number" (aC (eV 2) aN))
 aM) aM)
 (ao (bV (eB bY (eB bY (iT [c.Table] "lines" (eV 0)) (eV 1)) (eV 2)))
 aM)))
@[irreducible] noncomputable def wI (c:CL):Fn:=(runN 3 3 (Eo c))
theorem S7 (c:CL):wI c=(runN 3 3 (Eo c)):=by unfold wI;rfl
noncomputable def Ep (self:uW) (name:Str) (state:Int):Option (Except Err (Int×Int)):=
 if (!decide (name∈self.lines.map (·.1)))=true then kW (D.str name) (.error ⟨.NoOperation,[(D.str name)]⟩)
 else if (!(decide ((0:Int)≤state)&&decide (state<self.size)))=true then kW (D.int state) (.error ⟨.BadNumber,[(D.int state)]⟩)
 else(iU self.lines name).bind fun v=>
 (atI v state).bind fun v1=>
 some (.ok v1)
theorem aaB {c:CL} {self:uW} {name:Str} {state:Int} {h:List Ob} {v:Except Err (Int×Int)}  (e:Ep self name state=some v):wI c [.d ((Bb c) self),.d (D.str name),.d (D.int state)] h=some (qN c (aR D.int D.int) h v):=by
 rw[S7]
 exact fn_of (p:=[(0,some (.v (.d ((Bb c) self)))),(1,some (.v (.d (D.str name)))),(2,some (.v (.d (D.int state))))]) (dR rfl rfl) rfl  (show J (iz (qN c (aR D.int D.int) h)) 3 (Eo c) _ h (Ep self name state) from
 d7 (cU (aX (aj rfl) (jx (aj rfl) (by simp<;>omega) rfl) (ab4 (V:=(vL (aR D.int D.int)))))) (dU (oA (aD (aj rfl) aO) fun s m=>rfl))
 (dZ (d7 (eZ (cU (lC aJ (aj rfl) fj (jx (aj rfl) (by simp<;>omega) rfl) Bw))) (dU (oA (aD (aj rfl) aO) fun s m=>rfl))
 (dZ (bf fun v cR=>
 bf fun v1 lK=>
 cO (aX (aX (jx (aj rfl) (by simp<;>omega) rfl) (aj rfl) (VF (V:=(vL (aR D.int D.int))) cR)) (aj rfl) (nR (V:=(aR D.int D.int)) lK)) fun s m=>rfl))))) e
end TY
set_option maxHeartbeats 2000000
namespace TY
open PySem L2 DL AL PyProof.Rows
abbrev Ip:=Int×Int×Int×Int×List Int
abbrev jN:=List Int×List (Int×Ip)
abbrev EvT:=Int×Str×D
instance ahf:DecidableEq (Int×Int×Int×Int×List Int):=inferInstance
instance ag7:DecidableEq (List (Int×(Int×Int×Int×Int×List Int))):=inferInstance
instance ahg:DecidableEq (List Int×List (Int×(Int×Int×Int×Int×List Int))):=inferInstance
structure Ol where
 client:List (List Str)
 contents:List jN
 links:List (List (EvT×Int))
noncomputable def Nf (build:Gj) (name:Str) (numbers:List Int) (frame:Int×Int×Int×Int×(List Int)):Option ((List Int)×(Int×Int×Int×Int×(List Int))×(List Int)):=
 (iU build.programs name).bind fun operation=>
 cJ (zA (fun s_=>some s_.2.2.2) (fun s_=>
 (Pk build.base build.cells build.strong operation s_.1 s_.2.1).bind fun v=>
 (Ht s_.2.2.1 v.2.2.1).bind fun seen=>
 (jF v.2.2.2 ((jF (decide (v.2.1.1=(1:Int))) ((BJ ((aR D.str D.int) (name,s_.2.1.2.2.1)) (build.glue.map (aR D.str D.int))).bind fun q=>some q)).bind fun b=>some b)).bind fun b1=>
 some (.nx (v.1,v.2.1,seen,b1))) (numbers,frame,([]:List Int),true)) fun s_1=>
 some (s_1.1,s_1.2.1,s_1.2.2.1)
noncomputable def M5 (build:Gj) (client:List (List Str)) (content:(List Int)×(List (Int×(Int×Int×Int×Int×(List Int))))) (caller:Int):Option (Option ((Int×Str×D)×((List Int)×(List (Int×(Int×Int×Int×Int×(List Int))))))):=
 (atI content.2 caller).bind fun v=>
 cJ (if (decide (v.2.1=(0:Int)))=true then(atI client caller).bind fun v1=>
 if (decide (v.1=(v1.length:Int)))=true then some (.rt none)
 else(atI v1 v.1).bind fun v2=>
 dD (caller,("call":Str),(D.str v2)) fun event=>
 (iU build.programs v2).bind fun v3=>
 (LC v3 build.base).bind fun frame=>
 dD (v.1+(1:Int)) fun begun=>
 some (.nx (event,frame,begun,content.1)) else(if (decide (v.2.1=(2:Int)))=true then dD (caller,("return":Str),(D.int v.2.2.1)) fun aeO=>
 dD ((0:Int),(0:Int),(0:Int),(-1:Int),([]:List Int)) fun aeP=>
 some (aeO,aeP,content.1) else(atI client caller).bind fun v4=>
 (atI v4 (v.1-(1:Int))).bind fun v5=>
 (Nf build v5 content.1 v.2).bind fun v6=>
 dD (caller,("step":Str),((Yr D.int) v6.2.2)) fun aeQ=>
 some (aeQ,v6.2.1,v6.1)).bind fun s_=>
 some (.nx (s_.1,s_.2.1,v.1,s_.2.2))) fun s_1=>
 (oW content.2 caller (s_1.2.2.1,s_1.2.1)).bind fun v7=>
 some (some (s_1.1,(s_1.2.2.2,v7)))
end TY
set_option maxHeartbeats 2000000
namespace TY
open PySem L2 DL AL PyProof.Rows
end TY
set_option maxHeartbeats 2000000
namespace TY
open PySem L2 DL AL PyProof.Rows
end TY
set_option maxHeartbeats 2000000
namespace TY
open PySem L2 DL AL PyProof.Rows
end TY
set_option maxHeartbeats 2000000
namespace TY
open PySem L2 DL AL PyProof.Rows
end TY
set_option maxHeartbeats 1000000
namespace AL
open PySem L2 DL PyProof.Rows
end AL
set_option maxHeartbeats 1000000
namespace AL
open PySem L2 DL PyProof.Rows
end AL
namespace TY
open PySem L2 DL AL PyProof.Rows
end TY
set_option maxHeartbeats 1000000
namespace AL
open PySem L2 DL PyProof.Rows
end AL
namespace DL
open PySem L2 PyProof.Rows
end DL
namespace TY
open PySem L2 DL AL PyProof.Rows
end TY
namespace DL
open PySem L2 PyProof.Rows
end DL
namespace AL
open PySem L2 DL PyProof.Rows
end AL
namespace TY
open PySem L2 DL AL PyProof.Rows
end TY
set_option maxHeartbeats 1000000
namespace AL
open PySem L2 DL PyProof.Rows
end AL
namespace TY
open PySem L2 DL AL PyProof.Rows
end TY
namespace AL
open PySem L2 DL PyProof.Rows
end AL
namespace TY
open PySem L2 DL AL PyProof.Rows
end TY
namespace AL
open PySem L2 DL PyProof.Rows
section
variable {X:Cx} {x:Str} {e:Expr} {te:TE} {pos pos':Pos}
theorem gG (i:Nat) (hN:X.N.Nodup) (hi:X.N[i]?=some x:=by rfl) (hx:Loc X.env.scope x:=by first|exact Or.inl rfl|exact Or.inr rfl) (hf:X.fn x=true∨X.env.scope.names.lookup x=some .local:=by first|exact .inl rfl|exact .inr rfl|assumption):PG X (.Name x pos) (gName i):=pg_name hN hi hx hf
theorem fH (i:Nat) (hN:X.N.Nodup) (he:PE X e te) (hi:X.N[i]?=some x:=by rfl) (hx:Loc X.env.scope x:=by first|exact Or.inl rfl|exact Or.inr rfl) (hs:swapsWith e (some (.Name x pos')) pos.line X.env=pure false:=by rfl) (hf:X.fn x=true∨X.env.scope.names.lookup x=some .local:=by first|exact .inl rfl|exact .inr rfl|assumption):PS X (.Assign [.Name x pos'] e pos) (tAsg te (gName i)):=ps_set hN hi hx he hs hf
end
end AL
set_option maxHeartbeats 2000000
namespace DL
open PySem L2 PyProof.Rows
end DL
namespace AL
open PySem L2 DL PyProof.Rows
end AL
namespace TY
open PySem L2 DL AL PyProof.Rows
end TY
set_option maxHeartbeats 1000000
namespace AL
open PySem L2 DL PyProof.Rows
end AL
namespace TY
open PySem L2 DL AL PyProof.Rows
end TY
set_option maxHeartbeats 1000000
namespace AL
open PySem L2 DL PyProof.Rows
end AL
set_option maxHeartbeats 1000000
namespace AL
open PySem L2 DL PyProof.Rows
end AL
set_option maxHeartbeats 1000000
namespace AL
open PySem L2 DL PyProof.Rows
end AL
set_option maxHeartbeats 1000000
namespace DL
open PySem L2 PyProof.Rows
end DL
namespace TY
open PySem L2 DL AL PyProof.Rows
end TY
set_option maxHeartbeats 2000000
namespace DL
open PySem L2 PyProof.Rows PySem.W PySem.Calls
section
variable {P:Program} {w:World} {K:PySem.W.Frag} {mg:Str→Option Value} {base:Heap} {N ps:List Str} {qual name m:Str} {st:Stmt} {C D f cc cda:Addr} {A:Around} {outer:List Env} {s0:Shared} {H0:Hp} {E0':XK} {body rest:List Stmt} {e:Expr} {es:List Expr} {t:TA} {tr:TS} {k j:Nat} {sp:Sp} {W:WX} {Yw:List Str}
theorem Ar {X:Cx} {p0 p1 p2 p3 p4 p5:Pos} {x1:Str} (i:Nat) {pl:Sem Bool} {fd:FuncData} {x0:Str} (U:Hv X.prog X.K X.mg D f cda cc fd)
  (hX:X.env=ksEnv qual (defScope st) X.env.locals f (.ref cda) cc) (S:oY N Yw (defScope st)) (hN:X.N[0]?=some x0) (hx0:(defScope st).names.lookup x0=some .local) (har:(fd.params.posonlyargs++fd.params.args).head?.map (·.arg)=some x0)
  (M:iw X.prog X.w X.K X.mg X.base C D m ps k sp) (hr:Room j X.A) (hk:k≤j) (tk:Takes X W) (Q_:X.N.Nodup) (hre:PSs X rest tr)
  (hm1:(m == ("__class__":Str))=false:=by decide)
  (hi1:X.N[i]?=some x1:=by rfl) (hx1:Loc X.env.scope x1:=by first|exact Or.inl rfl|exact Or.inr rfl) (hf1:X.fn x1=true∨X.env.scope.names.lookup x1=some .local:=by first|exact .inl rfl|exact .inr rfl|assumption)
  (he:eval (.Call (.Attribute (.Call (.Name "super" p0) [] [] p1) m p2) [] [] p3) X.env=(do
   let ov ← attributeBase (.Call (.Name "super" p0) [] [] p1) m X.env (eval (.Call (.Name "super" p0) [] [] p1) X.env)
   standAt p2.atName
   let (g,first) ← holding [ov] (getMethod ov m pl)
   callWith p3 g first (backTo p3 (starEach [] X.env)) []):=by rfl)
  (hsw:swapsWith (.Call (.Attribute (.Call (.Name "super" p0) [] [] p1) m p2) [] [] p3) (some (.Name x1 p5)) p4.line X.env=pure false:=by rfl) :
  yW X body (.Assign [.Name x1 p5] (.Call (.Attribute (.Call (.Name "super" p0) [] [] p1) m p2) [] [] p3) p4::rest) (tSeq (tAsg (BR C m sp (WE W) (tVar 0) tNil) (gName i)) tr):=by
 obtain⟨f2,fd2,F2,hsu,hty,hfn,hmr,hb2⟩:=M.ex
 obtain⟨⟨oc,od,osl,ccl,cdd,vs,ccs,file,tf,cl,cld,csl,ho,hcode,hvs,hfile,hcell⟩,qY,oJ,top,fL⟩:=U
 intro pins s σ H Dd I h
 obtain⟨v0,hσ,a,dx,fs,rfl,Ra,hfs,hq⟩:=h
 have hkS:X.env.kindOf ("super":Str)=some .globalImplicit:=by rw[hX];exact S.vB
 have Dc:X.env.kindOf ("__class__":Str)=some .free:=by rw[hX];exact S.vC
 have hk0:X.env.kindOf x0=some .local:=by rw[hX];exact hx0
 have hsc:X.env.scope=defScope st:=by rw[hX]
 have hcl:X.env.cells.lookup ("__class__":Str)=some cc:=by rw[hX];rfl
 have X1:L2.Mod X.K X.mg s.heap:=Uj I.mod I.bk
 refine ks_wpAt_execs_cons (ks_wpAt_Assign_Name (ks_wpAt_MethodCall ?_ he) hsw)
 obtain⟨ar,Qv,Qw⟩:∃ar,(fd.params.posonlyargs++fd.params.args).head?=some ar∧ar.arg=x0:=by
  cases z:(fd.params.posonlyargs++fd.params.args).head? with
  | none=>rw[z] at har;cases har
  | some ar=>rw[z] at har;exact⟨ar,rfl,a0z har⟩
 refine ks_wpAt_super_base (env:=X.env) (f:=f) (cc:=cda) hkS Dc hm1 (by rw[hX]) (I.kIn _ _ ho) rfl Qv (by rw[hX]) (I.kIn _ _ hcode) rfl hvs hfile top ?_
 obtain⟨mb,hmb,BL⟩:=X1.blt
 have Pn:X.env.globals=mainGlobals:=I.ok.glob
 have Qx:X.env.builtins=builtinsNs:=I.ok.blt
 refine ks_loadName_global I.ok.kind hkS (loadGlobal_builtin (env:=X.env) (by rw[Pn];exact X1.glob) oJ (by rw[Qx];exact hmb) ((BL _ (by trivial)).trans (by first|rfl|decide +kernel)) ⟨rfl,?_⟩)
 refine wpAny_loadName_free I.ok.kind Dc hcl ⟨_,I.kIn _ _ hcell,rfl⟩ ?_
 rw[Qw]
 obtain⟨ml,hnl,hlo⟩:=I.loc
 obtain⟨u,ru,lk⟩:=hlo 0 x0 (.ref a) hN hσ (.inl (by rw[hsc];exact hx0))
 obtain rfl:u=Value.ref a:=ru
 have hm0:ml x0=some (Value.ref a):=by
  rcases lk with ⟨_,z⟩|⟨z,_⟩
  ·exact z
  ·rw[hk0] at z;rcases z with z|z<;>cases z
 refine b0d I.ok.kind hk0 hnl hm0 ?_
 obtain⟨cdD,qP⟩:=Option.isSome_iff_exists.mp qY
 obtain⟨oD,hD1,hD2⟩:∃oD,s.heap.get? D=some oD∧oD.data=.cls cdD:=by
  unfold clsIn at qP
  split at qP
  ·rename_i c d cd' sl ho
   cases qP
   exact⟨_,I.kIn _ _ ho,rfl⟩
  ·cases qP
 refine ks_wpAny_isType_cls hD1 hD2 ⟨rfl,?_⟩
 obtain⟨mA,O,_,_,_,_⟩:=ins_get I.hok Ra
 refine ks_wpAny_call_super hD1 hD2 O.obj rfl (fun c e=>by cases e) (looks_mroIn I.kIn hmr) (fun h₂ e2 k2=>?_)
 have I2:Inv X pins σ H {s with heap:=h₂}:=I.kept (t':=s.toks) k2
 obtain⟨Df,vP⟩:∃cd,clsIn X.K C=some cd:=by
  cases z:clsIn X.K C with
  | none=>unfold mroIn at hmr;rw[z] at hmr;cases hmr
  | some cd=>exact⟨cd,rfl⟩
 have vQ:=hsu
 unfold ks_superIn at vQ
 rw[vP] at vQ
 obtain⟨of,hof,hofc⟩:∃of,h₂.get? f2=some of∧of.cls=.type "function":=by
  have ht':(X.K.lookup f2).map (·.cls)=some (.type "function"):=hty
  cases z:X.K.lookup f2 with
  | none=>rw[z] at ht';cases ht'
  | some of=>rw[z] at ht';exact⟨of,I2.kIn _ _ z,a0z ht'⟩
 obtain⟨odx,hdx⟩:∃o,s.heap.get? dx=some o:=let ⟨o,_,_,e,_⟩:=O.ns;⟨o,e⟩
 have hxC:a≠C:=ks_ne (ox:=instObj C dx) (odx:=some odx) (cd:=Df) I.kIn ⟨O.obj,rfl,rfl,hdx⟩ vP
 refine ks_wpAny_getMethod_super e2 (looks_opaque I2.kIn fL) (l₀:=Df.mro) ?_ rfl I2.kIn vQ hof hofc hxC hm1 ?_
 ·exact fun A Q E s k q=>a0U ((looks_clsIn I2.kIn vP) A _ E s k (b0p q))
 have k3:∀b o,h₂.get? b=some o→(h₂.push {cls:=.type "method",data:=.fields #[.ref f2,.ref a]}).get? b=some o:=fun b o e=>Heap.get?_push_of_some _ e
 have I3:Inv X pins σ H {s with heap:=h₂.push {cls:=.type "method",data:=.fields #[.ref f2,.ref a]},toks:=s.toks+1}:=I2.kept (t':=s.toks+1) k3
 have Rb:(h₂.push {cls:=.type "method",data:=.fields #[.ref f2,.ref a]}).get? h₂.objs.size=some (methodObj (.ref f2) (.ref a)):=Heap.get?_push_at rfl rfl
 have I4:Inv X ((h₂.objs.size,methodObj (.ref f2) (.ref a))::pins) σ H {s with heap:=h₂.push {cls:=.type "method",data:=.fields #[.ref f2,.ref a]},toks:=s.toks+1}:=I3.pins_of fun p hp=>by
  rcases a0c.mp hp with rfl|hp
  ·exact⟨Rb,I2.hok.fresh (a0v _),b0I I2.lt,I2.nofs (a0v _),fun v e=>by cases e⟩
  ·exact I3.pin p (a0M _ hp)
 have hq:sp [.ref a] H (fun v H1=>gName i v σ H1 (tr Dd)) (WE W σ):=hq
 have I5:=I4
 have hp5:=(I5.pin (h₂.objs.size,methodObj (.ref f2) (.ref a)) (a0M _ a0N)).1
 have hcall:MethP X.K h₂.objs.size f2 (.ref a) (h₂.push {cls:=.type "method",data:=.fields #[.ref f2,.ref a]})∧wpAny (model X.prog X.w) X.A (call (.ref h₂.objs.size) []) (fun v s₁=>wpAny (model X.prog X.w) X.A (storeName X.env x1 v) (fun _ s'=>SP X pins {Dd with nx:=tr Dd} .next s') X.xe s₁) X.xe {s with heap:=h₂.push {cls:=.type "method",data:=.fields #[.ref f2,.ref a]},toks:=s.toks+1}:=by
  refine⟨⟨hp5,I5.kIn⟩,b0K (method_call hp5 ?_)⟩
  have r2:Vals [V.ref a] [Value.ref a]:=.cons rfl .nil
  have hl:[Value.ref a].length=ps.length:=by rw[← r2.length];exact F2.len _ _ _ _ hq
  have b:=hb2 {s with heap:=h₂.push {cls:=.type "method",data:=.fields #[.ref f2,.ref a]},toks:=s.toks+1} [Value.ref a] I5.kIn (by rw[a0O];exact hl)
  rw[a0O] at b
  refine codeAny_mono (F2.run X.A X.stack _ H ⟨[Value.ref a],[]⟩ [Value.ref a] [V.ref a] (fun v H1=>gName i v σ H1 (tr Dd)) (WE W σ) (hr.mono hk) I5.env0 b r2 hq) fun r s' hq=>?_
  cases r with
  | error e=>exact passAt tk σ _ _ _ e s' I5 hq
  | ok fl=>
   cases fl with
   | ret u=>
    obtain⟨v,H',I6,rv,q3⟩:=I5.after hq
    have I7:Inv X pins σ H' s':=I6.pins_of fun p hp=>I6.pin p (a0M _ (a0K _ hp))
    exact store_ok I7 Q_ hi1 hx1 rv (fun s2 I8=>⟨_,H',I8,q3⟩) hf1
   | next=>exact False.elim hq
   | brk=>exact False.elim hq
   | cont=>exact False.elim hq
 have hend:wpAny (model X.prog X.w) X.A (callWith p3 (.ref h₂.objs.size) [] (backTo p3 (starEach [] X.env)) []) (fun v s₁=>wpAny (model X.prog X.w) X.A (storeName X.env x1 v) (fun _ s'=>SP X pins {Dd with nx:=tr Dd} .next s') X.xe s₁) X.xe {s with heap:=h₂.push {cls:=.type "method",data:=.fields #[.ref f2,.ref a]},toks:=s.toks+1}:=by
  refine callWith_of (P:=MethP X.K h₂.objs.size f2 (.ref a)) rfl (keeps_M hfn) (PySem.evalArgs_none ?_)
  exact hcall
 refine thn hend fun v s₁ z=>?_
 refine thn z fun _ s' z=>?_
 obtain⟨σ',H',I',q'⟩:=z
 exact wpAt_of_wpAny (hre.run pins s' σ' H' Dd I' q')
end
end DL
namespace AL
open PySem L2 DL PyProof.Rows
def Yb (K:PySem.W.Frag) (cs:List (Addr×Fn)) (m:Str) (E:L2.St→XK) (to:TE):TE:=fun σ H Q=>∃p∈cs,BR p.1 m (aQ K p.2) E to tNil σ H Q
def vR (cs:List (Addr×Fn)) (m:Str) (fo:M R):M Ob:=fun st=>match fo st with
 | some (.ok o st1)=>match inV st1 o with
  | some c=>match cs.find? (fun p=>decide (p.1=c.1)) with
   | some p=>jK p.1 m p.2 fo aN st
   | none=>none
  | none=>none
 | _=>none
section
variable {X:Cx} {ps:List Str} {j:Nat} {W:WX} {o:Expr} {to:TE} {m:Str} {apos pos:Pos}
theorem Wx {pl:Sem Bool} {jj:Nat} {cs:List (Addr×Fn)} (M:∀p∈cs,∃k,k≤jj∧vD X.prog X.w X.K X.mg X.base p.1 m ps k (aQ X.K p.2)) (hr:Room j X.A) (hj:jj≤j) (tk:Takes X W) (ho:PE X o to)
  (ht:eval (.Call (.Attribute o m apos) [] [] pos) X.env=(do
   let ov ← eval o X.env
   standAt apos.atName
   let (g,first) ← holding [ov] (getMethod ov m pl)
   callWith pos g first (backTo pos (starEach [] X.env)) (backToKw pos (keywordEach [] X.env))):=by rfl):PE X (.Call (.Attribute o m apos) [] [] pos) (Yb X.K cs m (WE W) to):=⟨fun pins s σ H Q I h=>by
 obtain⟨p,hp,h⟩:=h
 obtain⟨k,hk,M⟩:=M p hp
 exact(Vo M hr (b0e hk hj) tk ho ht).run pins s σ H Q I h⟩
theorem Wy {K:PySem.W.Frag} {fo:M R} {cs:List (Addr×Fn)} (ho:XE K W to fo):XN K W (Yb K cs m (WE W) to) (vR cs m fo):=fun A st σ H ts C Q y hy p=>by
 unfold vR at hy
 split at hy
 ·split at hy
  ·split at hy
   ·rename_i q hq
    exact⟨q,b0c hq,pH ho aK A st σ H ts C Q y hy p⟩
   ·cases hy
  ·cases hy
 ·cases hy
end
end AL
set_option maxHeartbeats 2000000
namespace DL
open PySem L2 PyProof.Rows PySem.W PySem.Calls
structure qj (N:List Str) (x0:Str) (sc:Scope):Prop where
 kind:sc.kind=.function
 co:sc.isCoroutine=false
 gen:sc.isGenerator=false
 nd:N.Nodup
 pre:N.take 1=[x0]
 par:sc.names.lookup x0=some .cell
 cells:∀y∈sc.names,y.2=.cell→y.1=x0
 free:∀y∈sc.names,y.2=.free→y.1="__class__"
 lay:∀n cc,cellsFrom n sc.names [(("__class__":Str),cc)]=[(x0,n),("__class__",cc)]
 push:∀h,pushCells h sc.names=h.push {cls:=.type "cell",data:=.cell none}
 ne:(("__class__":Str) == x0)=false
 vB:sc.names.lookup ("super":Str)=some .globalImplicit
 vC:sc.names.lookup ("__class__":Str)=some .free
abbrev jZ (x0:Str) (qual:Str) (scope:Scope) (L f:Addr) (cd:Value) (cc:Addr):Env:=envX qual scope L f cd [(x0,L+1),("__class__",cc)]
def oK (x0:Str) (CX:CXT) (P:Program) (w:World) (K:PySem.W.Frag) (mg:Str→Option Value) (base:Heap) (N:List Str) (qual:Str) (scope:Scope) (f:Addr) (cd:Value) (cc:Addr) (A:Around) (outer:List Env) (s:Shared) (H:Hp) (E:XK):Cx where
 prog:=P
 w:=w
 K:=K
 mg:=mg
 base:=base
 A:=A.deeper (jZ x0 qual scope s.heap.objs.size f cd cc)
 N:=N
 s_0:=s
 H_0:=H
 env:=jZ x0 qual scope s.heap.objs.size f cd cc
 outer:=outer
 stack:=jZ x0 qual scope s.heap.objs.size f cd cc::outer
 ex:=[]
 calm:=true
 fn:=fun x=>!(x == ("__class__":Str))
 pn:=[]
 xe:=fun e s'=>wpAny (model P w) (A.deeper (jZ x0 qual scope s.heap.objs.size f cd cc)) (leaving (jZ x0 qual scope s.heap.objs.size f cd cc) e) (fun _ s''=>CX outer H s E e s'') (fun e' s''=>CX outer H s E e' s'') s'
section
variable {CX:CXT} {P:Program} {w:World} {K:PySem.W.Frag} {mg:Str→Option Value} {base:Heap} {N:List Str} {x0 qual name:Str} {scope:Scope} {f cc D:Addr} {cd:Value} {A:Around} {outer:List Env} {s:Shared} {H:Hp} {E:XK} {u:Value} {v:V} {cl:Value} {cld:Option Addr} {csl:Array (Option Value)}
theorem kc_free (S:qj N x0 scope) {L:Addr} {x:Str} (h:(jZ x0 qual scope L f cd cc).kindOf x=some .cell∨(jZ x0 qual scope L f cd cc).kindOf x=some .free):x=x0∨x="__class__":=by
 have h:scope.names.lookup x=some .cell∨scope.names.lookup x=some .free:=h
 rcases h with h|h
 ·exact .inl (S.cells _ (b0o h) rfl)
 ·exact .inr (S.free _ (b0o h) rfl)
theorem Bf {L:Addr} {x:Str} {c:Addr} (h:(jZ x0 qual scope L f cd cc).cells.lookup x=some c):(x=x0∧c=L+1)∨(x="__class__"∧c=cc):=by
 have h:List.lookup x [(x0,L+1),(("__class__":Str),cc)]=some c:=h
 cases z:(x == x0) with
 | true=>
  rw[List.lookup,z] at h
  exact .inl ⟨beq_iff_eq.mp z,(a0z h).symm⟩
 | false=>
  rw[List.lookup,z] at h
  cases z2:(x == ("__class__":Str)) with
  | true=>
   rw[List.lookup,z2] at h
   exact .inr ⟨beq_iff_eq.mp z2,(a0z h).symm⟩
  | false=>rw[List.lookup,z2] at h;cases h
theorem O6 {L:Addr}:(jZ x0 qual scope L f cd cc).cells.lookup x0=some (L+1):=by
 show List.lookup x0 [(x0,L+1),(("__class__":Str),cc)]=_
 rw[List.lookup,show (x0 == x0)=true from beq_self_eq_true x0]
theorem Wz (S:qj N x0 scope) {L:Addr}:(jZ x0 qual scope L f cd cc).cells.lookup ("__class__":Str)=some cc:=by
 show List.lookup ("__class__":Str) [(x0,L+1),(("__class__":Str),cc)]=_
 rw[List.lookup,S.ne];rfl
theorem abu {h₁:Heap} {tk:Nat} (S:qj N x0 scope) (hcell:K.lookup cc=some ⟨cl,cld,.cell (some (.ref D)),csl⟩) (hd:A.handled=none) (e0:Env0 P w K mg base A outer s H) (r:RelV v u)
  (hns:h₁.Ns s.heap.objs.size (fun _=>none)) (hc:h₁.IsCell (s.heap.objs.size+1) (some u)) (hk:∀b o,s.heap.get? b=some o→h₁.get? b=some o) :
  Inv (oK x0 CX P w K mg base N qual scope f cd cc A outer s H E) [] (L2.start N [v]) H {s with heap:=h₁,toks:=tk}:=by
 have hpl:1≤N.length:=by have:=congrArg List.length S.pre;rw[List.length_take] at this;simp at this;omega
 have noA:∀b:Addr,b∉(oK x0 CX P w K mg base N qual scope f cd cc A outer s H E).ex:=fun b z=>absurd (show b∈([]:List Addr) from z) (by simp)
 have KX:K.In s.heap:=e0.mod.kin.keeps fun b o e=>(e0.bs b o e).1
 have hcb:base.get? cc=some ⟨cl,cld,.cell (some (.ref D)),csl⟩:=e0.mod.kin _ _ hcell
 have hcs:cc<s.heap.objs.size:=Heap.lt_size (e0.bs _ _ hcb).1
 refine⟨⟨e0.mod,S.kind,rfl,rfl,a0v _,fun y z c h1 h2=>?_,fun y hy=>?_,fun y c hy h=>?_,fun _=>hd,Around.frames_deeper e0.frames,.inr ⟨rfl,rfl⟩,fun b z=>absurd z (noA b),e0.bs,e0.bsz,fun b _ _=>noA b,fun b z=>absurd z (noA b),e0.funs,e0.frf⟩,
  rfl,e0.bare,Un.kept hk,⟨_,hns,fun i y v' h1 h2 h3=>?_⟩,fun y c h=>?_,e0.hok.fresh (a0v _),fun y c h=>?_,fun p hp=>absurd (show p∈([]:List (Addr×Obj)) from hp) (by simp),e0.hok.kept hk,?_⟩
 ·rcases Bf h1 with ⟨a1,b1⟩|⟨a1,b1⟩<;>rcases Bf h2 with ⟨a2,b2⟩|⟨a2,b2⟩
  ·rw[a1,a2]
  ·exact absurd (b1.symm.trans b2) (b0I (b0k hcs))
  ·exact absurd (b2.symm.trans b1) (b0I (b0k hcs))
  ·rw[a1,a2]
 ·rcases kc_free S hy with rfl|rfl
  ·exact⟨_,O6⟩
  ·exact⟨cc,Wz S⟩
 ·rcases Bf h with ⟨a1,b1⟩|⟨a1,b1⟩
  ·rw[b1];exact b0F _
  ·rw[a1] at hy;exact absurd hy (by show ¬((!(("__class__":Str) == ("__class__":Str)))=true);simp)
 ·have hi:i=0:=by
   unfold L2.start at h2
   by_cases hi:i<1
   ·omega
   ·rw[a0t (by simp;omega)] at h2
    rw[b0v] at h2
    split at h2<;>cases h2
  subst hi
  have ha:v=v':=by
   unfold L2.start at h2
   rw[a0u (by simp)] at h2
   simpa using h2
  subst ha
  have hy:y=x0:=by
   have:(N.take 1)[0]?=some y:=by rw[List.getElem?_take_of_lt (by omega)];exact h1
   rw[S.pre] at this
   exact(a0z this).symm
  subst hy
  exact⟨u,r,.inr ⟨.inl S.par,_,O6,hc⟩⟩
 ·rcases Bf h with ⟨a1,b1⟩|⟨a1,b1⟩
  ·rw[b1];exact⟨_,hc⟩
  ·rw[b1];exact⟨_,_,hk _ _ (e0.bs _ _ hcb).1,rfl⟩
 ·rcases Bf h with ⟨a1,b1⟩|⟨a1,b1⟩
  ·rw[b1];exact e0.hok.fresh (b0F _)
  ·rw[b1];exact(e0.bs _ _ hcb).2
 ·unfold L2.start
  show _=N.length
  rw[a0T,a0C,List.length_replicate]
  simp;omega
theorem aeR {k:Nat} {params:Arguments} {body:List Stmt} {dV kV doc pm ct oc:Value} {an od:Option Addr} {osl:Array (Option Value)} {sp:Sp} (lk:K.lookup f=some ⟨oc,od,.func (ksFn name qual params body scope dV kV doc pm an cd ct cc),osl⟩) (hcd:PySem.W.codeIn K cd qual=true) (S:qj N x0 scope)
  (hcell:K.lookup cc=some ⟨cl,cld,.cell (some (.ref D)),csl⟩) (len:∀vs H Q E,sp vs H Q E→vs.length=[x0].length)
  (hbody:∀(A:Around) (outer:List Env) (s:Shared) (H:Hp) (vs:List V) (Q:VK) (E:XK),Room k (A.deeper (jZ x0 qual scope s.heap.objs.size f cd cc))→sp vs H Q E→
   ∃t,yW (oK x0 CX P w K mg base N qual scope f cd cc A outer s H E) body body t∧t {nx:=fun _ H'=>Q .non H',rt:=Q} (L2.start N vs) H) :
  FnOk P w K mg base CX (k+1) f (ksFn name qual params body scope dV kV doc pm an cd ct cc) [x0] sp:=by
 refine⟨len,fun A outer s H args us vs Q E hr e0 hb r hsp=>?_⟩
 have hl:=len _ _ _ _ hsp
 have KX:K.In s.heap:=e0.mod.kin.keeps fun b o e=>(e0.bs b o e).1
 have lim:s.heap.NoLimit:=e0.mod.nolimit.keeps fun b o e=>(e0.bs b o e).1
 obtain⟨v,rfl⟩:∃v,vs=[v]:=by
  match vs,hl with
  | [v],_=>exact⟨v,rfl⟩
 obtain⟨u,rfl,ru⟩:=r.one
 refine codeAny_call_function hr.depth (KX _ _ lk) rfl S.co S.gen rfl (PySem.W.codeRec_of KX hcd) (hb _ _ _ _ ?_)
 show wpAny (model P w) A.in1 (newFunctionEnv scope mainGlobals [(("__class__":Str),cc)] [(x0,u)] (qual++".<locals>.") (some f) cd none builtinsNs) _ _ s
 simp only[newFunctionEnv,Option.isSome_none,Bool.false_eq_true,if_false]
 refine a0U (wpAny_alloc ?_)
 refine a0U (wpAny_layCells _ (fun name kind cells=>by cases hkc:kind == NameKind.cell<;>simp[hkc]) _ _ _ _ ?_)
 rw[S.lay,S.push]
 rw[show ({s with heap:=s.heap.push {cls:=.type "frame",data:=.dict #[]}}:Shared).heap.objs.size=s.heap.objs.size+1 from Heap.size_push ..]
 have hcg:((s.heap.push {cls:=.type "frame",data:=.dict #[]}).push {cls:=.type "cell",data:=.cell none}).IsCell (s.heap.objs.size+1) none:=by
  refine⟨{cls:=.type "cell",data:=.cell none},?_,rfl⟩
  have:=Heap.get?_push_size (s.heap.push {cls:=.type "frame",data:=.dict #[]}) (o:={cls:=.type "cell",data:=.cell none}) rfl
  rw[Heap.size_push] at this
  exact this
 refine a0U ?_
 rw[List.forIn_cons]
 refine a0U (a0U (wpAny_storeName_cell (env:=jZ x0 qual scope s.heap.objs.size f cd cc) (c:=s.heap.objs.size+1) (v₀:=none) S.kind S.par O6 hcg fun h' hc' hs'=>b0p ?_))
 refine b0p (b0p ?_)
 have hk':∀b o,s.heap.get? b=some o→h'.get? b=some o:=fun b o e=>hs'.extBut b o (b0z (b0k (Heap.lt_size e))) (Heap.get?_push_of_some _ (Heap.get?_push_of_some _ e))
 have hns':h'.Ns s.heap.objs.size (fun _=>none):=((Heap.Ns.new s.heap (.type "frame")).keeps fun b o e=>Heap.get?_push_of_some _ e).sameBut hs' (b0z (Nat.lt_succ_self _))
 refine⟨lim.keeps hk',ks_codeAny_funcAt ?_⟩
 obtain⟨t,ht,hq⟩:=hbody A outer s H [v] Q E (hr.deeper _) hsp
 have I:=abu (CX:=CX) (E:=E) (qual:=qual) (f:=f) (cd:=cd) (tk:=s.toks) S hcell hr.hd e0 ru hns' hc' hk'
 refine ks_wpAt_mono (ht [] _ (L2.start N [v]) H _ I hq) (fun fl s' hs=>?_) fun e s' hs=>hs
 have fin:∀{σ':L2.St} {H':Hp} {v:V} {u:Value},Inv (oK x0 CX P w K mg base N qual scope f cd cc A outer s H E) [] σ' H' s'→RelV v u→Q v H'→CE outer P w H s Q u s':=
  fun {σ' H' v u} J rv q=>⟨v,H',J.os,J.bare,J.base,J.hok,rv,q⟩
 cases fl with
 | ret u=>
  obtain⟨v,σ',H',J,rv,q⟩:=hs
  exact fin J rv q
 | next=>
  obtain⟨σ',H',J,q⟩:=hs
  exact fin (v:=V.non) (u:=Value.none) J rfl q
 | brk=>
  obtain⟨_,_,_,q⟩:=hs
  exact False.elim q
 | cont=>
  obtain⟨_,_,_,q⟩:=hs
  exact False.elim q
end
section
variable {P:Program} {w:World} {K:PySem.W.Frag} {mg:Str→Option Value} {base:Heap} {N ps:List Str} {qual name m:Str} {st:Stmt} {C D f cc cda:Addr} {A:Around} {outer:List Env} {s0:Shared} {H0:Hp} {E0':XK} {body rest:List Stmt} {e:Expr} {es:List Expr} {t:TA} {tr:TS} {k j:Nat} {sp:Sp} {W:WX} {Yw:List Str}
theorem Nh {X:Cx} {p0 p1 p2 p3 p4 p5:Pos} {x1:Str} (i:Nat) {pl:Sem Bool} {fd:FuncData} {x0:Str} (U:Hv X.prog X.K X.mg D f cda cc fd)
  (hX:X.env=jZ x0 qual (defScope st) X.env.locals f (.ref cda) cc) (S:qj N x0 (defScope st)) (hN:X.N[0]?=some x0) (har:(fd.params.posonlyargs++fd.params.args).head?.map (·.arg)=some x0)
  (M:iw X.prog X.w X.K X.mg X.base C D m ps k sp) (hr:Room j X.A) (hk:k≤j) (tk:Takes X W) (Q_:X.N.Nodup) (hre:PSs X rest tr)
  (hm1:(m == ("__class__":Str))=false:=by decide)
  (hi1:X.N[i]?=some x1:=by rfl) (hx1:Loc X.env.scope x1:=by first|exact Or.inl rfl|exact Or.inr rfl) (hf1:X.fn x1=true∨X.env.scope.names.lookup x1=some .local:=by first|exact .inl rfl|exact .inr rfl|assumption)
  (he:eval (.Call (.Attribute (.Call (.Name "super" p0) [] [] p1) m p2) [] [] p3) X.env=(do
   let ov ← attributeBase (.Call (.Name "super" p0) [] [] p1) m X.env (eval (.Call (.Name "super" p0) [] [] p1) X.env)
   standAt p2.atName
   let (g,first) ← holding [ov] (getMethod ov m pl)
   callWith p3 g first (backTo p3 (starEach [] X.env)) []):=by rfl)
  (hsw:swapsWith (.Call (.Attribute (.Call (.Name "super" p0) [] [] p1) m p2) [] [] p3) (some (.Name x1 p5)) p4.line X.env=pure false:=by rfl) :
  yW X body (.Assign [.Name x1 p5] (.Call (.Attribute (.Call (.Name "super" p0) [] [] p1) m p2) [] [] p3) p4::rest) (tSeq (tAsg (BR C m sp (WE W) (tVar 0) tNil) (gName i)) tr):=by
 obtain⟨f2,fd2,F2,hsu,hty,hfn,hmr,hb2⟩:=M.ex
 obtain⟨⟨oc,od,osl,ccl,cdd,vs,ccs,file,tf,cl,cld,csl,ho,hcode,hvs,hfile,hcell⟩,qY,oJ,top,fL⟩:=U
 intro pins s σ H Dd I h
 obtain⟨v0,hσ,a,dx,fs,rfl,Ra,hfs,hq⟩:=h
 have hkS:X.env.kindOf ("super":Str)=some .globalImplicit:=by rw[hX];exact S.vB
 have Dc:X.env.kindOf ("__class__":Str)=some .free:=by rw[hX];exact S.vC
 have hk0:X.env.kindOf x0=some .cell:=by rw[hX];exact S.par
 have hsc:X.env.scope=defScope st:=by rw[hX]
 have hcl:X.env.cells.lookup ("__class__":Str)=some cc:=by rw[hX];exact Wz S
 have X1:L2.Mod X.K X.mg s.heap:=Uj I.mod I.bk
 refine ks_wpAt_execs_cons (ks_wpAt_Assign_Name (ks_wpAt_MethodCall ?_ he) hsw)
 obtain⟨ar,Qv,Qw⟩:∃ar,(fd.params.posonlyargs++fd.params.args).head?=some ar∧ar.arg=x0:=by
  cases z:(fd.params.posonlyargs++fd.params.args).head? with
  | none=>rw[z] at har;cases har
  | some ar=>rw[z] at har;exact⟨ar,rfl,a0z har⟩
 refine ks_wpAt_super_base (env:=X.env) (f:=f) (cc:=cda) hkS Dc hm1 (by rw[hX]) (I.kIn _ _ ho) rfl Qv (by rw[hX]) (I.kIn _ _ hcode) rfl hvs hfile top ?_
 obtain⟨mb,hmb,BL⟩:=X1.blt
 have Pn:X.env.globals=mainGlobals:=I.ok.glob
 have Qx:X.env.builtins=builtinsNs:=I.ok.blt
 refine ks_loadName_global I.ok.kind hkS (loadGlobal_builtin (env:=X.env) (by rw[Pn];exact X1.glob) oJ (by rw[Qx];exact hmb) ((BL _ (by trivial)).trans (by first|rfl|decide +kernel)) ⟨rfl,?_⟩)
 refine wpAny_loadName_free I.ok.kind Dc hcl ⟨_,I.kIn _ _ hcell,rfl⟩ ?_
 rw[Qw]
 obtain⟨ml,hnl,hlo⟩:=I.loc
 obtain⟨u,ru,lk⟩:=hlo 0 x0 (.ref a) hN hσ (by rw[hsc];exact .inr (.inl S.par))
 obtain rfl:u=Value.ref a:=ru
 obtain⟨c0,hc0,hm0⟩:∃c,X.env.cells.lookup x0=some c∧s.heap.IsCell c (some (Value.ref a)):=by
  rcases lk with ⟨z,_⟩|⟨_,c,e,q⟩
  ·rw[hk0] at z;cases z
  ·exact⟨c,e,q⟩
 refine wpAny_loadName_cell I.ok.kind hk0 hc0 hm0 ?_
 obtain⟨cdD,qP⟩:=Option.isSome_iff_exists.mp qY
 obtain⟨oD,hD1,hD2⟩:∃oD,s.heap.get? D=some oD∧oD.data=.cls cdD:=by
  unfold clsIn at qP
  split at qP
  ·rename_i c d cd' sl ho
   cases qP
   exact⟨_,I.kIn _ _ ho,rfl⟩
  ·cases qP
 refine ks_wpAny_isType_cls hD1 hD2 ⟨rfl,?_⟩
 obtain⟨mA,O,_,_,_,_⟩:=ins_get I.hok Ra
 refine ks_wpAny_call_super hD1 hD2 O.obj rfl (fun c e=>by cases e) (looks_mroIn I.kIn hmr) (fun h₂ e2 k2=>?_)
 have I2:Inv X pins σ H {s with heap:=h₂}:=I.kept (t':=s.toks) k2
 obtain⟨Df,vP⟩:∃cd,clsIn X.K C=some cd:=by
  cases z:clsIn X.K C with
  | none=>unfold mroIn at hmr;rw[z] at hmr;cases hmr
  | some cd=>exact⟨cd,rfl⟩
 have vQ:=hsu
 unfold ks_superIn at vQ
 rw[vP] at vQ
 obtain⟨of,hof,hofc⟩:∃of,h₂.get? f2=some of∧of.cls=.type "function":=by
  have ht':(X.K.lookup f2).map (·.cls)=some (.type "function"):=hty
  cases z:X.K.lookup f2 with
  | none=>rw[z] at ht';cases ht'
  | some of=>rw[z] at ht';exact⟨of,I2.kIn _ _ z,a0z ht'⟩
 obtain⟨odx,hdx⟩:∃o,s.heap.get? dx=some o:=let ⟨o,_,_,e,_⟩:=O.ns;⟨o,e⟩
 have hxC:a≠C:=ks_ne (ox:=instObj C dx) (odx:=some odx) (cd:=Df) I.kIn ⟨O.obj,rfl,rfl,hdx⟩ vP
 refine ks_wpAny_getMethod_super e2 (looks_opaque I2.kIn fL) (l₀:=Df.mro) ?_ rfl I2.kIn vQ hof hofc hxC hm1 ?_
 ·exact fun A Q E s k q=>a0U ((looks_clsIn I2.kIn vP) A _ E s k (b0p q))
 have k3:∀b o,h₂.get? b=some o→(h₂.push {cls:=.type "method",data:=.fields #[.ref f2,.ref a]}).get? b=some o:=fun b o e=>Heap.get?_push_of_some _ e
 have I3:Inv X pins σ H {s with heap:=h₂.push {cls:=.type "method",data:=.fields #[.ref f2,.ref a]},toks:=s.toks+1}:=I2.kept (t':=s.toks+1) k3
 have Rb:(h₂.push {cls:=.type "method",data:=.fields #[.ref f2,.ref a]}).get? h₂.objs.size=some (methodObj (.ref f2) (.ref a)):=Heap.get?_push_at rfl rfl
 have I4:Inv X ((h₂.objs.size,methodObj (.ref f2) (.ref a))::pins) σ H {s with heap:=h₂.push {cls:=.type "method",data:=.fields #[.ref f2,.ref a]},toks:=s.toks+1}:=I3.pins_of fun p hp=>by
  rcases a0c.mp hp with rfl|hp
  ·exact⟨Rb,I2.hok.fresh (a0v _),b0I I2.lt,I2.nofs (a0v _),fun v e=>by cases e⟩
  ·exact I3.pin p (a0M _ hp)
 have hq:sp [.ref a] H (fun v H1=>gName i v σ H1 (tr Dd)) (WE W σ):=hq
 have I5:=I4
 have hp5:=(I5.pin (h₂.objs.size,methodObj (.ref f2) (.ref a)) (a0M _ a0N)).1
 have hcall:MethP X.K h₂.objs.size f2 (.ref a) (h₂.push {cls:=.type "method",data:=.fields #[.ref f2,.ref a]})∧wpAny (model X.prog X.w) X.A (call (.ref h₂.objs.size) []) (fun v s₁=>wpAny (model X.prog X.w) X.A (storeName X.env x1 v) (fun _ s'=>SP X pins {Dd with nx:=tr Dd} .next s') X.xe s₁) X.xe {s with heap:=h₂.push {cls:=.type "method",data:=.fields #[.ref f2,.ref a]},toks:=s.toks+1}:=by
  refine⟨⟨hp5,I5.kIn⟩,b0K (method_call hp5 ?_)⟩
  have r2:Vals [V.ref a] [Value.ref a]:=.cons rfl .nil
  have hl:[Value.ref a].length=ps.length:=by rw[← r2.length];exact F2.len _ _ _ _ hq
  have b:=hb2 {s with heap:=h₂.push {cls:=.type "method",data:=.fields #[.ref f2,.ref a]},toks:=s.toks+1} [Value.ref a] I5.kIn (by rw[a0O];exact hl)
  rw[a0O] at b
  refine codeAny_mono (F2.run X.A X.stack _ H ⟨[Value.ref a],[]⟩ [Value.ref a] [V.ref a] (fun v H1=>gName i v σ H1 (tr Dd)) (WE W σ) (hr.mono hk) I5.env0 b r2 hq) fun r s' hq=>?_
  cases r with
  | error e=>exact passAt tk σ _ _ _ e s' I5 hq
  | ok fl=>
   cases fl with
   | ret u=>
    obtain⟨v,H',I6,rv,q3⟩:=I5.after hq
    have I7:Inv X pins σ H' s':=I6.pins_of fun p hp=>I6.pin p (a0M _ (a0K _ hp))
    exact store_ok I7 Q_ hi1 hx1 rv (fun s2 I8=>⟨_,H',I8,q3⟩) hf1
   | next=>exact False.elim hq
   | brk=>exact False.elim hq
   | cont=>exact False.elim hq
 have hend:wpAny (model X.prog X.w) X.A (callWith p3 (.ref h₂.objs.size) [] (backTo p3 (starEach [] X.env)) []) (fun v s₁=>wpAny (model X.prog X.w) X.A (storeName X.env x1 v) (fun _ s'=>SP X pins {Dd with nx:=tr Dd} .next s') X.xe s₁) X.xe {s with heap:=h₂.push {cls:=.type "method",data:=.fields #[.ref f2,.ref a]},toks:=s.toks+1}:=by
  refine callWith_of (P:=MethP X.K h₂.objs.size f2 (.ref a)) rfl (keeps_M hfn) (PySem.evalArgs_none ?_)
  exact hcall
 refine thn hend fun v s₁ z=>?_
 refine thn z fun _ s' z=>?_
 obtain⟨σ',H',I',q'⟩:=z
 exact wpAt_of_wpAny (hre.run pins s' σ' H' Dd I' q')
end
end DL
namespace AL
open PySem L2 DL PyProof.Rows
section
variable {K:PySem.W.Frag}
theorem Qy {P:Program} {w:World} {mg:Str→Option Value} {base:Heap} {nm qual:Str} {st:Stmt} {D f:Addr} {fd:FuncData} {N:List Str} {x0:Str} {k:Nat} {g:S} (F:lJ P K mg nm qual st D f fd) (sc:qj N x0 (defScope st)) (F':Fn) (hF:∀args h y,F' args h=some y→args.length=[x0].length∧yR N.length g args h=some y)
  (hbody:∀(cda cc:Addr) (A:Around) (outer:List Env) (s:Shared) (H:Hp) (aY:XK),fd.params=defArgs st→Hv P K mg D f cda cc fd→Room k (A.deeper (DL.jZ x0 qual (defScope st) s.heap.objs.size f (.ref cda) cc))→
   ∃t,yW (oK x0 (L2.CX P w) P w K mg base N qual (defScope st) f (.ref cda) cc A outer s H aY) (defBody st) (defBody st) t∧XS K (fun cls d _ H=>aY cls d H) t g) :
  FnOk P w K mg base (L2.CX P w) (k+1) f fd [x0] (aQ K F'):=by
 obtain⟨⟨oc,od,dV,kV,doc,pm,an,cda,cc,ct,osl,ccl,cdd,vs,ccs,file,tf,cl,cld,csl,rfl,lk,hcd,hcode,hvs,hfile,hcell⟩,kp,qY,oJ,top,fL⟩:=F
 refine aeR lk hcd sc hcell (fun vs H Q aY h=>?_) fun A outer s H vs Q aY hr h=>?_
 ·obtain⟨Hb,ι,args,h,y,C,r,e,_⟩:=h
  rw[← Paired.length r];exact(hF args h y e).1
 ·obtain⟨Hb,ι,args,h,y,C,r,e,p⟩:=h
  obtain⟨t,ht,hx⟩:=hbody cda cc A outer s H aY rfl ⟨⟨_,_,_,_,_,_,_,_,_,_,_,_,lk,hcode,hvs,hfile,hcell⟩,qY,oJ,top,fL⟩ hr
  refine⟨t,ht,?_⟩
  obtain⟨z,hz,ez⟩:=a0a.mp (hF args h y e).2
  refine hx ⟨H,Hb,ι⟩ _ _ H [] ⟨Hb,ι,N_ C r⟩ _ z hz ?_
  cases z with
  | nx st=>cases ez;exact fun σ H2 ⟨bK,bL,C2⟩=>p .non H2 ⟨bK,bL,C2.bare.temps fun q hq=>by rw[a0s.mp hq];show Rp K _ _ _;unfold Rp;rfl⟩
  | rn b st=>
   cases ez
   intro σ v H2 C2
   obtain⟨bK,bL,a,u,C2,h1,h2,h3,h4,h5,h6,hz,_⟩:=C2
   exact p v H2 ⟨bK,bL,a,u,C2.bare,h1,h2,h3,h4,h5,h6,hz,fun i c h=>by simp at h⟩
  | bk st=>cases ez
  | ct st=>cases ez
  | ex x st=>
   cases ez
   intro cls d σ H2 X
   obtain⟨bK,bL,dd,vs',C2,rr⟩:=X
   exact p cls d H2 ⟨bK,bL,dd,vs',C2.bare,rr⟩
  | rt r st=>
   intro σ v H2 ⟨bK,bL,C2⟩
   have hv:Rt K σ bL bK r v:=C2.tmp (rt K σ r v) (by simp)
   cases r with
   | d x=>cases ez;exact p v H2 ⟨bK,bL,C2.bare.temps fun q hq=>by rw[a0s.mp hq];exact hv⟩
   | o n=>cases ez;exact p v H2 ⟨bK,bL,C2.bare.temps fun q hq=>by rw[a0s.mp hq];exact hv⟩
   | w i=>
    simp only[endF] at ez
    cases q:st.s[i]? with
    | none=>rw[q] at ez;cases ez
    | some sv=>
     rw[q] at ez
     cases sv with
     | no=>cases ez
     | v r=>cases ez
     | own b=>
      cases ez
      obtain⟨v',e',CO⟩:=C2.take q
      have hv:σ[i]?=some (some v):=hv
      rw[hv] at e';cases e'
      obtain⟨iZ,jo,a,u,C3,h1,h2,h3,h4,h5,h6,hz,_⟩:=CO
      refine p v H2 ⟨iZ,jo,a,u,C3.bare.temps (ts':=[]) (fun q hq=>?_),h1,h2,h3,h4,h5,h6,hz,fun i c h=>?_⟩
      ·cases hq
      ·simp at h
end
end AL
namespace TY
open PySem L2 DL AL PyProof.Rows
section
variable {α ρ:Type} {Fin:ρ→Rs→Prop} {n m:Nat} {p p1:En} {h h1:List Ob} {V:α→D} {B:S} {fo:M R} {u:List Sv→List Sv} {C:Addr} {fs:List Str} {ds:List D} {F:Fn} {nm:Str}
def gM (V:α→D) (h:List Ob) (v:List (Str×α)):Ot×List Ob:=(.ret (.n (.aV (kS v) (dV V v))),h)
theorem qw {zs:List (Str×α)} (ho:EV n p h fo (.d (.ins C fs ds)) u p1 h1) (hn:fs.contains nm=false) (hF:F [.d (.ins C fs ds)] h1=some (gM V h1 zs)):EV n p h (jK C nm F fo aN) (.aV (kS zs) (dV V zs)) u p1 h1:=fun s m=>⟨by
 unfold jK
 rw[cM (ho s m).1]
 have e1:AL.inV ⟨u s,h1⟩ (.d (.ins C fs ds))=some (C,fs,ds.map R.d):=rfl
 simp only[e1]
 have hn':nm∉fs:=by simpa using hn
 rw[a0g ⟨trivial,hn'⟩,cM (show aN ⟨u s,h1⟩=some (.ok [] ⟨u s,h1⟩) from rfl)]
 unfold Bu
 rw[a0g (show [R.d (D.ins C fs ds)].all dX=true from rfl),hF];rfl,(ho s m).2⟩
theorem yj {cs:List (Addr×Fn)} {zs:List (Str×α)} (hc:cs.find? (fun p=>decide (p.1=C))=some (C,F)) (ho:EV n p h fo (.d (.ins C fs ds)) u p1 h1) (hn:fs.contains nm=false) (hF:F [.d (.ins C fs ds)] h1=some (gM V h1 zs)):EV n p h (vR cs nm fo) (.aV (kS zs) (dV V zs)) u p1 h1:=fun s m=>⟨by
 unfold vR
 rw[(ho s m).1]
 have e1:AL.inV ⟨u s,h1⟩ (.d (.ins C fs ds))=some (C,fs,ds.map R.d):=rfl
 simp only[e1,hc]
 exact(qw ho hn hF s m).1,(ho s m).2⟩
theorem acj {xs:List (Str×α)} {fa:M (List R)} (hl:h1[m]?=some (.aV (kS xs) (dV V xs))) (hf:EV n p h fa [.o m,.d (.ty "dict")] u p1 h1):EV n p h (M.of fa ou) (.d (.bl true)) u p1 h1:=fun s mm=>⟨tL (hf s mm).1 (by
 have:snap ⟨u s,h1⟩ (.o m)=some (.aV (kS xs) (dV V xs)):=by show (bF ⟨u s,h1⟩ (.o m)).bind d8=_;rw[show bF ⟨u s,h1⟩ (.o m)=some (.aV (kS xs) (dV V xs)) from hl];rfl
 unfold ou
 simp only[this]
 rfl),(hf s mm).2⟩
end
end TY
set_option maxHeartbeats 2000000
namespace TY
open PySem L2 DL AL PyProof.Rows
structure GD where
 size:Int
abbrev Gk (c:CL) (o:GD):D:=.ins c.Kind ["size"] [D.int o.size]
structure yq where
 size:Int
abbrev xY (c:CL) (o:yq):D:=.ins c.Shown ["size"] [D.int o.size]
structure xZ where
 size:Int
abbrev xM (c:CL) (o:xZ):D:=.ins c.Raised ["size"] [D.int o.size]
structure xO where
 size:Int
abbrev w6 (c:CL) (o:xO):D:=.ins c.Emptied ["size"] [D.int o.size]
structure rY where
 size:Int
abbrev rR (c:CL) (o:rY):D:=.ins c.Counter ["size"] [D.int o.size]
structure pF where
 size:Int
abbrev mG (c:CL) (o:pF):D:=.ins c.Full ["size"] [D.int o.size]
inductive dF where
 | Kind (o:GD)
 | Shown (o:yq)
 | Raised (o:xZ)
 | Emptied (o:xO)
 | Counter (o:rY)
 | Full (o:pF)
abbrev Pq (c:CL):dF→D
 | .Kind o=>Gk c o
 | .Shown o=>xY c o
 | .Raised o=>xM c o
 | .Emptied o=>w6 c o
 | .Counter o=>rR c o
 | .Full o=>mG c o
noncomputable def qb (c:CL):S:=(ao (bT (fM (tF (m7 (aU jJ) (aU jJ) (eC (.int 1)) (eV 1) (eC (.int 10))))) (ao (oH c.BadNumber "number" (aC (eV 1) aN))
 aM) aM)
 (ao (tV [c.Kind,c.Shown,c.Raised,c.Emptied,c.Counter,c.Full] "size" (eV 0) (eV 1))
 aM))
@[irreducible] noncomputable def bU (c:CL):Fn:=(runN 2 2 (qb c))
theorem uF (c:CL):bU c=(runN 2 2 (qb c)):=by unfold bU;rfl
noncomputable def rK (size:Int):Option (Except Err GD):=
 if (!(decide ((1:Int)≤size)&&decide (size≤(10:Int))))=true then kW (D.int size) (.error ⟨.BadNumber,[(D.int size)]⟩)
 else some (.ok ⟨size⟩)
theorem Tn {c:CL} {size:Int} {h:List Ob} {v:Except Err GD}  (e:rK size=some v):qO c c.Kind (bU c) h [.d (D.int size)] (fun r=>[.ins c.Kind ["size"] [.d (D.int r.size)]]) v:=by
 rw[uF]
 exact u6 (p:=[(0,some (.v (.o h.length))),(1,some (.v (.d (D.int size))))]) (dR rfl rfl) rfl  (show J (tQ c h (fun r=>[.ins c.Kind ["size"] [.d (D.int r.size)]])) 2 (qb c) _ (h++[.ins c.Kind [] []]) (rK size) from
 d7 (eZ (cU (lC aJ (aj rfl) fj aJ fj))) (dU (oA (aD (aj rfl) aO) fun s m=>⟨_,rfl⟩))
 (dZ (qF (aj rfl) (aj rfl) (by simp<;>omega) rfl rfl (by trivial) (mJ fun s m=>by exact rfl)))) e
noncomputable def rJ (size:Int):Option (Except Err yq):=
 if (!(decide ((1:Int)≤size)&&decide (size≤(10:Int))))=true then kW (D.int size) (.error ⟨.BadNumber,[(D.int size)]⟩)
 else some (.ok ⟨size⟩)
theorem Tf {c:CL} {size:Int} {h:List Ob} {v:Except Err yq}  (e:rJ size=some v):qO c c.Shown (bU c) h [.d (D.int size)] (fun r=>[.ins c.Shown ["size"] [.d (D.int r.size)]]) v:=by
 rw[uF]
 exact u6 (p:=[(0,some (.v (.o h.length))),(1,some (.v (.d (D.int size))))]) (dR rfl rfl) rfl  (show J (tQ c h (fun r=>[.ins c.Shown ["size"] [.d (D.int r.size)]])) 2 (qb c) _ (h++[.ins c.Shown [] []]) (rJ size) from
 d7 (eZ (cU (lC aJ (aj rfl) fj aJ fj))) (dU (oA (aD (aj rfl) aO) fun s m=>⟨_,rfl⟩))
 (dZ (qF (aj rfl) (aj rfl) (by simp<;>omega) rfl rfl (by trivial) (mJ fun s m=>by exact rfl)))) e
noncomputable def rG (size:Int):Option (Except Err xZ):=
 if (!(decide ((1:Int)≤size)&&decide (size≤(10:Int))))=true then kW (D.int size) (.error ⟨.BadNumber,[(D.int size)]⟩)
 else some (.ok ⟨size⟩)
theorem Tc {c:CL} {size:Int} {h:List Ob} {v:Except Err xZ}  (e:rG size=some v):qO c c.Raised (bU c) h [.d (D.int size)] (fun r=>[.ins c.Raised ["size"] [.d (D.int r.size)]]) v:=by
 rw[uF]
 exact u6 (p:=[(0,some (.v (.o h.length))),(1,some (.v (.d (D.int size))))]) (dR rfl rfl) rfl  (show J (tQ c h (fun r=>[.ins c.Raised ["size"] [.d (D.int r.size)]])) 2 (qb c) _ (h++[.ins c.Raised [] []]) (rG size) from
 d7 (eZ (cU (lC aJ (aj rfl) fj aJ fj))) (dU (oA (aD (aj rfl) aO) fun s m=>⟨_,rfl⟩))
 (dZ (qF (aj rfl) (aj rfl) (by simp<;>omega) rfl rfl (by trivial) (mJ fun s m=>by exact rfl)))) e
noncomputable def rD (size:Int):Option (Except Err xO):=
 if (!(decide ((1:Int)≤size)&&decide (size≤(10:Int))))=true then kW (D.int size) (.error ⟨.BadNumber,[(D.int size)]⟩)
 else some (.ok ⟨size⟩)
theorem S9 {c:CL} {size:Int} {h:List Ob} {v:Except Err xO}  (e:rD size=some v):qO c c.Emptied (bU c) h [.d (D.int size)] (fun r=>[.ins c.Emptied ["size"] [.d (D.int r.size)]]) v:=by
 rw[uF]
 exact u6 (p:=[(0,some (.v (.o h.length))),(1,some (.v (.d (D.int size))))]) (dR rfl rfl) rfl  (show J (tQ c h (fun r=>[.ins c.Emptied ["size"] [.d (D.int r.size)]])) 2 (qb c) _ (h++[.ins c.Emptied [] []]) (rD size) from
 d7 (eZ (cU (lC aJ (aj rfl) fj aJ fj))) (dU (oA (aD (aj rfl) aO) fun s m=>⟨_,rfl⟩))
 (dZ (qF (aj rfl) (aj rfl) (by simp<;>omega) rfl rfl (by trivial) (mJ fun s m=>by exact rfl)))) e
noncomputable def rE (size:Int):Option (Except Err rY):=
 if (!(decide ((1:Int)≤size)&&decide (size≤(10:Int))))=true then kW (D.int size) (.error ⟨.BadNumber,[(D.int size)]⟩)
 else some (.ok ⟨size⟩)
theorem S_ {c:CL} {size:Int} {h:List Ob} {v:Except Err rY}  (e:rE size=some v):qO c c.Counter (bU c) h [.d (D.int size)] (fun r=>[.ins c.Counter ["size"] [.d (D.int r.size)]]) v:=by
 rw[uF]
 exact u6 (p:=[(0,some (.v (.o h.length))),(1,some (.v (.d (D.int size))))]) (dR rfl rfl) rfl  (show J (tQ c h (fun r=>[.ins c.Counter ["size"] [.d (D.int r.size)]])) 2 (qb c) _ (h++[.ins c.Counter [] []]) (rE size) from
 d7 (eZ (cU (lC aJ (aj rfl) fj aJ fj))) (dU (oA (aD (aj rfl) aO) fun s m=>⟨_,rfl⟩))
 (dZ (qF (aj rfl) (aj rfl) (by simp<;>omega) rfl rfl (by trivial) (mJ fun s m=>by exact rfl)))) e
noncomputable def rM (size:Int):Option (Except Err pF):=
 if (!(decide ((1:Int)≤size)&&decide (size≤(10:Int))))=true then kW (D.int size) (.error ⟨.BadNumber,[(D.int size)]⟩)
 else some (.ok ⟨size⟩)
theorem Le {c:CL} {size:Int} {h:List Ob} {v:Except Err pF}  (e:rM size=some v):qO c c.Full (bU c) h [.d (D.int size)] (fun r=>[.ins c.Full ["size"] [.d (D.int r.size)]]) v:=by
 rw[uF]
 exact u6 (p:=[(0,some (.v (.o h.length))),(1,some (.v (.d (D.int size))))]) (dR rfl rfl) rfl  (show J (tQ c h (fun r=>[.ins c.Full ["size"] [.d (D.int r.size)]])) 2 (qb c) _ (h++[.ins c.Full [] []]) (rM size) from
 d7 (eZ (cU (lC aJ (aj rfl) fj aJ fj))) (dU (oA (aD (aj rfl) aO) fun s m=>⟨_,rfl⟩))
 (dZ (qF (aj rfl) (aj rfl) (by simp<;>omega) rfl rfl (by trivial) (mJ fun s m=>by exact rfl)))) e
noncomputable def MJ (c:CL):S:=(ao (yH Hl)
 aM)
@[irreducible] noncomputable def eX (c:CL):Fn:=(runN 1 1 (MJ c))
theorem Tt (c:CL):eX c=(runN 1 1 (MJ c)):=by unfold eX;rfl
noncomputable def rP:Option (List (Str×List (Int×Int))):=some []
theorem wW {c:CL} {r:R} {h:List Ob} {v:List (Str×List (Int×Int))} (e:rP=some v):eX c [r] h=some (gM (vL (aR D.int D.int)) h v):=by
 cases e
 rw[Tt]
 rfl
noncomputable def Eh (c:CL):S:=(ao (jE 1 (jK c.Shown "rows" (eX c) (eV 0) aN))
 (ao (bQ (dh (lQ (jd (aC (iT [c.Kind,c.Shown,c.Raised,c.Emptied,c.Counter,c.Full] "size" (eV 0)) aN)) (gN 2) (M.ret true) (j8 (aC (eV 2) (aC (eV 2) aN))) [2])) (gS (eV 1) (eC (.str "read"))))
 (ao (bV (eV 1))
 aM)))
@[irreducible] noncomputable def uG (c:CL):Fn:=(runN 1 3 (Eh c))
theorem Sw (c:CL):uG c=(runN 1 3 (Eh c)):=by unfold uG;rfl
noncomputable def Ae (self:yq):Option (List (Str×(List (Int×Int)))):=
 (rP).bind fun told=>
 (fQ (0:Int) self.size).bind fun r=>
 (gA (fun state=>some true) (fun state=>some (state,state)) r).bind fun v=>
 (iJ told ("read":Str) v).bind fun cY=>
 some cY
theorem aat {c:CL} {self:yq} {h:List Ob} {v:List (Str×(List (Int×Int)))}  (e:Ae self=some v):uG c [.d ((xY c) self)] h=some (gM (vL (aR D.int D.int)) h v):=by
 rw[Sw]
 exact fn_of (p:=[(0,some (.v (.d ((xY c) self)))),(1,some .no),(2,some .no)]) (dR rfl rfl) rfl  (show J (iz (gM (vL (aR D.int D.int)) h)) 3 (Eh c) _ h (Ae self) from
 bf fun told jy=>
 pA (qw (V:=(vL (aR D.int D.int))) (nm:="rows") (aj rfl) (by trivial) (wW jy)) rfl (bf fun r fV=>
 bf fun v cR=>
 qu (V:=(vL (aR D.int D.int))) (eE (tG (W:=(aR D.int D.int)) cR (kZ fV (aD (jx (aj rfl) (by simp<;>omega) rfl) aO)) (vs1 rfl) (tE rfl (fun _=>rfl)) (fun state=>sX) (fun state=>(eo_some (nQ (aD (aj rfl) (aD (aj rfl) aO)) rfl rfl)))) rfl) aJ rfl rfl rfl fun cY=>
 cO (tM rfl) fun s m=>tH m rfl)) e
noncomputable def DR (c:CL):S:=(ao (jE 1 (jK c.Raised "rows" (eX c) (eV 0) aN))
 (ao (bQ (dh (lQ (jd (aC (iT [c.Kind,c.Shown,c.Raised,c.Emptied,c.Counter,c.Full] "size" (eV 0)) aN)) (gN 2) (M.ret true) (j8 (aC (eV 2) (aC (eB (aU jh) (eB jC (eV 2) (eC (.int 1))) (iT [c.Kind,c.Shown,c.Raised,c.Emptied,c.Counter,c.Full] "size" (eV 0))) aN))) [2])) (gS (eV 1) (eC (.str "add"))))
 (ao (bV (eV 1))
 aM)))
@[irreducible] noncomputable def ux (c:CL):Fn:=(runN 1 3 (DR c))
theorem R5 (c:CL):ux c=(runN 1 3 (DR c)):=by unfold ux;rfl
noncomputable def zW (self:xZ):Option (List (Str×(List (Int×Int)))):=
 (rP).bind fun told=>
 (fQ (0:Int) self.size).bind fun r=>
 (gA (fun state=>some true) (fun state=>(pO (state+(1:Int)) self.size).bind fun v=>some (state,v)) r).bind fun v1=>
 (iJ told ("add":Str) v1).bind fun cY=>
 some cY
theorem ZL {c:CL} {self:xZ} {h:List Ob} {v:List (Str×(List (Int×Int)))}  (e:zW self=some v):ux c [.d ((xM c) self)] h=some (gM (vL (aR D.int D.int)) h v):=by
 rw[R5]
 exact fn_of (p:=[(0,some (.v (.d ((xM c) self)))),(1,some .no),(2,some .no)]) (dR rfl rfl) rfl  (show J (iz (gM (vL (aR D.int D.int)) h)) 3 (DR c) _ h (zW self) from
 bf fun told jy=>
 pA (qw (V:=(vL (aR D.int D.int))) (nm:="rows") (aj rfl) (by trivial) (wW jy)) rfl (bf fun r fV=>
 bf fun v1 lK=>
 qu (V:=(vL (aR D.int D.int))) (eE (tG (W:=(aR D.int D.int)) lK (kZ fV (aD (jx (aj rfl) (by simp<;>omega) rfl) aO)) (vs1 rfl) (tE rfl (fun _=>rfl)) (fun state=>sX) (fun state=>(sV fun v cR=>(eo_some (nQ (aD (aj rfl) (aD (aX (aX (aj rfl) aJ mK) (jx (aj rfl) (by simp<;>omega) rfl) (Bh cR)) aO)) rfl rfl))))) rfl) aJ rfl rfl rfl fun cY=>
 cO (tM rfl) fun s m=>tH m rfl)) e
noncomputable def Dz (c:CL):S:=(ao (jE 1 (jK c.Emptied "rows" (eX c) (eV 0) aN))
 (ao (bQ (dh (lQ (jd (aC (iT [c.Kind,c.Shown,c.Raised,c.Emptied,c.Counter,c.Full] "size" (eV 0)) aN)) (gN 2) (M.ret true) (j8 (aC (eV 2) (aC (eC (.int 0)) aN))) [2])) (gS (eV 1) (eC (.str "take"))))
 (ao (bV (eV 1))
 aM)))
@[irreducible] noncomputable def uo (c:CL):Fn:=(runN 1 3 (Dz c))
theorem RJ (c:CL):uo c=(runN 1 3 (Dz c)):=by unfold uo;rfl
noncomputable def zM (self:xO):Option (List (Str×(List (Int×Int)))):=
 (rP).bind fun told=>
 (fQ (0:Int) self.size).bind fun r=>
 (gA (fun state=>some true) (fun state=>some (state,(0:Int))) r).bind fun v=>
 (iJ told ("take":Str) v).bind fun cY=>
 some cY
theorem Zr {c:CL} {self:xO} {h:List Ob} {v:List (Str×(List (Int×Int)))}  (e:zM self=some v):uo c [.d ((w6 c) self)] h=some (gM (vL (aR D.int D.int)) h v):=by
 rw[RJ]
 exact fn_of (p:=[(0,some (.v (.d ((w6 c) self)))),(1,some .no),(2,some .no)]) (dR rfl rfl) rfl  (show J (iz (gM (vL (aR D.int D.int)) h)) 3 (Dz c) _ h (zM self) from
 bf fun told jy=>
 pA (qw (V:=(vL (aR D.int D.int))) (nm:="rows") (aj rfl) (by trivial) (wW jy)) rfl (bf fun r fV=>
 bf fun v cR=>
 qu (V:=(vL (aR D.int D.int))) (eE (tG (W:=(aR D.int D.int)) cR (kZ fV (aD (jx (aj rfl) (by simp<;>omega) rfl) aO)) (vs1 rfl) (tE rfl (fun _=>rfl)) (fun state=>sX) (fun state=>(eo_some (nQ (aD (aj rfl) (aD aJ aO)) rfl rfl)))) rfl) aJ rfl rfl rfl fun cY=>
 cO (tM rfl) fun s m=>tH m rfl)) e
noncomputable def DK (c:CL):S:=(ao (jE 1 (jK c.Counter "rows" (eX c) (eV 0) aN))
 (ao (bQ (dh (lQ (jd (aC (iT [c.Kind,c.Shown,c.Raised,c.Emptied,c.Counter,c.Full] "size" (eV 0)) aN)) (gN 2) (M.ret true) (j8 (aC (eV 2) (aC (eB (aU jh) (eB jC (eV 2) (eC (.int 1))) (iT [c.Kind,c.Shown,c.Raised,c.Emptied,c.Counter,c.Full] "size" (eV 0))) aN))) [2])) (gS (eV 1) (eC (.str "add"))))
 (ao (bV (eV 1))
 aM)))
@[irreducible] noncomputable def uw (c:CL):Fn:=(runN 1 3 (DK c))
theorem RM (c:CL):uw c=(runN 1 3 (DK c)):=by unfold uw;rfl
noncomputable def DN (self:rY):Option (List (Str×(List (Int×Int)))):=
 (rP).bind fun told=>
 (fQ (0:Int) self.size).bind fun r=>
 (gA (fun state=>some true) (fun state=>(pO (state+(1:Int)) self.size).bind fun v=>some (state,v)) r).bind fun v1=>
 (iJ told ("add":Str) v1).bind fun cY=>
 some cY
theorem ZC {c:CL} {self:rY} {h:List Ob} {v:List (Str×(List (Int×Int)))}  (e:DN self=some v):uw c [.d ((rR c) self)] h=some (gM (vL (aR D.int D.int)) h v):=by
 rw[RM]
 exact fn_of (p:=[(0,some (.v (.d ((rR c) self)))),(1,some .no),(2,some .no)]) (dR rfl rfl) rfl  (show J (iz (gM (vL (aR D.int D.int)) h)) 3 (DK c) _ h (DN self) from
 bf fun told jy=>
 pA (qw (V:=(vL (aR D.int D.int))) (nm:="rows") (aj rfl) (by trivial) (wW jy)) rfl (bf fun r fV=>
 bf fun v1 lK=>
 qu (V:=(vL (aR D.int D.int))) (eE (tG (W:=(aR D.int D.int)) lK (kZ fV (aD (jx (aj rfl) (by simp<;>omega) rfl) aO)) (vs1 rfl) (tE rfl (fun _=>rfl)) (fun state=>sX) (fun state=>(sV fun v cR=>(eo_some (nQ (aD (aj rfl) (aD (aX (aX (aj rfl) aJ mK) (jx (aj rfl) (by simp<;>omega) rfl) (Bh cR)) aO)) rfl rfl))))) rfl) aJ rfl rfl rfl fun cY=>
 cO (tM rfl) fun s m=>tH m rfl)) e
noncomputable def DW (c:CL):S:=(ao (jE 1 (jK c.Counter "rows" (uw c) (eV 0) aN))
 (ao (bQ (dh (lQ (jd (aC (iT [c.Kind,c.Shown,c.Raised,c.Emptied,c.Counter,c.Full] "size" (eV 0)) aN)) (gN 2) (M.ret true) (j8 (aC (eV 2) (aC (eV 2) aN))) [2])) (gS (eV 1) (eC (.str "read"))))
 (ao (bV (eV 1))
 aM)))
@[irreducible] noncomputable def uz (c:CL):Fn:=(runN 1 3 (DW c))
theorem R6 (c:CL):uz c=(runN 1 3 (DW c)):=by unfold uz;rfl
noncomputable def zX (self:rY):Option (List (Str×(List (Int×Int)))):=
 (DN self).bind fun told=>
 (fQ (0:Int) self.size).bind fun r=>
 (gA (fun state=>some true) (fun state=>some (state,state)) r).bind fun v=>
 (iJ told ("read":Str) v).bind fun cY=>
 some cY
theorem ZM {c:CL} {self:rY} {h:List Ob} {v:List (Str×(List (Int×Int)))}  (e:zX self=some v):uz c [.d ((rR c) self)] h=some (gM (vL (aR D.int D.int)) h v):=by
 rw[R6]
 exact fn_of (p:=[(0,some (.v (.d ((rR c) self)))),(1,some .no),(2,some .no)]) (dR rfl rfl) rfl  (show J (iz (gM (vL (aR D.int D.int)) h)) 3 (DW c) _ h (zX self) from
 bf fun told jy=>
 pA (qw (V:=(vL (aR D.int D.int))) (nm:="rows") (aj rfl) (by trivial) (ZC jy)) rfl (bf fun r fV=>
 bf fun v cR=>
 qu (V:=(vL (aR D.int D.int))) (eE (tG (W:=(aR D.int D.int)) cR (kZ fV (aD (jx (aj rfl) (by simp<;>omega) rfl) aO)) (vs1 rfl) (tE rfl (fun _=>rfl)) (fun state=>sX) (fun state=>(eo_some (nQ (aD (aj rfl) (aD (aj rfl) aO)) rfl rfl)))) rfl) aJ rfl rfl rfl fun cY=>
 cO (tM rfl) fun s m=>tH m rfl)) e
noncomputable def D_ (c:CL):S:=(ao (jE 1 (jK c.Full "rows" (eX c) (eV 0) aN))
 (ao (bQ (dh (lQ (jd (aC (iT [c.Kind,c.Shown,c.Raised,c.Emptied,c.Counter,c.Full] "size" (eV 0)) aN)) (gN 2) (M.ret true) (j8 (aC (eV 2) (aC (eC (.int 0)) aN))) [2])) (gS (eV 1) (eC (.str "take"))))
 (ao (bV (eV 1))
 aM)))
@[irreducible] noncomputable def uD (c:CL):Fn:=(runN 1 3 (D_ c))
theorem R7 (c:CL):uD c=(runN 1 3 (D_ c)):=by unfold uD;rfl
noncomputable def z_ (self:pF):Option (List (Str×(List (Int×Int)))):=
 (rP).bind fun told=>
 (fQ (0:Int) self.size).bind fun r=>
 (gA (fun state=>some true) (fun state=>some (state,(0:Int))) r).bind fun v=>
 (iJ told ("take":Str) v).bind fun cY=>
 some cY
theorem Z9 {c:CL} {self:pF} {h:List Ob} {v:List (Str×(List (Int×Int)))}  (e:z_ self=some v):uD c [.d ((mG c) self)] h=some (gM (vL (aR D.int D.int)) h v):=by
 rw[R7]
 exact fn_of (p:=[(0,some (.v (.d ((mG c) self)))),(1,some .no),(2,some .no)]) (dR rfl rfl) rfl  (show J (iz (gM (vL (aR D.int D.int)) h)) 3 (D_ c) _ h (z_ self) from
 bf fun told jy=>
 pA (qw (V:=(vL (aR D.int D.int))) (nm:="rows") (aj rfl) (by trivial) (wW jy)) rfl (bf fun r fV=>
 bf fun v cR=>
 qu (V:=(vL (aR D.int D.int))) (eE (tG (W:=(aR D.int D.int)) cR (kZ fV (aD (jx (aj rfl) (by simp<;>omega) rfl) aO)) (vs1 rfl) (tE rfl (fun _=>rfl)) (fun state=>sX) (fun state=>(eo_some (nQ (aD (aj rfl) (aD aJ aO)) rfl rfl)))) rfl) aJ rfl rfl rfl fun cY=>
 cO (tM rfl) fun s m=>tH m rfl)) e
noncomputable def Ei (c:CL):S:=(ao (jE 1 (jK c.Full "rows" (uD c) (eV 0) aN))
 (ao (bQ (dh (lQ (jd (aC (iT [c.Kind,c.Shown,c.Raised,c.Emptied,c.Counter,c.Full] "size" (eV 0)) aN)) (gN 2) (M.ret true) (j8 (aC (eV 2) (aC (eB (aU jh) (eB jC (eV 2) (eC (.int 1))) (iT [c.Kind,c.Shown,c.Raised,c.Emptied,c.Counter,c.Full] "size" (eV 0))) aN))) [2])) (gS (eV 1) (eC (.str "add"))))
 (ao (bV (eV 1))
 aM)))
@[irreducible] noncomputable def uH (c:CL):Fn:=(runN 1 3 (Ei c))
theorem Sy (c:CL):uH c=(runN 1 3 (Ei c)):=by unfold uH;rfl
noncomputable def Af (self:pF):Option (List (Str×(List (Int×Int)))):=
 (z_ self).bind fun told=>
 (fQ (0:Int) self.size).bind fun r=>
 (gA (fun state=>some true) (fun state=>(pO (state+(1:Int)) self.size).bind fun v=>some (state,v)) r).bind fun v1=>
 (iJ told ("add":Str) v1).bind fun cY=>
 some cY
theorem aau {c:CL} {self:pF} {h:List Ob} {v:List (Str×(List (Int×Int)))}  (e:Af self=some v):uH c [.d ((mG c) self)] h=some (gM (vL (aR D.int D.int)) h v):=by
 rw[Sy]
 exact fn_of (p:=[(0,some (.v (.d ((mG c) self)))),(1,some .no),(2,some .no)]) (dR rfl rfl) rfl  (show J (iz (gM (vL (aR D.int D.int)) h)) 3 (Ei c) _ h (Af self) from
 bf fun told jy=>
 pA (qw (V:=(vL (aR D.int D.int))) (nm:="rows") (aj rfl) (by trivial) (Z9 jy)) rfl (bf fun r fV=>
 bf fun v1 lK=>
 qu (V:=(vL (aR D.int D.int))) (eE (tG (W:=(aR D.int D.int)) lK (kZ fV (aD (jx (aj rfl) (by simp<;>omega) rfl) aO)) (vs1 rfl) (tE rfl (fun _=>rfl)) (fun state=>sX) (fun state=>(sV fun v cR=>(eo_some (nQ (aD (aj rfl) (aD (aX (aX (aj rfl) aJ mK) (jx (aj rfl) (by simp<;>omega) rfl) (Bh cR)) aO)) rfl rfl))))) rfl) aJ rfl rfl rfl fun cY=>
 cO (tM rfl) fun s m=>tH m rfl)) e
noncomputable def Ek (c:CL):S:=(ao (jE 1 (jK c.Full "rows" (uH c) (eV 0) aN))
 (ao (bQ (dh (lQ (jd (aC (iT [c.Kind,c.Shown,c.Raised,c.Emptied,c.Counter,c.Full] "size" (eV 0)) aN)) (gN 2) (M.ret true) (j8 (aC (eV 2) (aC (eV 2) aN))) [2])) (gS (eV 1) (eC (.str "read"))))
 (ao (bV (eV 1))
 aM)))
@[irreducible] noncomputable def uJ (c:CL):Fn:=(runN 1 3 (Ek c))
theorem SJ (c:CL):uJ c=(runN 1 3 (Ek c)):=by unfold uJ;rfl
noncomputable def Ah (self:pF):Option (List (Str×(List (Int×Int)))):=
 (Af self).bind fun told=>
 (fQ (0:Int) self.size).bind fun r=>
 (gA (fun state=>some true) (fun state=>some (state,state)) r).bind fun v=>
 (iJ told ("read":Str) v).bind fun cY=>
 some cY
theorem aax {c:CL} {self:pF} {h:List Ob} {v:List (Str×(List (Int×Int)))}  (e:Ah self=some v):uJ c [.d ((mG c) self)] h=some (gM (vL (aR D.int D.int)) h v):=by
 rw[SJ]
 exact fn_of (p:=[(0,some (.v (.d ((mG c) self)))),(1,some .no),(2,some .no)]) (dR rfl rfl) rfl  (show J (iz (gM (vL (aR D.int D.int)) h)) 3 (Ek c) _ h (Ah self) from
 bf fun told jy=>
 pA (qw (V:=(vL (aR D.int D.int))) (nm:="rows") (aj rfl) (by trivial) (aau jy)) rfl (bf fun r fV=>
 bf fun v cR=>
 qu (V:=(vL (aR D.int D.int))) (eE (tG (W:=(aR D.int D.int)) cR (kZ fV (aD (jx (aj rfl) (by simp<;>omega) rfl) aO)) (vs1 rfl) (tE rfl (fun _=>rfl)) (fun state=>sX) (fun state=>(eo_some (nQ (aD (aj rfl) (aD (aj rfl) aO)) rfl rfl)))) rfl) aJ rfl rfl rfl fun cY=>
 cO (tM rfl) fun s m=>tH m rfl)) e
noncomputable def mZ (c:CL):List (Addr×Fn):=[(c.Kind,eX c),(c.Shown,uG c),(c.Raised,ux c),(c.Emptied,uo c),(c.Counter,uz c),(c.Full,uJ c)]
def CL.Kd (c:CL):Prop:=[c.Kind,c.Shown,c.Raised,c.Emptied,c.Counter,c.Full].Nodup
noncomputable def Av:dF→Option (List (Str×List (Int×Int)))
 | .Kind o=>rP
 | .Shown o=>Ae o
 | .Raised o=>zW o
 | .Emptied o=>zM o
 | .Counter o=>zX o
 | .Full o=>Ah o
theorem Uk {c:CL} (kd:c.Kd) {k:dF} {zs:List (Str×List (Int×Int))} {n:Nat} {p p1:En} {h h1:List Ob} {fo:M R} {u:List Sv→List Sv} (hv:Av k=some zs) (ho:EV n p h fo (.d (Pq c k)) u p1 h1):EV n p h (vR (mZ c) "rows" fo) (.aV (kS zs) (dV (vL (aR D.int D.int)) zs)) u p1 h1:=by
 have hk:=kd
 unfold CL.Kd at hk
 simp only[a0Y,a0c,a0Z,or_false,not_or,not_false_eq_true,List.nodup_nil,and_true] at hk
 obtain⟨⟨a1,a2,a3,a4,a5⟩,⟨b1,b2,b3,b4⟩,⟨c1,c2,c3⟩,⟨d1,d2⟩,e1⟩:=hk
 cases k with
 | Kind o=>exact yj (nm:="rows") (F:=eX c) (by unfold mZ;simp[a0B, *]) ho (by trivial) (wW hv)
 | Shown o=>exact yj (nm:="rows") (F:=uG c) (by unfold mZ;simp[a0B, *]) ho (by trivial) (aat hv)
 | Raised o=>exact yj (nm:="rows") (F:=ux c) (by unfold mZ;simp[a0B, *]) ho (by trivial) (ZL hv)
 | Emptied o=>exact yj (nm:="rows") (F:=uo c) (by unfold mZ;simp[a0B, *]) ho (by trivial) (Zr hv)
 | Counter o=>exact yj (nm:="rows") (F:=uz c) (by unfold mZ;simp[a0B, *]) ho (by trivial) (ZM hv)
 | Full o=>exact yj (nm:="rows") (F:=uJ c) (by unfold mZ;simp[a0B, *]) ho (by trivial) (aax hv)
end TY
set_option maxHeartbeats 2000000
namespace TY
open PySem L2 DL AL PyProof.Rows
noncomputable def Ew (c:CL):S:=(ao (bV (CQ (M.of (aC (eV 0) (aC (eC (.ty "int")) aN)) ou) (H_ (M.of (aC (eV 0) (aC (eC (.ty "bool")) aN)) ou))))
 aM)
@[irreducible] noncomputable def uN (c:CL):Fn:=(runN 1 1 (Ew c))
theorem Tq (c:CL):uN c=(runN 1 1 (Ew c)):=by unfold uN;rfl
noncomputable def wR (told:Int):Option Bool:=
 some (true&&(!false))
theorem TX {c:CL} {told:Int} {h:List Ob} {v:Bool}  (e:wR told=some v):uN c [.d (D.int told)] h=some (outD D.bl h v):=by
 rw[Tq]
 exact fn_of (p:=[(0,some (.v (.d (D.int told))))]) (dR rfl rfl) rfl  (show J (iz (outD D.bl h)) 1 (Ew c) _ h (wR told) from
 cO (afR (Gx (aD (aj rfl) (aD aJ aO)) rfl rfl) (afQ (Gx (aD (aj rfl) (aD aJ aO)) rfl rfl))) fun s m=>rfl) e
noncomputable def Fd (c:CL):S:=(ao (bT (tF (eB (aU (kEq false)) (eV 0) (eC (.str "read")))) (ao (bV (j8 (aC (eV 1) (aC (eV 1) aN))))
 aM) aM)
 (ao (bT (tF (eB (aU (kEq false)) (eV 0) (eC (.str "add")))) (ao (bV (j8 (aC (eV 1) (aC (eB (aU jh) (M.of (aC (eB jC (eV 1) (eC (.int 1))) aN) jD) (eV 2)) aN))))
 aM) aM)
 (ao (bV (j8 (aC (eV 1) (aC (eC (.int 0)) aN))))
 aM)))
@[irreducible] noncomputable def rW (c:CL):Fn:=(runN 3 3 (Fd c))
theorem TF (c:CL):rW c=(runN 3 3 (Fd c)):=by unfold rW;rfl
noncomputable def xg (name:Str) (state:Int) (size:Int):Option (Int×Int):=
 if (decide (name=("read":Str)))=true then some (state,state)
 else if (decide (name=("add":Str)))=true then(pO (state+(1:Int)) size).bind fun v=>
 some (state,v)
 else some (state,(0:Int))
theorem Ul {c:CL} {name:Str} {state:Int} {size:Int} {h:List Ob} {v:Int×Int}  (e:xg name state size=some v):rW c [.d (D.str name),.d (D.int state),.d (D.int size)] h=some (outD (aR D.int D.int) h v):=by
 rw[TF]
 exact fn_of (p:=[(0,some (.v (.d (D.str name)))),(1,some (.v (.d (D.int state)))),(2,some (.v (.d (D.int size))))]) (dR rfl rfl) rfl  (show J (iz (outD (aR D.int D.int) h)) 3 (Fd c) _ h (xg name state size) from
 d7 (cU (aX (aj rfl) aJ Wi)) (dU (cO (nQ (aD (aj rfl) (aD (aj rfl) aO)) rfl rfl) fun s m=>rfl))
 (dZ (d7 (cU (aX (aj rfl) aJ Wi)) (dU (bf fun v cR=>
 cO (nQ (aD (aj rfl) (aD (aX (pB (aD (aX (aj rfl) aJ mK) aO)) (aj rfl) (Bh cR)) aO)) rfl rfl) fun s m=>rfl))
 (dZ (cO (nQ (aD (aj rfl) (aD aJ aO)) rfl rfl) fun s m=>rfl))))) e
noncomputable def Fe (c:CL):S:=(ao (bT (kE (fM (tR (M.of (aC (eV 0) (aC (eC (.ty "dict")) aN)) ou))) (tF (eB (aU (kEq true)) (dh (M.of (aC (eV 0) aN) kList)) (eV 1)))) (ao (bV (eC (.bl false)))
 aM) aM)
 (ao (ji (wL (eV 1)) (gN 3) (ao (bT (kE (fM (tR (M.of (aC (eB bY (eV 0) (eV 3)) (aC (eC (.ty "list")) aN)) ou))) (tF (eB (aU (kEq true)) (M.of (aC (eB bY (eV 0) (eV 3)) aN) fZ) (eV 2)))) (ao (bV (eC (.bl false)))
 aM) aM)
 (ao (ji (jd (aC (eV 2) aN)) (gN 4) (ao (bQ (eB bY (eB bY (eV 0) (eV 3)) (eV 4)) (gN 5))
 (ao (bT (kE (fM (tR (M.of (aC (eV 5) (aC (eC (.ty "tuple")) aN)) ou))) (tF (eB (aU (kEq true)) (eV 5) (lB (rW c) (aC (eV 3) (aC (eV 4) (aC (eV 2) aN))))))) (ao (bV (eC (.bl false)))
 aM) aM)
 (ao (bT (kE (fM (tR (lB (uN c) (aC (eB bY (eV 5) (eC (.int 0))) aN)))) (fM (tR (lB (uN c) (aC (eB bY (eV 5) (eC (.int 1))) aN))))) (ao (bV (eC (.bl false)))
 aM) aM)
 aM))))
 aM)))
 (ao (bV (eC (.bl true)))
 aM)))
@[irreducible] noncomputable def xq (c:CL):Fn:=(runN 3 6 (Fe c))
theorem TJ (c:CL):xq c=(runN 3 6 (Fe c)):=by unfold xq;rfl
noncomputable def Ao (rows:List (Str×(List (Int×Int)))) (names:List Str) (size:Int):Option Bool:=
 (t_ (!true) ((fG ((vL D.str) (rows.map (·.1))) ((vL D.str) names)).bind fun q=>some (!q))).bind fun b=>
 if b=true then some false
 else cJ (cV (fun name s_=>
 (iU rows name).bind fun v=>
 if ((!true) || (!decide ((v.length:Int)=size)))=true then some (.rt false)
 else(fQ (0:Int) size).bind fun r=>
 cJ (cV (fun state s_1=>
 (atI v state).bind fun pair=>
 (t_ (!true) ((xg name state size).bind fun v1=>(fG ((aR D.int D.int) pair) ((aR D.int D.int) v1)).bind fun q1=>some (!q1))).bind fun b1=>
 if b1=true then some (.rt (.rt false))
 else(wR pair.1).bind fun v2=>
 (t_ (!v2) ((wR pair.2).bind fun v3=>some (!v3))).bind fun b2=>
 if b2=true then some (.rt (.rt false))
 else some (.nx ())) r ()) fun s_2=>
 some (.nx ())) names ()) fun qX=>
 some true
theorem abv {c:CL} {rows:List (Str×(List (Int×Int)))} {O7:Nat} {names:List Str} {size:Int} {h:List Ob} {v:Bool} (Bp:h[O7]?=some (.aV (kS rows) (dV (vL (aR D.int D.int)) rows))) (e:Ao rows names size=some v):xq c [.o O7,.d ((vL D.str) names),.d (D.int size)] h=some ((outD D.bl h) v):=by
 rw[TJ]
 exact fn_of (p:=[(0,some (.v (.o O7))),(1,some (.v (.d ((vL D.str) names)))),(2,some (.v (.d (D.int size)))),(3,some .no),(4,some .no),(5,some .no)]) (dR rfl rfl) rfl (show J (iz (outD D.bl h)) 6 (Fe c) _ h (Ao rows names size) from
 bf fun b Q9=>
 d7 (Gf Q9 (eZ (n_ (acj (V:=(vL (aR D.int D.int))) Bp (aD (aj rfl) (aD aJ aO))) oE)) (sV fun q wz=>(eo_some (cU (aX (eE (abJ Bp (aD (aj rfl) aO)) rfl) (aj rfl) (O2 wz)))))) (dU (cO aJ fun s m=>rfl))
 (dZ (sW (α:=Unit) (pre:=fun s_=>[(3,none),(4,none),(5,none)]) (hp:=fun s_=>h) (a0:=()) (Pj (V:=D.str) (aj rfl)) (bO (bO (bO b_))) (pN rfl (fun _=>rfl)) (fun name s_=>
 bf fun v cR=>
 d7 (OD (eZ (n_ (Gx (aD (aX (aj rfl) (aj rfl) (Oj (V:=(vL (aR D.int D.int))) Bp cR)) (aD aJ aO)) rfl rfl) oE)) (cU (aX (Oe (V:=(aR D.int D.int)) (aD (aX (aj rfl) (aj rfl) (Oj (V:=(vL (aR D.int D.int))) Bp cR)) aO)) (aj rfl) OJ))) (dU (cO aJ fun s m=>⟨rfl,rfl⟩))
 (dZ (bf fun r fV=>
 sW (α:=Unit) (pre:=fun s_1=>[(4,none),(5,none)]) (hp:=fun s_1=>h) (a0:=()) (kZ fV (aD (aj rfl) aO)) (bO (bO b_)) (pN rfl (fun _=>rfl)) (fun state s_1=>
 bf fun pair aeS=>
 jY (aX (aX (aj rfl) (aj rfl) (Oj (V:=(vL (aR D.int D.int))) Bp cR)) (aj rfl) (nR (V:=(aR D.int D.int)) aeS)) rfl rfl (bf fun b1 agQ=>
 d7 (Gf agQ (eZ (n_ (Gx (aD (aj rfl) (aD aJ aO)) rfl rfl) oE)) (sV fun v1 lK=>(sV fun q1 Qz=>(eo_some (cU (aX (aj rfl) (ev_call (aD (aj rfl) (aD (aj rfl) (aD (aj rfl) aO))) rfl (Ul lK)) (O2 Qz))))))) (dU (cO aJ fun s m=>⟨⟨rfl,rfl⟩,rfl⟩))
 (dZ (bf fun v2 Cz=>
 bf fun b2 agR=>
 d7 (Gf agR (eZ (n_ (ev_call (aD (aX (aj rfl) aJ (fun _ _=>Oz rfl)) aO) rfl (TX Cz)) oE)) (sV fun v3 QC=>(eo_some (eZ (n_ (ev_call (aD (aX (aj rfl) aJ (fun _ _=>Oz rfl)) aO) rfl (TX QC)) oE))))) (dU (cO aJ fun s m=>⟨⟨rfl,rfl⟩,rfl⟩))
 (dZ (qp (bO (bO (nj 4 rfl rfl))) rfl)))))) fun s_2=>
 qp (bO (bO (bO (nj 6 rfl rfl)))) rfl))) fun qX=>
 cO aJ fun s m=>rfl))) e
noncomputable def Eu (c:CL):S:=(ao (vM (ao (bT (tF (eB (aU (kEq false)) (eV 0) (eC (.int 0)))) (ao (jX (iI c.Kind (bU c) [] (aC (eV 1) aN)))
 aM) (ao (bT (tF (eB (aU (kEq false)) (eV 0) (eC (.int 1)))) (ao (jX (iI c.Shown (bU c) [] (aC (eV 1) aN)))
 aM) (ao (bT (tF (eB (aU (kEq false)) (eV 0) (eC (.int 2)))) (ao (jX (iI c.Raised (bU c) [] (aC (eV 1) aN)))
 aM) (ao (bT (tF (eB (aU (kEq false)) (eV 0) (eC (.int 3)))) (ao (jX (iI c.Emptied (bU c) [] (aC (eV 1) aN)))
 aM) (ao (bT (tF (eB (aU (kEq false)) (eV 0) (eC (.int 4)))) (ao (jX (iI c.Counter (bU c) [] (aC (eV 1) aN)))
 aM) (ao (jX (iI c.Full (bU c) [] (aC (eV 1) aN)))
 aM))
 aM))
 aM))
 aM))
 aM))
 aM) (⟨c.m .BadNumber,(some 2),fun x a d=>(ao (bV (eB (aU (kEq false)) (if x.C=c.BadNumber then QZ a c.BadNumber d "number" (eV 2) else Wc) (eV 1)))
 aM)⟩::[]))
 (ao (bV (eC (.bl false)))
 aM))
@[irreducible] noncomputable def wN (c:CL):Fn:=(runN 2 3 (Eu c))
theorem Tg (c:CL):wN c=(runN 2 3 (Eu c)):=by unfold wN;rfl
noncomputable def Ak (c:CL) (at_:Int) (size:Int):Option Bool:=
 cJ (α:=Unit) (Cq c (cJ (if (decide (at_=(0:Int)))=true then oh (rK size) (fun er=>(.rt (.rt (.inr er)))) fun v=>
 some (.nx ()) else cJ (if (decide (at_=(1:Int)))=true then oh (rJ size) (fun er=>(.rt (.rt (.rt (.inr er))))) fun v1=>
 some (.nx ()) else cJ (if (decide (at_=(2:Int)))=true then oh (rG size) (fun er=>(.rt (.rt (.rt (.rt (.inr er)))))) fun v2=>
 some (.nx ()) else cJ (if (decide (at_=(3:Int)))=true then oh (rD size) (fun er=>(.rt (.rt (.rt (.rt (.rt (.inr er))))))) fun v3=>
 some (.nx ()) else cJ (if (decide (at_=(4:Int)))=true then oh (rE size) (fun er=>(.rt (.rt (.rt (.rt (.rt (.rt (.inr er)))))))) fun v4=>
 some (.nx ()) else oh (rM size) (fun er=>(.rt (.rt (.rt (.rt (.rt (.rt (.inr er)))))))) fun v5=>
 some (.nx ())) fun s_=>
 some (.nx ())) fun s_1=>
 some (.nx ())) fun s_2=>
 some (.nx ())) fun qX=>
 some (.nx ())) fun Rf=>
 some (.nx ())) (fun er=>
  CW .BadNumber er (fun es=>(es[0]?).bind fun v6=>(fG ((fun d=>d) v6) (D.int size)).bind fun q=>some (.rt q))
  (none))) fun Ir=>
 some false
theorem aaR {c:CL} {at_:Int} {size:Int} {h:List Ob} {v:Bool} (ok:c.Ok)  (e:Ak c at_ size=some v):wN c [.d (D.int at_),.d (D.int size)] h=some (outD D.bl h v):=by
 rw[Tg]
 exact fn_of (p:=[(0,some (.v (.d (D.int at_)))),(1,some (.v (.d (D.int size)))),(2,some .no)]) (dR rfl rfl) rfl  (show J (iz (outD D.bl h)) 3 (Eu c) _ h (Ak c at_ size) from
 afY (cl:=c) (hv:=[]) (α:=Unit) (pre:=fun Ir=>[]) (hp:=fun Ir=>h) (h1:=h) (Bv (α:=Unit) (pre:=fun Rf=>[]) (hp:=fun Rf=>h) (cU (aX (aj rfl) aJ Bo)) (yh (jQ (V:=(Gk c)) (aD (aj rfl) aO) rfl (fun _ hv=>Tn hv) (fun _=>rfl)) (fun er s m=>⟨⟨s,m.sub b_,rfl⟩,rfl⟩) fun v=>
 o7 b_ rfl) (Bv (α:=Unit) (pre:=fun qX=>[]) (hp:=fun qX=>h) (cU (aX (aj rfl) aJ Bo)) (yh (jQ (V:=(xY c)) (aD (aj rfl) aO) rfl (fun _ hv=>Tf hv) (fun _=>rfl)) (fun er s m=>⟨⟨⟨s,m.sub b_,rfl⟩,rfl⟩,rfl⟩) fun v1=>
 o7 b_ rfl) (Bv (α:=Unit) (pre:=fun s_2=>[]) (hp:=fun s_2=>h) (cU (aX (aj rfl) aJ Bo)) (yh (jQ (V:=(xM c)) (aD (aj rfl) aO) rfl (fun _ hv=>Tc hv) (fun _=>rfl)) (fun er s m=>⟨⟨⟨⟨s,m.sub b_,rfl⟩,rfl⟩,rfl⟩,rfl⟩) fun v2=>
 o7 b_ rfl) (Bv (α:=Unit) (pre:=fun s_1=>[]) (hp:=fun s_1=>h) (cU (aX (aj rfl) aJ Bo)) (yh (jQ (V:=(w6 c)) (aD (aj rfl) aO) rfl (fun _ hv=>S9 hv) (fun _=>rfl)) (fun er s m=>⟨⟨⟨⟨⟨s,m.sub b_,rfl⟩,rfl⟩,rfl⟩,rfl⟩,rfl⟩) fun v3=>
 o7 b_ rfl) (Bv (α:=Unit) (pre:=fun s_=>[]) (hp:=fun s_=>h) (cU (aX (aj rfl) aJ Bo)) (yh (jQ (V:=(rR c)) (aD (aj rfl) aO) rfl (fun _ hv=>S_ hv) (fun _=>rfl)) (fun er s m=>⟨⟨⟨⟨⟨⟨s,m.sub b_,rfl⟩,rfl⟩,rfl⟩,rfl⟩,rfl⟩,rfl⟩) fun v4=>
 o7 b_ rfl) (yh (jQ (V:=(mG c)) (aD (aj rfl) aO) rfl (fun _ hv=>Le hv) (fun _=>rfl)) (fun er s m=>⟨⟨⟨⟨⟨⟨s,m.sub b_,rfl⟩,rfl⟩,rfl⟩,rfl⟩,rfl⟩,rfl⟩) fun v5=>
 o7 b_ rfl) fun s_=>
 o7 b_ rfl) fun s_1=>
 o7 b_ rfl) fun s_2=>
 o7 b_ rfl) fun qX=>
 o7 b_ rfl) fun Rf=>
 ac_ b_ rfl) (fun er hmem=>(aex ok hmem rfl (fun es hm=>Wq fun v6 Hw=>Wq fun q wz=>ada (fun a d=>(aX (adb (af0 rfl (Xh Hw))) (aj rfl) (Wj wz))) rfl (fun s=>⟨rfl,rfl⟩)) adg)) fun Ir=>
 cO aJ fun s m=>rfl) e
noncomputable def Fq (c:CL):S:=(ao (bQ (lB (wZ c) (aC (eV 0) (aC (eC (.int 0)) (aC (eC (.int 14)) aN)))) (gN 1))
 (ao (bQ (eB jC (eC (.int 1)) (eB (aU jh) (M.of (aC (eB bY (eV 1) (eC (.int 0))) aN) jD) (eC (.int 10)))) (gN 2))
 (ao (bQ (dh (iy (aC (iI c.Kind (bU c) [] (aC (eV 2) aN)) (aC (iI c.Shown (bU c) [] (aC (eV 2) aN)) (aC (iI c.Raised (bU c) [] (aC (eV 2) aN)) (aC (iI c.Emptied (bU c) [] (aC (eV 2) aN)) (aC (iI c.Counter (bU c) [] (aC (eV 2) aN)) (aC (iI c.Full (bU c) [] (aC (eV 2) aN)) aN)))))))) (gN 3))
 (ao (bQ (dh (iy (aC (dh (iy aN)) (aC (dh (iy (aC (eC (.str "read")) aN))) (aC (dh (iy (aC (eC (.str "add")) aN))) (aC (dh (iy (aC (eC (.str "take")) aN))) (aC (dh (iy (aC (eC (.str "add")) (aC (eC (.str "read")) aN)))) (aC (dh (iy (aC (eC (.str "take")) (aC (eC (.str "add")) (aC (eC (.str "read")) aN))))) aN)))))))) (gN 4))
 (ao (ji (jd (aC (eC (.int 6)) aN)) (gN 5) (ao (ji (jd (aC (eC (.int 2)) aN)) (gN 9) (ao (bQ (Ib (vR (mZ c) "rows" (eB bY (eV 3) (eV 5)))) (gN 13))
 (ao (bT (fM (tR (lB (xq c) (aC (eV 13) (aC (eB bY (eV 4) (eV 5)) (aC (eV 2) aN)))))) (ao (bV (eC (.bl false)))
 aM) aM)
 (ao (bQ (dh (iy aN)) (gS (eV 13) (eC (.str "read"))))
 aM))))
 (ao (ji (wL (dh (iy (aC (eC (.int 0)) (aC (eC (.int 11)) (aC (eB (aU Qg) (Hi (eC (.int 1))) (eB (aU jh) (M.of (aC (eB bY (eV 1) (eC (.int 1))) aN) jD) (eC (.int 50)))) (aC (eB jC (eC (.int 11)) (eB (aU jh) (M.of (aC (eB bY (eV 1) (eC (.int 1))) aN) jD) (eC (.int 50)))) aN))))))) (gN 10) (ao (bT (fM (tR (lB (wN c) (aC (eV 5) (aC (eV 10) aN))))) (ao (bV (eC (.bl false)))
 aM) aM)
 aM))
 aM)))
 (ao (bQ (eB (aU jh) (M.of (aC (eB bY (eV 1) (eC (.int 2))) aN) jD) (eV 2)) (gN 6))
 (ao (bQ (iI c.Table (rH c) [] (aC (dh (vR (mZ c) "rows" (iI c.Full (bU c) [] (aC (eV 2) aN)))) (aC (eV 6) aN))) (gN 7))
 (ao (ji (jd (aC (eC (.int 10)) aN)) (gN 8) (ao (bQ (eB bY (dh (iy (aC (eC (.str "take")) (aC (eC (.str "add")) (aC (eC (.str "read")) aN))))) (eB (aU jh) (M.of (aC (eB bY (eV 1) (eB jC (eC (.int 3)) (eV 8))) aN) jD) (eC (.int 3)))) (gN 11))
 (ao (bQ (Ig c.Table (wI c) (eV 7) (aC (eV 11) (aC (eV 6) aN))) (gN 12))
 (ao (bT (tF (eB (aU (kEq true)) (eV 12) (lB (rW c) (aC (eV 11) (aC (eV 6) (aC (eV 2) aN)))))) (ao (bV (eC (.bl false)))
 aM) aM)
 (ao (bQ (eB bY (eV 12) (eC (.int 1))) (gN 6))
 aM)))))
 (ao (bV (eB (aU (kEq false)) (dh (jK c.Table "operations" (wF c) (eV 7) aN)) (dh (iy (aC (eC (.str "take")) (aC (eC (.str "add")) (aC (eC (.str "read")) aN)))))))
 aM)))))))))
@[irreducible] noncomputable def Ax (c:CL):Fn:=vN (runN 1 14 (Fq c))
theorem T5 (c:CL):Ax c=vN (runN 1 14 (Fq c)):=by unfold Ax;rfl
noncomputable def Ay (c:CL) (script:List Int):Option (Except Err Bool):=
 (uP script (0:Int) (14:Int)).bind fun oX=>
 (atI oX (0:Int)).bind fun v=>
 dD ((1:Int)+(v%(10:Int))) fun size=>
 (pU (rK size)).bind fun v1=>
 (pU (rJ size)).bind fun v2=>
 (pU (rG size)).bind fun v3=>
 (pU (rD size)).bind fun v4=>
 (pU (rE size)).bind fun v5=>
 (pU (rM size)).bind fun v6=>
 dD [(dF.Kind v1),(dF.Shown v2),(dF.Raised v3),(dF.Emptied v4),(dF.Counter v5),(dF.Full v6)] fun kinds=>
 dD [([]:List Str),[("read":Str)],[("add":Str)],[("take":Str)],[("add":Str),("read":Str)],[("take":Str),("add":Str),("read":Str)]] fun names=>
 (fQ (0:Int) (6:Int)).bind fun r=>
 cJ (cV (fun at_ h_=>
 (fQ (0:Int) (2:Int)).bind fun r1=>
 cJ (cV (fun turn h_1=>
 (atI kinds at_).bind fun v7=>
 (Av v7).bind fun rows=>
 dD (h_1++[.aV (kS rows) (dV (vL (aR D.int D.int)) rows)]) fun h_2=>
 (C_ (vL (aR D.int D.int)) h_2 h_1.length).bind fun Pr=>
 (atI names at_).bind fun v8=>
 (Ao Pr v8 size).bind fun v9=>
 if (!v9)=true then some (.rt (.rt (.ok false)))
 else(iJ Pr ("read":Str) ([]:List (Int×Int))).bind fun Pu=>
 dD (h_2.set h_1.length (.aV (kS Pu) (dV (vL (aR D.int D.int)) Pu))) fun h_3=>
 some (.nx h_3)) r1 h_) fun h_4=>
 (atI oX (1:Int)).bind fun v10=>
 cJ (cV (fun bad s_=>
 (Ak c at_ bad).bind fun v11=>
 if (!v11)=true then some (.rt (.rt (.ok false)))
 else some (.nx ())) [(0:Int),(11:Int),(-(1:Int))-(v10%(50:Int)),(11:Int)+(v10%(50:Int))] ()) fun s_1=>
 some (.nx h_4)) r ([]:List Ob)) fun Yx=>
 (atI oX (2:Int)).bind fun Il=>
 (pO Il size).bind fun state=>
 (Av (dF.Full v6)).bind fun ug=>
 oh (Ai ug state) (fun er=>(.error er)) fun table=>
 (fQ (0:Int) (10:Int)).bind fun r2=>
 cJ (cV (fun k state1=>
 (atI oX ((3:Int)+k)).bind fun zB=>
 (atI [("take":Str),("add":Str),("read":Str)] (zB%(3:Int))).bind fun name=>
 oh (Ep table name state1) (fun er=>(.rt (.error er))) fun pair=>
 (xg name state1 size).bind fun Im=>
 (fG ((aR D.int D.int) pair) ((aR D.int D.int) Im)).bind fun q=>
 if (!q)=true then some (.rt (.ok false))
 else some (.nx pair.2)) r2 state) fun state2=>
 (Ef table).bind fun Io=>
 (fG ((vL D.str) Io) ((vL D.str) [("take":Str),("add":Str),("read":Str)])).bind fun q1=>
 some (.ok q1)
theorem abK {c:CL} (uh:c.Kd) {script:List Int} {v:Except Err Bool} (ok:c.Ok) (e:Ay c script=some v):Ax c [.d (D.dG script)] []=some ((qN c D.bl []) v):=by
 rw[T5]
 exact aey (p:=[(0,some (.v (.d (D.dG script)))),(1,some .no),(2,some .no),(3,some .no),(4,some .no),(5,some .no),(6,some .no),(7,some .no),(8,some .no),(9,some .no),(10,some .no),(11,some .no),(12,some .no),(13,some .no)]) (dR rfl rfl) rfl adf (show J (X7 [] (qN c D.bl [])) 14 (Fq c) _ [] (Ay c script) from
 bf fun oX abw=>
 jY (ev_call (aD (aj rfl) (aD aJ (aD aJ aO))) rfl (abp abw)) rfl rfl (bf fun v cR=>
 Cp (V:=fun x=>.d (D.int x)) (aX aJ (aX (pB (aD (aX (aj rfl) aJ (nR (V:=D.int) cR)) aO)) aJ (uV rfl)) mK) rfl rfl fun size=>
 bf fun v1 lK=>
 bf fun v2 Cz=>
 bf fun v3 QC=>
 bf fun v4 agS=>
 bf fun v5 agT=>
 bf fun v6 Hw=>
 Cp (V:=fun x=>.d ((vL (Pq c)) x)) (eE (lu (aD (vp (V:=(Gk c)) lK (jQ (V:=(Gk c)) (aD (aj rfl) aO) rfl (fun _ hv=>Tn hv) (fun _=>rfl))) (aD (vp (V:=(xY c)) Cz (jQ (V:=(xY c)) (aD (aj rfl) aO) rfl (fun _ hv=>Tf hv) (fun _=>rfl))) (aD (vp (V:=(xM c)) QC (jQ (V:=(xM c)) (aD (aj rfl) aO) rfl (fun _ hv=>Tc hv) (fun _=>rfl))) (aD (vp (V:=(w6 c)) agS (jQ (V:=(w6 c)) (aD (aj rfl) aO) rfl (fun _ hv=>S9 hv) (fun _=>rfl))) (aD (vp (V:=(rR c)) agT (jQ (V:=(rR c)) (aD (aj rfl) aO) rfl (fun _ hv=>S_ hv) (fun _=>rfl))) (aD (vp (V:=(mG c)) Hw (jQ (V:=(mG c)) (aD (aj rfl) aO) rfl (fun _ hv=>Le hv) (fun _=>rfl))) aO)))))) rfl rfl) rfl) rfl rfl fun kinds=>
 Cp (V:=fun x=>.d ((vL (vL D.str)) x)) (eE (lu (aD (VG (V:=D.str)) (aD (eE (lu (aD aJ aO) rfl rfl) rfl) (aD (eE (lu (aD aJ aO) rfl rfl) rfl) (aD (eE (lu (aD aJ aO) rfl rfl) rfl) (aD (eE (lu (aD aJ (aD aJ aO)) rfl rfl) rfl) (aD (eE (lu (aD aJ (aD aJ (aD aJ aO))) rfl rfl) rfl) aO)))))) rfl rfl) rfl) rfl rfl fun names=>
 bf fun r fV=>
 sW (α:=(List Ob)) (pre:=fun h_=>[(5,none),(9,none),(13,none),(10,none)]) (hp:=fun h_=>h_) (a0:=([]:List Ob)) (kZ fV (aD aJ aO)) (bO (bO (bO (bO b_)))) (pN rfl (fun _=>rfl)) (fun at_ h_=>
 bf fun r1 agU=>
 sW (α:=(List Ob)) (pre:=fun h_1=>[(9,none),(13,none)]) (hp:=fun h_1=>h_1) (a0:=h_) (kZ agU (aD aJ aO)) (bO (bO b_)) (pN rfl (fun _=>rfl)) (fun turn h_1=>
 bf fun v7 agV=>
 bf fun rows aeT=>
 jY (af3 ((fun hv=>Uk uh hv (aX (aj rfl) (aj rfl) (nR (V:=(Pq c)) agV))) aeT) rfl) rfl rfl (Ww fun h_2=>
 bf fun Pr VR=>
 bf fun v8 agW=>
 bf fun v9 agX=>
 d7 (eZ (n_ (ev_call (aD (aj rfl) (aD (aX (aj rfl) (aj rfl) (nR (V:=(vL D.str)) agW)) (aD (aj rfl) aO))) rfl (abv (Wu VR) agX)) oE)) (dU (cO aJ fun s m=>⟨⟨⟨_,rfl,by simp⟩,rfl⟩,rfl⟩))
 (dZ (adw (V:=(vL (aR D.int D.int))) (VG (V:=(aR D.int D.int))) (Wu VR) (aj rfl) aJ fun Pu=>
 Ww fun h_3=>
 qp (bO (bO (nj 4 rfl rfl))) rfl)))) fun h_4=>
 bf fun v10 Xi=>
 sW (α:=Unit) (pre:=fun s_=>[(10,none)]) (hp:=fun s_=>h_4) (a0:=()) (Pj (V:=D.int) (eE (lu (aD aJ (aD aJ (aD (aX (Wh aJ) (aX (pB (aD (aX (aj rfl) aJ (nR (V:=D.int) Xi)) aO)) aJ (uV rfl)) (jf rfl)) (aD (aX aJ (aX (pB (aD (aX (aj rfl) aJ (nR (V:=D.int) Xi)) aO)) aJ (uV rfl)) mK) aO)))) rfl rfl) rfl)) (bO b_) (pN rfl (fun _=>rfl)) (fun bad s_=>
 bf fun v11 af9=>
 d7 (eZ (n_ (ev_call (aD (aj rfl) (aD (aj rfl) aO)) rfl (aaR ok af9)) oE)) (dU (cO aJ fun s m=>⟨⟨⟨_,rfl,by simp⟩,rfl⟩,rfl⟩))
 (dZ (qp (bO (nj 2 rfl rfl)) rfl))) fun s_1=>
 qp (bO (bO (bO (bO (nj 8 rfl rfl))))) rfl) fun Yx=>
 bf fun Il af_=>
 bf fun state adx=>
 jY (aX (pB (aD (aX (aj rfl) aJ (nR (V:=D.int) af_)) aO)) (aj rfl) (Bh adx)) rfl rfl (bf fun ug aga=>
 Xg (jQ (V:=(Bb c)) (aD (eE ((fun hv=>Uk uh hv (vp (V:=(mG c)) Hw (jQ (V:=(mG c)) (aD (aj rfl) aO) rfl (fun _ hv=>Le hv) (fun _=>rfl)))) aga) rfl) (aD (aj rfl) aO)) rfl (fun _ hv=>aaA hv) (fun _=>rfl)) rfl (fun er s m=>⟨_,rfl,by simp⟩) fun table=>
 bf fun r2 agY=>
 sW (α:=Int) (pre:=fun state1=>[(6,some (.v (.d (D.int state1)))),(8,none),(11,none),(12,none)]) (hp:=fun state1=>Yx) (a0:=state) (kZ agY (aD aJ aO)) (gY rfl (bO (bO (bO b_)))) (pN rfl (fun _=>rfl)) (fun k state1=>
 bf fun zB agb=>
 bf fun name aeU=>
 jY (aX (eE (lu (aD aJ (aD aJ (aD aJ aO))) rfl rfl) rfl) (aX (pB (aD (aX (aj rfl) (aX aJ (aj rfl) mK) (nR (V:=D.int) agb)) aO)) aJ (uV rfl)) (nR (V:=D.str) aeU)) rfl rfl (Xg (aeB (V:=(aR D.int D.int)) (aj rfl) (aD (aj rfl) (aD (aj rfl) aO)) rfl fun _ hv=>aaB hv) rfl (fun er s m=>⟨⟨_,rfl,by simp⟩,rfl⟩) fun pair=>
 bf fun Im agc=>
 bf fun q wz=>
 d7 (cU (aX (aj rfl) (ev_call (aD (aj rfl) (aD (aj rfl) (aD (aj rfl) aO))) rfl (Ul agc)) (O2 wz))) (dU (cO aJ fun s m=>⟨⟨_,rfl,by simp⟩,rfl⟩))
 (dZ (jY (aX (aj rfl) aJ (fun _ _=>Oz rfl)) rfl rfl (qp (gY rfl (bO (bO (bO (nj 8 rfl rfl))))) rfl))))) fun state2=>
 bf fun Io agd=>
 bf fun q1 Qz=>
 cO (aX (eE ((fun hv=>aeK (V:=D.str) (nm:="operations") (aj rfl) (by trivial) aO rfl (aas hv)) agd) rfl) (eE (lu (aD aJ (aD aJ (aD aJ aO))) rfl rfl) rfl) (Wj Qz)) fun s m=>⟨_,rfl,by simp⟩))) e
end TY
namespace AL
open PySem L2 DL PyProof.Rows
theorem bd1 {α:Type} {P:List α→Prop} (h:∀a,P [a]):∀us:List α,us.length=1→P us
 | [a],_=>h a
theorem bd2 {α:Type} {P:List α→Prop} (h:∀a b,P [a,b]):∀us:List α,us.length=2→P us
 | [a,b],_=>h a b
theorem bd3 {α:Type} {P:List α→Prop} (h:∀a b c,P [a,b,c]):∀us:List α,us.length=3→P us
 | [a,b,c],_=>h a b c
theorem bd4 {α:Type} {P:List α→Prop} (h:∀a b c d,P [a,b,c,d]):∀us:List α,us.length=4→P us
 | [a,b,c,d],_=>h a b c d
theorem bd5 {α:Type} {P:List α→Prop} (h:∀a b c d e,P [a,b,c,d,e]):∀us:List α,us.length=5→P us
 | [a,b,c,d,e],_=>h a b c d e
theorem bd6 {α:Type} {P:List α→Prop} (h:∀a b c d e f,P [a,b,c,d,e,f]):∀us:List α,us.length=6→P us
 | [a,b,c,d,e,f],_=>h a b c d e f
theorem bd7 {α:Type} {P:List α→Prop} (h:∀a b c d e f g,P [a,b,c,d,e,f,g]):∀us:List α,us.length=7→P us
 | [a,b,c,d,e,f,g],_=>h a b c d e f g
section
variable (l:PySem.W.OpenLaw) (w:World) {K:PySem.W.Frag} {h:Heap} {mg:Str→Option Value} {nm m qual p cn:Str} {st:Stmt} {C:Addr} {ps:List Str} {k:Nat} {sp:Sp} {P:Program}
def qZ (K:PySem.W.Frag) (nm:Str) (st:Stmt):Prop:=∃(f:Addr) (oc:Value) (od:Option Addr) (kV dc pm:Value) (an:Option Addr) (cd ct:Value) (sl:Array (Option Value)),PySem.W.nsIn K mainGlobals nm=some (some (.ref f))∧K.lookup f=some ⟨oc,od,.func (PySem.W.fnOf nm nm (defArgs st) (defBody st) (defScope st) .none kV dc pm an cd ct),sl⟩∧PySem.W.codeIn K cd nm=true∧PySem.W.keepIn K (.ref f)=true
def Rg (K:PySem.W.Frag) (C:Addr) (m qual:Str) (st:Stmt):Prop:=∃(f:Addr) (oc:Value) (od:Option Addr) (kV dc pm:Value) (an:Option Addr) (cd ct:Value) (sl:Array (Option Value)),PySem.W.findIn K (.ref C) m=some (some (.ref f))∧PySem.W.isFn K (.ref f)=true∧K.lookup f=some ⟨oc,od,.func (PySem.W.fnOf m qual (defArgs st) (defBody st) (defScope st) .none kV dc pm an cd ct),sl⟩∧PySem.W.codeIn K cd qual=true∧PySem.W.keepIn K (.ref f)=true
def Rh (K:PySem.W.Frag) (C:Addr) (m qual:Str) (st:Stmt):Prop:=∃(f:Addr) (oc:Value) (od:Option Addr) (kV dc pm:Value) (an:Option Addr) (cd ct:Value) (sl:Array (Option Value)),PySem.W.findIn K (.ref C) m=some (some (.ref f))∧PySem.W.isFn K (.ref f)=true∧K.lookup f=some ⟨oc,od,.func (PySem.W.fnOf m qual (defArgs st) (defBody st) (defScope st) .none kV dc pm an cd ct),sl⟩∧PySem.W.codeIn K cd qual=true∧PySem.W.keepIn K (.ref f)=true∧PySem.W.fnIn K f=true
structure pY (K:PySem.W.Frag) (cn:Str) (C:Addr):Prop where
 a:PySem.W.nsIn K mainGlobals cn=some (some (.ref C))
 pg:PySem.W.plainGet K C Str.empty=true
 hd:PySem.W.hasDictIn K C=true
 po:PySem.W.plainOver K C=true
 sa:PySem.W.findIn K (.ref C) "__setattr__"=some (some (.builtin "object.__setattr__"))
 ms:PySem.W.makesIn K C=true
 kc:PySem.W.keepIn K (.ref C)=true
theorem pY.cls (c:pY K cn C):Cls K C:=⟨c.pg,c.hd,c.po,c.sa⟩
def Bd (m qual:Str) (st:Stmt) (ps:List Str):Prop:=∀(kV doc pm:Value) (an:Option Addr) (cdv ct:Value) (us:List Value),us.length=ps.length→bindArgs (PySem.W.fnOf m qual (defArgs st) (defBody st) (defScope st) .none kV doc pm an cdv ct) ⟨us,[]⟩=pure (ps.zip us)
def Ri (l:PySem.W.OpenLaw) (w:World) (K:PySem.W.Frag) (mg:Str→Option Value) (m qual:Str) (st:Stmt) (k:Nat) (ps:List Str) (sp:Sp):Prop:=∀(base:Heap) (f:Addr) (fd:FuncData),fX K m qual st f fd→FnOk l.prog w K mg base (L2.CX l.prog w) k f fd ps sp
theorem qZ.cal (X:K.In h) (G:h.Ns mainGlobals mg) (F:qZ K nm st) (ok:Ri l w K mg nm nm st k ps sp) (hb:Bd nm nm st ps):∀base,Cal l.prog w K mg base nm ps k sp:=fun base=>by
 obtain⟨f,oc,od,kV,dc,pm,an,cd,ct,sl,h1,h2,h3,h4⟩:=F
 have F:=fun_mk (st:=st) h2 h3 h4
 exact⟨f,_,ok base _ _ (iK F),a0J X G h1,h4,F.binds hb⟩
theorem Rg.cal (c:pY K cn C) (F:Rg K C m qual st) (ok:Ri l w K mg m qual st k ps sp) (hb:Bd m qual st ps):∀base,vD l.prog w K mg base C m ps k sp:=fun base=>by
 obtain⟨f,oc,od,kV,dc,pm,an,cd,ct,sl,h1,h0,h2,h3,h4⟩:=F
 have F:=fun_mk (st:=st) h2 h3 h4
 exact⟨f,_,ok base _ _ (iK F),c.cls,⟨h1,h0,h4⟩,F.binds hb⟩
theorem Rh.agZ (F:Rh K C "__call__" qual st) (ok:Ri l w K mg "__call__" qual st k ps sp) (hb:Bd "__call__" qual st ps):∀base,Qc l.prog w K mg base C ps k sp:=fun base=>by
 obtain⟨f,oc,od,kV,dc,pm,an,cd,ct,sl,h1,h0,h2,h3,h4,h5⟩:=F
 have F:=fun_mk (st:=st) h2 h3 h4
 exact⟨f,_,ok base _ _ (iK F),⟨h1,h0,h5⟩,F.binds hb⟩
structure ErF (l:PySem.W.OpenLaw) (K:PySem.W.Frag) (C fI:Addr) (cn qual p:Str) (st:Stmt):Prop where
 gC:PySem.W.nsIn K mainGlobals cn=some (some (.ref C))
 cls:∃nm q N bs bm sn sub ab col dd k0 k1 k2 k3 k5,K.lookup C=some (excClassObj nm q C N bs bm true sn sub ab col dd k0 k1 k2 k3 k5 "ValueError.__new__")∧PySem.HandSPX.refsVE bm=true
 sa:PySem.W.findIn K (.ref C) "__setattr__"=some (some (.builtin "object.__setattr__"))
 ga:PySem.W.findIn K (.ref C) "__getattribute__"=some (some (.builtin "BaseException.__getattribute__"))
 gg:PySem.W.findIn K (.ref C) "__getattr__"=some none
 iC:PySem.W.findIn K (.ref C) "__init__"=some (some (.ref fI))
 tC:PySem.W.typeIn K (.ref fI)=some (.type "function")
 kC:PySem.W.keepIn K (.ref C)=true
 exC:PySem.W.subIn K (.ref C) (.type "BaseException")=some true
 QJ:PySem.W.subIn K (.ref C) (.type "ValueError")=some true
 QK:PySem.W.mroIn K C (.ref C)=some true
 tyC:PySem.W.typeIn K (.ref C)=some (.type "type")
 hdC:PySem.W.hasDictIn K C=true
 sup:PySem.W.ks_superIn K C C "__init__"=some (some (.builtin "ValueError.__init__"))
 lk:∃(oc:Value) (od:Option Addr) (kV doc pm:Value) (an:Option Addr) (cda:Addr) (ct:Value) (cc:Addr) (osl:Array (Option Value)) (ccl:Value) (cdd:Option Addr) (vs:Array Value) (ccs:Array (Option Value)) (file:Str) (tf:Tok) (cl:Value) (cld:Option Addr) (csl:Array (Option Value)),
  K.lookup fI=some ⟨oc,od,.func (PySem.W.ksFn "__init__" qual (L2.defArgs st) (L2.defBody st) (L2.defScope st) .none kV doc pm an (.ref cda) ct cc),osl⟩∧PySem.W.codeIn K (.ref cda) qual=true∧
  K.lookup cda=some ⟨ccl,cdd,.fields vs,ccs⟩∧vs[2]?=some (.str file tf)∧((l.prog.main.file:Str) == file)=true∧K.lookup cc=some ⟨cl,cld,.cell (some (.ref C)),csl⟩
 no:PySem.W.findIn K (.ref C) p=some none
def jO (l:PySem.W.OpenLaw) (K:PySem.W.Frag) (C:Addr) (cn qual p:Str) (st:Stmt):Prop:=∃fI,ErF l K C fI cn qual p st
theorem jO.b {l:PySem.W.OpenLaw} (e:jO l K C cn qual p st):PySem.W.subIn K (.ref C) (.type "BaseException")=some true:=e.elim fun _ e=>e.exC
theorem jO.hd {l:PySem.W.OpenLaw} (e:jO l K C cn qual p st):PySem.W.hasDictIn K C=true:=e.elim fun _ e=>e.hdC
theorem jO.ty {l:PySem.W.OpenLaw} (e:jO l K C cn qual p st):PySem.W.typeIn K (.ref C)=some (.type "type"):=e.elim fun _ e=>e.tyC
theorem jO.ga {l:PySem.W.OpenLaw} (e:jO l K C cn qual p st):PySem.W.findIn K (.ref C) "__getattribute__"=some (some (.builtin "BaseException.__getattribute__")):=e.elim fun _ e=>e.ga
theorem jO.gg {l:PySem.W.OpenLaw} (e:jO l K C cn qual p st):PySem.W.findIn K (.ref C) "__getattr__"=some none:=e.elim fun _ e=>e.gg
def Hz (st:Stmt) (qual p:Str):Prop:=∃(pre:Str) (cst:Nat) (j1 j2 j3 q1 q2 q3 q4:Pos),iQ.yu st qual [p] [.Constant (.str pre) cst j1,.FormattedValue (.Name p j2) 114 none j3] [.Assign [.Attribute (.Name "self" q1) p q2] (.Name p q3) q4]∧pre.length≤100
theorem jO.er {l:PySem.W.OpenLaw} (X:K.In h) (G:h.Ns mainGlobals mg) (hB:bZ mg) (fL:PySem.W.nsIn K cStatics "thirdparty.any"=some none) (top:(l.prog.main.scope.names.lookup ("super":Str)).isSome=false) (s:Hz st qual p) (e:jO l K C cn qual p st) (h1:(p == ("self":Str))=false:=by decide +kernel) (h2:(p == ("__debug__":Str))=false:=by decide +kernel):iQ.kh l.prog K mg cn p C:=by
 obtain⟨fI,e⟩:=e
 obtain⟨pre,cst,j1,j2,j3,q1,q2,q3,q4,S,hp⟩:=s
 exact⟨fI,qual,st,pre,cst,j1,j2,j3,q1,q2,q3,q4,⟨a0J X G e.gC,e.cls,e.sa,e.ga,e.gg,e.iC,e.tC,e.kC,e.exC,e.QJ,e.QK,e.tyC,e.hdC,e.sup,fL,hB _ (by trivial),top,e.lk⟩,S,h1,h2,e.no,hp⟩
structure Yy (K:PySem.W.Frag):Prop where
 z0:PySem.W.nsIn K mainGlobals "len"=some none
 z1:PySem.W.nsIn K mainGlobals "int"=some none
 z2:PySem.W.nsIn K mainGlobals "range"=some none
 z3:PySem.W.nsIn K mainGlobals "isinstance"=some none
 z4:PySem.W.nsIn K mainGlobals "list"=some none
 z5:PySem.W.nsIn K mainGlobals "tuple"=some none
 z6:PySem.W.nsIn K mainGlobals "enumerate"=some none
 z7:PySem.W.nsIn K mainGlobals "sum"=some none
 z8:PySem.W.nsIn K mainGlobals "any"=some none
 z9:PySem.W.nsIn K mainGlobals "str"=some none
 z10:PySem.W.nsIn K mainGlobals "bool"=some none
 z11:PySem.W.nsIn K mainGlobals "dict"=some none
 z12:PySem.W.nsIn K mainGlobals "super"=some none
 z13:PySem.W.nsIn K mainGlobals "sorted"=some none
 z14:PySem.W.nsIn K mainGlobals "reversed"=some none
 z15:PySem.W.nsIn K mainGlobals "iter"=some none
 z16:PySem.W.nsIn K mainGlobals "abs"=some none
 z17:PySem.W.nsIn K mainGlobals "max"=some none
 z18:PySem.W.nsIn K mainGlobals "min"=some none
 z19:PySem.W.nsIn K mainGlobals "ValueError"=some none
 z20:PySem.W.nsIn K mainGlobals "Exception"=some none
 z21:PySem.W.nsIn K mainGlobals "zip"=some none
 z22:PySem.W.nsIn K mainGlobals "all"=some none
theorem agf (X:K.In h) (G:h.Ns mainGlobals mg) (z:Yy K):bZ mg:=by
 intro x hx
 refine PySem.W.mg_none_of X G ?_
 unfold V5 at hx
 simp only[a0c,a0Z,or_false] at hx
 rcases hx with rfl|rfl|rfl|rfl|rfl|rfl|rfl|rfl|rfl|rfl|rfl|rfl|rfl|rfl|rfl|rfl|rfl|rfl|rfl|rfl|rfl|rfl|rfl
 ·exact z.z0
 ·exact z.z1
 ·exact z.z2
 ·exact z.z3
 ·exact z.z4
 ·exact z.z5
 ·exact z.z6
 ·exact z.z7
 ·exact z.z8
 ·exact z.z9
 ·exact z.z10
 ·exact z.z11
 ·exact z.z12
 ·exact z.z13
 ·exact z.z14
 ·exact z.z15
 ·exact z.z16
 ·exact z.z17
 ·exact z.z18
 ·exact z.z19
 ·exact z.z20
 ·exact z.z21
 ·exact z.z22
end
end AL
set_option maxHeartbeats 2000000
namespace Z
open PySem L2 DL AL TY PyProof.Rows
def eU (i:Nat):Stmt:=PySem.Challenge.pw_orderatonce_k03_kinds_rows.main.body.getD i (.Pass ⟨0,0,0,0⟩)
end Z
set_option maxHeartbeats 2000000
namespace Z
open PySem L2 DL AL TY PyProof.Rows
section
variable {P:Program} {w:World} {K:PySem.W.Frag} {mg:Str→Option Value} {base:Heap} {f:Addr} {fd:FuncData} {c:CL}
abbrev wO:Stmt:=eU 25
abbrev aa8:List Str:=["_law_script","_law_row_here","_law_size","_law_kinds","_law_names","_law_at","_law_state","_law_table","_law_k","_law_turn","_law_bad","_law_name","_law_pair","_law_rows"]
theorem ju:FnScope aa8 ["_law_script"] (defScope wO):=(by trivial)
theorem abx (FA:fX K "law" "law" wO f fd) (hB:bZ mg) (M6:Cal P w K mg base "_law_row" ["_law_script","_law_k","_law_many"] 1 (aQ K (wZ c))) (yx:Mak P w K mg base "Kind" c.Kind ["self","size"] [] 3 (aQ K (bU c))) (yr:Mak P w K mg base "Shown" c.Shown ["self","size"] [] 3 (aQ K (bU c))) (yc:Mak P w K mg base "Raised" c.Raised ["self","size"] [] 3 (aQ K (bU c))) (xP:Mak P w K mg base "Emptied" c.Emptied ["self","size"] [] 3 (aQ K (bU c))) (xQ:Mak P w K mg base "Counter" c.Counter ["self","size"] [] 3 (aQ K (bU c))) (u9:Mak P w K mg base "Full" c.Full ["self","size"] [] 3 (aQ K (bU c))) (GF:∀p∈mZ c,∃k,k≤7∧vD P w K mg base p.1 "rows" ["self"] k (aQ K p.2)) (MK:Cal P w K mg base "_law_same" ["_law_rows","_law_names","_law_size"] 3 (aQ K (xq c))) (Lj:Cal P w K mg base "_law_refused" ["_law_at","_law_size"] 5 (aQ K (wN c))) (Om:Mak P w K mg base "Table" c.Table ["self","rows","start"] [] 3 (aQ K (rH c))) (Oo:Qc P w K mg base c.Table ["self","name","state"] 3 (aQ K (wI c))) (wX:Cal P w K mg base "_law_part" ["_law_name","_law_state","_law_size"] 1 (aQ K (rW c))) (Mj:vD P w K mg base c.Table "operations" ["self"] 1 (aQ K (wF c))) :
  FnOk P w K mg base (L2.CX P w) 9 f fd ["_law_script"] (aQ K (Ax c)):=by
 rw[T5]
 exact aea (lU (g:=Fq c) FA ju rfl fun cdv A outer s H aY hr tk po=>⟨_,(a0f (fH 1 ju.nd (qC M6 hr (by decide) tk (a0k (pv 0) (a0k a0x (a0k a0x a0A)))))
 (a0f (fH 2 ju.nd (mH K a0x (mO (nU hB (fW K hr (pv 1) a0x)) a0x)))
 (a0f (fH 3 ju.nd (b0L (a0k (jR yx .nil hr (by decide) tk (a0k (pv 2) a0A)) (a0k (jR yr .nil hr (by decide) tk (a0k (pv 2) a0A)) (a0k (jR yc .nil hr (by decide) tk (a0k (pv 2) a0A)) (a0k (jR xP .nil hr (by decide) tk (a0k (pv 2) a0A)) (a0k (jR xQ .nil hr (by decide) tk (a0k (pv 2) a0A)) (a0k (jR u9 .nil hr (by decide) tk (a0k (pv 2) a0A)) a0A))))))))
 (a0f (fH 4 ju.nd (b0L (a0k (b0L a0A) (a0k (b0L (a0k b0f a0A)) (a0k (b0L (a0k b0f a0A)) (a0k (b0L (a0k b0f a0A)) (a0k (b0L (a0k b0f (a0k b0f a0A))) (a0k (b0L (a0k b0f (a0k b0f (a0k b0f a0A)))) a0A))))))))
 (a0f (ps_for po rfl (k_ hB a0x) (gG 5 ju.nd) (a0f (ps_for po rfl (k_ hB a0x) (gG 9 ju.nd) (a0f (fH 13 ju.nd (Wx GF hr (by decide) tk (fW K hr (pv 3) (pv 5))))
 (a0f (b0w (b0B (nJ K (qC MK hr (by decide) tk (a0k (pv 13) (a0k (fW K hr (pv 4) (pv 5)) (a0k (pv 2) a0A)))))) (a0f (a0X pe_bl)
 a0m) a0m)
 (a0f (ps_asg (b0L a0A) (pg_sub (pv 13) b0f (oZ hr)))
 a0m))))
 (a0f (ps_for po rfl (Nv K (b0L (a0k a0x (a0k a0x (a0k (WT (WY a0x) (mO (nU hB (fW K hr (pv 1) a0x)) a0x)) (a0k (mH K a0x (mO (nU hB (fW K hr (pv 1) a0x)) a0x)) a0A)))))) (gG 10 ju.nd) (a0f (b0w (b0B (nJ K (qC Lj hr (by decide) tk (a0k (pv 5) (a0k (pv 10) a0A))))) (a0f (a0X pe_bl)
 a0m) a0m)
 a0m))
 a0m)))
 (a0f (fH 6 ju.nd (mO (nU hB (fW K hr (pv 1) a0x)) (pv 2)))
 (a0f (fH 7 ju.nd (jR Om .nil hr (by decide) tk (a0k (Wx GF hr (by decide) tk (jR u9 .nil hr (by decide) tk (a0k (pv 2) a0A))) (a0k (pv 6) a0A))))
 (a0f (ps_for po rfl (k_ hB a0x) (gG 8 ju.nd) (a0f (fH 11 ju.nd (fW K hr (b0L (a0k b0f (a0k b0f (a0k b0f a0A)))) (mO (nU hB (fW K hr (pv 1) (mH K a0x (pv 8)))) a0x)))
 (a0f (fH 12 ju.nd (adS Oo hr (by decide) tk (pv 7) (a0k (pv 11) (a0k (pv 6) a0A))))
 (a0f (b0w (yD K hr (pv 12) (qC wX hr (by decide) tk (a0k (pv 11) (a0k (pv 6) (a0k (pv 2) a0A))))) (a0f (a0X pe_bl)
 a0m) a0m)
 (a0f (fH 6 ju.nd (fW K hr (pv 12) a0x))
 a0m)))))
 (a0f (a0X (afg K hr (Vo Mj hr (by decide) tk (pv 7)) (b0L (a0k b0f (a0k b0f (a0k b0f a0A))))))
 a0m))))))))),(aG (cI (x_call (aF ak (aF bx (aF bx aK)))) fJ)
 (aG (cI (aW mW bx (aW mV (fu nO (aF (aW fY ak bx) aK)) bx)) fJ)
 (aG (cI (dY (jT (aF (jU kJ (aF ak aK)) (aF (jU kJ (aF ak aK)) (aF (jU kJ (aF ak aK)) (aF (jU kJ (aF ak aK)) (aF (jU kJ (aF ak aK)) (aF (jU kJ (aF ak aK)) aK)))))))) fJ)
 (aG (cI (dY (jT (aF (dY (jT aK)) (aF (dY (jT (aF dw aK))) (aF (dY (jT (aF dw aK))) (aF (dY (jT (aF dw aK))) (aF (dY (jT (aF dw (aF dw aK)))) (aF (dY (jT (aF dw (aF dw (aF dw aK))))) aK)))))))) fJ)
 (aG (qD (kY (aF bx aK)) mF (aG (qD (kY (aF bx aK)) mF (aG (cI (agv (Wy (aW fY ak ak))) fJ)
 (aG (cX (g8 (nM (x_call (aF ak (aF (aW fY ak ak) (aF ak aK)))))) (aG (cH jg)
 aP) aP)
 (aG (cI (dY (jT aK)) (pq ak dw))
 aP))))
 (aG (qD (Ow (dY (jT (aF bx (aF bx (aF (aW W8 (Xa bx) (aW mV (fu nO (aF (aW fY ak bx) aK)) bx)) (aF (aW mW bx (aW mV (fu nO (aF (aW fY ak bx) aK)) bx)) aK))))))) mF (aG (cX (g8 (nM (x_call (aF ak (aF ak aK))))) (aG (cH jg)
 aP) aP)
 aP))
 aP)))
 (aG (cI (aW mV (fu nO (aF (aW fY ak bx) aK)) ak) fJ)
 (aG (cI (jU kJ (aF (dY (Wy (jU kJ (aF ak aK)))) (aF ak aK))) fJ)
 (aG (qD (kY (aF bx aK)) mF (aG (cI (aW fY (dY (jT (aF dw (aF dw (aF dw aK))))) (aW mV (fu nO (aF (aW fY ak (aW mW bx ak)) aK)) bx)) fJ)
 (aG (cI (agx ak (aF ak (aF ak aK))) fJ)
 (aG (cX (cW (aW yO ak (x_call (aF ak (aF ak (aF ak aK)))))) (aG (cH jg)
 aP) aP)
 (aG (cI (aW fY ak bx) fJ)
 aP)))))
 (aG (cH (aW x_eq (dY (pH ak aK)) (dY (jT (aF dw (aF dw (aF dw aK)))))))
 aP)))))))))⟩)
end
end Z
set_option maxHeartbeats 2000000
namespace Z
open PySem L2 DL AL TY PyProof.Rows
section
variable {P:Program} {w:World} {K:PySem.W.Frag} {mg:Str→Option Value} {base:Heap} {f:Addr} {fd:FuncData} {c:CL}
abbrev Ml:Stmt:=eU 11
abbrev abd:List Str:=["row","size","pair","answer","after"]
theorem Ft:FnScope abd ["row","size"] (defScope Ml):=(by trivial)
theorem abL (FA:fX K "is_row" "is_row" Ml f fd) (hB:bZ mg) (LK:∃t,mg "MOST_STATES"=some (.int 100 t)) :
  FnOk P w K mg base (L2.CX P w) 1 f fd ["row","size"] (aQ K (xX c)):=by
 rw[Uc]
 exact lU (g:=FQ c) FA Ft rfl fun cdv A outer s H aY hr tk po=>⟨_,(a0f (b0w (PW.pt (pw_or (b0B (sG lA lA a0x (pv 1) (V6 LK))) (pw_or1 (yD K hr (uY K hB (pv 0)) (pv 1))))) (a0f (a0X pe_bl)
 a0m) a0m)
 (a0f (ps_for po rfl (Nv K (pv 0)) (gG 2 Ft.nd) (a0f (b0w (yD K hr (uY K hB (pv 2)) a0x) (a0f (a0X pe_bl)
 a0m) a0m)
 (a0f (ps_asg (pv 2) (acI K rfl (pgs_cons (gG 3 Ft.nd) (pgs_cons (gG 4 Ft.nd) pgs_nil))))
 (a0f (b0w (PW.pt (pw_or (b0B (sG lA lA a0x (pv 3) a0x)) (pw_or1 (b0B (sG lA GX a0x (pv 4) (pv 1)))))) (a0f (a0X pe_bl)
 a0m) a0m)
 a0m))))
 (a0f (a0X pe_bl)
 a0m))),(aG (cX (vh (g8 (cW (sJ lF lF bx ak bx))) (cW (aW yO (fu x_len (aF ak aK)) ak))) (aG (cH jg)
 aP) aP)
 (aG (qD (Ow ak) mF (aG (cX (cW (aW yO (fu x_len (aF ak aK)) bx)) (aG (cH jg)
 aP) aP)
 (aG (cI ak (afw (acO (U3 mF (U3 mF acN (fun _ _ _ h=>Pb h)) (fun _ _ _ h=>Pb h)) rfl) (afv (by intro k hk;simp only[a0c,a0Z,or_false] at hk;rcases hk with rfl|rfl<;>exact fun _ _ _ h=>Pb h))))
 (aG (cX (vh (g8 (cW (sJ lF lF bx ak bx))) (g8 (cW (sJ lF x_lt bx ak ak)))) (aG (cH jg)
 aP) aP)
 aP))))
 (aG (cH jg)
 aP)))⟩
abbrev rC:Stmt:=inClass (eU 12) 0
abbrev Z_:List Str:=["self","rows","start","lines","size","name","row"]
theorem wH:FnScope Z_ ["self","rows","start"] (defScope rC):=(by trivial)
theorem Td (FA:fX K "__init__" "Table.__init__" rC f fd) (hB:bZ mg) (El:∃t,mg "MOST_OPERATIONS"=some (.int 6 t)) (xr:iQ.kh P K mg "BadTable" "name" c.BadTable) (Fv:Cal P w K mg base "is_name" ["text"] 1 (aQ K (xK c))) (FT:Cal P w K mg base "is_row" ["row","size"] 1 (aQ K (xX c))) (nD:∀C∈[c.Table],Cls K C∧NoAttr K C "lines") (uX:∀C∈[c.Table],Cls K C∧NoAttr K C "size") (FW:∀C∈[c.Table],Cls K C∧NoAttr K C "start") :
  FnOk P w K mg base (L2.CX P w) 3 f fd ["self","rows","start"] (aQ K (rH c)):=by
 rw[SQ]
 exact lU (g:=Em c) FA wH rfl fun cdv A outer s H aY hr tk po=>⟨_,(a0f (b0w (b0B (sG lA lA a0x (uY K hB (pv 1)) (V6 El))) (a0f (xU rfl xr hr (by decide) tk b0f)
 a0m) a0m)
 (a0f (fH 3 wH.nd pe_dnewK)
 (a0f (fH 4 wH.nd (WY a0x))
 (a0f (abX tk (fun _ tk1=>(ps_for po rfl (pi_keys (pv 1)) (gG 5 wH.nd) (a0f (fH 6 wH.nd (Nu K hB (fW K hr (pv 1) (pv 5))))
 (a0f (b0w (q_lt (pv 4) a0x) (a0f (fH 4 wH.nd (uY K hB (pv 6)))
 a0m) a0m)
 (a0f (b0w (PW.pt (pw_or (b0B (nJ K (qC Fv hr (by decide) tk1 (a0k (pv 5) a0A)))) (pw_or1 (b0B (nJ K (qC FT hr (by decide) tk1 (a0k (pv 6) (a0k (pv 4) a0A)))))))) (a0f (xU rfl xr hr (by decide) tk1 (pv 5))
 a0m) a0m)
 (a0f (ps_asg (pv 6) (pg_sub (pv 3) (pv 5) (oZ hr)))
 a0m)))))))
 (a0f (b0w (b0B (sG lA GX a0x (pv 2) (pv 4))) (a0f (xU rfl xr hr (by decide) tk b0f)
 a0m) a0m)
 (a0f (ps_fld (pv 0) (pv 3) rfl)
 (a0f (ps_fld (pv 0) (pv 4) rfl)
 (a0f (ps_fld (pv 0) (pv 2) rfl)
 a0m)))))))),(aG (cX (g8 (cW (sJ lF lF bx (fu x_len (aF ak aK)) bx))) (aG (xV (aF dw aK))
 aP) aP)
 (aG (o_ V_)
 (aG (cI (Xa bx) fJ)
 (aG (acY ad7 mF (fun _=>(aG (cI (dY (O_ N7 (aF (aW fY ak ak) aK))) fJ)
 (aG (cX (cW (aW x_lt ak bx)) (aG (cI (fu x_len (aF ak aK)) fJ)
 aP) aP)
 (aG (cX (vh (g8 (nM (x_call (aF ak aK)))) (g8 (nM (x_call (aF ak (aF ak aK)))))) (aG (xV (aF ak aK))
 aP) aP)
 (aG (cI ak (pq ak ak))
 aP))))))
 (aG (cX (g8 (cW (sJ lF x_lt bx ak ak))) (aG (xV (aF dw aK))
 aP) aP)
 (aG (Gv (nD) ak Xb)
 (aG (Gv (uX) ak ak)
 (aG (Gv (FW) ak ak)
 aP))))))))⟩
abbrev wC:Stmt:=inClass (eU 13) 0
abbrev aav:List Str:=["self","size"]
theorem aaC:FnScope aav ["self","size"] (defScope wC):=(by trivial)
theorem wJ (FA:fX K "__init__" "Kind.__init__" wC f fd) (hB:bZ mg) (i_:iQ.kh P K mg "BadNumber" "number" c.BadNumber) (cA:∀C∈[c.Kind,c.Shown,c.Raised,c.Emptied,c.Counter,c.Full],Cls K C∧NoAttr K C "size") :
  FnOk P w K mg base (L2.CX P w) 3 f fd ["self","size"] (aQ K (bU c)):=by
 rw[uF]
 exact lU (g:=qb c) FA aaC rfl fun cdv A outer s H aY hr tk po=>⟨_,(a0f (b0w (b0B (sG lA lA a0x (pv 1) a0x)) (a0f (xU rfl i_ hr (by decide) tk (pv 1))
 a0m) a0m)
 (a0f (ps_fld (pv 0) (pv 1) rfl)
 a0m)),(aG (cX (g8 (cW (sJ lF lF bx ak bx))) (aG (xV (aF ak aK))
 aP) aP)
 (aG (Gv (cA) ak ak)
 aP))⟩
abbrev Lk:Stmt:=eU 22
abbrev aaS:List Str:=["_law_name","_law_state","_law_size"]
theorem abe:FnScope aaS ["_law_name","_law_state","_law_size"] (defScope Lk):=(by trivial)
theorem abf (FA:fX K "_law_part" "_law_part" Lk f fd) (hB:bZ mg)  :
  FnOk P w K mg base (L2.CX P w) 1 f fd ["_law_name","_law_state","_law_size"] (aQ K (rW c)):=by
 rw[TF]
 exact lU (g:=Fd c) FA abe rfl fun cdv A outer s H aY hr tk po=>⟨_,(a0f (b0w (u_ K hr (pv 0) b0f) (a0f (a0X (pe_tup (a0k (pv 1) (a0k (pv 1) a0A))))
 a0m) a0m)
 (a0f (b0w (u_ K hr (pv 0) b0f) (a0f (a0X (pe_tup (a0k (pv 1) (a0k (mO (nU hB (mH K (pv 1) a0x)) (pv 2)) a0A))))
 a0m) a0m)
 (a0f (a0X (pe_tup (a0k (pv 1) (a0k a0x a0A))))
 a0m))),(aG (cX (cW (aW x_eq ak dw)) (aG (cH (nY (aF ak (aF ak aK))))
 aP) aP)
 (aG (cX (cW (aW x_eq ak dw)) (aG (cH (nY (aF ak (aF (aW mV (fu nO (aF (aW mW ak bx) aK)) ak) aK))))
 aP) aP)
 (aG (cH (nY (aF ak (aF bx aK))))
 aP)))⟩
end
end Z
set_option maxHeartbeats 2000000
namespace Z
open PySem L2 DL AL TY PyProof.Rows
section
variable {P:Program} {w:World} {K:PySem.W.Frag} {mg:Str→Option Value} {base:Heap} {f:Addr} {fd:FuncData} {c:CL}
abbrev JC:Stmt:=inClass (eU 12) 1
abbrev ZD:List Str:=["self"]
theorem aac:FnScope ZD ["self"] (defScope JC):=(by trivial)
theorem aad (FA:fX K "operations" "Table.operations" JC f fd) (hB:bZ mg) (nD:∀C∈[c.Table],Cls K C∧NoAttr K C "lines") :
  FnOk P w K mg base (L2.CX P w) 1 f fd ["self"] (aQ K (wF c)):=by
 rw[Ss]
 exact lU (g:=Ed c) FA aac rfl fun cdv A outer s H aY hr tk po=>⟨_,(a0f (a0X (Nu K hB (jw K (pv 0) rfl)))
 a0m),(aG (Vx (O_ N7 (aF (jA (nD) ak) aK)))
 aP)⟩
abbrev Kf:Stmt:=inClass (eU 12) 2
abbrev aae:List Str:=["self","name","state"]
theorem aay:FnScope aae ["self","name","state"] (defScope Kf):=(by trivial)
theorem aaz (FA:fX K "__call__" "Table.__call__" Kf f fd) (hB:bZ mg) (LQ:iQ.kh P K mg "NoOperation" "name" c.NoOperation) (i_:iQ.kh P K mg "BadNumber" "number" c.BadNumber) (nD:∀C∈[c.Table],Cls K C∧NoAttr K C "lines") (uX:∀C∈[c.Table],Cls K C∧NoAttr K C "size") :
  FnOk P w K mg base (L2.CX P w) 3 f fd ["self","name","state"] (aQ K (wI c)):=by
 rw[S7]
 exact lU (g:=Eo c) FA aay rfl fun cdv A outer s H aY hr tk po=>⟨_,(a0f (b0w (V7 K hr (pv 1) (jw K (pv 0) rfl)) (a0f (xU rfl LQ hr (by decide) tk (pv 1))
 a0m) a0m)
 (a0f (b0w (b0B (sG lA GX a0x (pv 2) (jw K (pv 0) rfl))) (a0f (xU rfl i_ hr (by decide) tk (pv 2))
 a0m) a0m)
 (a0f (a0X (fW K hr (fW K hr (jw K (pv 0) rfl) (pv 1)) (pv 2)))
 a0m))),(aG (cX (cW (aW Xx ak (jA (nD) ak))) (aG (xV (aF ak aK))
 aP) aP)
 (aG (cX (g8 (cW (sJ lF x_lt bx ak (jA (uX) ak)))) (aG (xV (aF ak aK))
 aP) aP)
 (aG (cH (aW fY (aW fY (jA (nD) ak) ak) ak))
 aP)))⟩
abbrev zJ:Stmt:=inClass (eU 14) 0
abbrev Ds:List Str:=["self","told","state"]
theorem zQ:oY Ds ["self"] (defScope zJ):=⟨rfl,rfl,rfl,by decide +kernel,rfl,by decide +kernel,by decide +kernel,by decide +kernel,rfl,rfl⟩
theorem ZF (FA:lJ P K mg "rows" "Shown.rows" zJ c.Shown f fd) (hB:bZ mg) (Kg:iw P w K mg base c.Counter c.Shown "rows" ["self"] 3 (aQ K (uw c))) (cA:∀C∈[c.Kind,c.Shown,c.Raised,c.Emptied,c.Counter,c.Full],Cls K C∧NoAttr K C "size") :
  FnOk P w K mg base (L2.CX P w) 5 f fd ["self"] (aQ K (uz c)):=by
 rw[R6]
 refine Cy FA zQ (AL.runN 1 3 (DW c)) (fun args h y e=>qm e) ?_
 intro cda cc A outer s H aY hp U hr
 have tk:Takes (jM (L2.CX P w) P w K mg base Ds "Shown.rows" (defScope zJ) f (.ref cda) cc A outer s H aY) (fun cls d _ H=>aY cls d H):=b0J rfl rfl rfl rfl
 have po:=b0A (X:=(jM (L2.CX P w) P w K mg base Ds "Shown.rows" (defScope zJ) f (.ref cda) cc A outer s H aY)) rfl
 exact⟨_,(Ar 1 U rfl zQ rfl rfl (by rw[hp];rfl) Kg hr (by decide) tk zQ.nd
 (a0f (ps_asg (pe_lc (own:=[("state",2)]) rfl zQ.nd (k_ hB (jw K (pv 0) rfl)) (b0M (own:=[("state",2)]) (N:=Ds) (sc:=defScope zJ) (by trivial)) (fun _ _ _ _ _=>(gG 2 zQ.nd)) (fun _ _ _ _ _=>pts_nil) (fun _ _ _ _ _=>(pe_tup (a0k (pv 2) (a0k (pv 2) a0A))))) (pg_sub (pv 1) b0f (oZ hr)))
 (a0f (a0X (pv 1))
 a0m))),(aG (o_ (pH ak aK))
 (aG (cI (dY (tD (kY (aF (jA (cA) ak) aK)) (rZ (i:=2) (by decide)) sU (nY (aF ak (aF ak aK))))) (pq ak dw))
 (aG (cH ak)
 aP)))⟩
abbrev K8:Stmt:=eU 24
abbrev aaD:List Str:=["_law_at","_law_size","e"]
theorem Tv:FnScope aaD ["_law_at","_law_size"] (defScope K8):=(by trivial)
theorem aaP (FA:fX K "_law_refused" "_law_refused" K8 f fd) (hB:bZ mg) (yx:Mak P w K mg base "Kind" c.Kind ["self","size"] [] 3 (aQ K (bU c))) (yr:Mak P w K mg base "Shown" c.Shown ["self","size"] [] 3 (aQ K (bU c))) (yc:Mak P w K mg base "Raised" c.Raised ["self","size"] [] 3 (aQ K (bU c))) (xP:Mak P w K mg base "Emptied" c.Emptied ["self","size"] [] 3 (aQ K (bU c))) (xQ:Mak P w K mg base "Counter" c.Counter ["self","size"] [] 3 (aQ K (bU c))) (u9:Mak P w K mg base "Full" c.Full ["self","size"] [] 3 (aQ K (bU c))) (i_:iQ.kh P K mg "BadNumber" "number" c.BadNumber) (MN:∀C b,c.m .BadNumber C=some b→PySem.W.exmOne K (.ref C) (.ref c.BadNumber)=some b) :
  FnOk P w K mg base (L2.CX P w) 5 f fd ["_law_at","_law_size"] (aQ K (wN c)):=by
 rw[Tg]
 exact lU (g:=Eu c) FA Tv rfl fun cdv A outer s H aY hr tk po=>⟨_,(a0f (acL rfl rfl Tv.nd tk (fun _ _ _ tk1 po1=>(a0f (b0w (u_ K hr (pv 0) a0x) (a0f (ps_expr (jR yx .nil hr (by decide) tk1 (a0k (pv 1) a0A)))
 a0m) (a0f (b0w (u_ K hr (pv 0) a0x) (a0f (ps_expr (jR yr .nil hr (by decide) tk1 (a0k (pv 1) a0A)))
 a0m) (a0f (b0w (u_ K hr (pv 0) a0x) (a0f (ps_expr (jR yc .nil hr (by decide) tk1 (a0k (pv 1) a0A)))
 a0m) (a0f (b0w (u_ K hr (pv 0) a0x) (a0f (ps_expr (jR xP .nil hr (by decide) tk1 (a0k (pv 1) a0A)))
 a0m) (a0f (b0w (u_ K hr (pv 0) a0x) (a0f (ps_expr (jR xQ .nil hr (by decide) tk1 (a0k (pv 1) a0A)))
 a0m) (a0f (ps_expr (jR u9 .nil hr (by decide) tk1 (a0k (pv 1) a0A)))
 a0m))
 a0m))
 a0m))
 a0m))
 a0m))
 a0m))
 (.as (i:=2) ⟨by rfl,by decide,.inl i_.g⟩ rfl rfl (fun _ _ _ _ _ hz hf=>(a0f (a0X (af8 K hr.units (pe_xf i_.xf i_.no hz hf (pv 2)) (pv 1)))
 a0m)) .nil))
 (a0f (a0X pe_bl)
 a0m)),(aG (ad6 (fun _=>(aG (cX (cW (aW x_eq ak bx)) (aG (uU (jU kJ (aF ak aK)))
 aP) (aG (cX (cW (aW x_eq ak bx)) (aG (uU (jU kJ (aF ak aK)))
 aP) (aG (cX (cW (aW x_eq ak bx)) (aG (uU (jU kJ (aF ak aK)))
 aP) (aG (cX (cW (aW x_eq ak bx)) (aG (uU (jU kJ (aF ak aK)))
 aP) (aG (cX (cW (aW x_eq ak bx)) (aG (uU (jU kJ (aF ak aK)))
 aP) (aG (uU (jU kJ (aF ak aK)))
 aP))
 aP))
 aP))
 aP))
 aP))
 aP)) (.cons ⟨MN,rfl,fun x a d=>(aG (cH (aW x_eq (agC ak) ak))
 aP)⟩ .nil))
 (aG (cH jg)
 aP))⟩
end
end Z
set_option maxHeartbeats 2000000
namespace Z
open PySem L2 DL AL TY PyProof.Rows
section
variable {P:Program} {w:World} {K:PySem.W.Frag} {mg:Str→Option Value} {base:Heap} {f:Addr} {fd:FuncData} {c:CL}
abbrev wM:Stmt:=inClass (eU 13) 1
abbrev aaQ:List Str:=["self"]
theorem aa9:FnScope aaQ ["self"] (defScope wM):=(by trivial)
theorem uO (FA:fX K "rows" "Kind.rows" wM f fd) (hB:bZ mg)  :
  FnOk P w K mg base (L2.CX P w) 1 f fd ["self"] (aQ K (eX c)):=by
 rw[Tt]
 exact lU (g:=MJ c) FA aa9 rfl fun cdv A outer s H aY hr tk po=>⟨_,(a0f (a0X pe_dnewK)
 a0m),(aG (Vx V_)
 aP)⟩
abbrev lW:Stmt:=inClass (eU 16) 0
abbrev Di:List Str:=["self","told","state"]
theorem zK:oY Di ["self"] (defScope lW):=⟨rfl,rfl,rfl,by decide +kernel,rfl,by decide +kernel,by decide +kernel,by decide +kernel,rfl,rfl⟩
theorem Zi (FA:lJ P K mg "rows" "Emptied.rows" lW c.Emptied f fd) (hB:bZ mg) (JD:iw P w K mg base c.Emptied c.Emptied "rows" ["self"] 1 (aQ K (eX c))) (cA:∀C∈[c.Kind,c.Shown,c.Raised,c.Emptied,c.Counter,c.Full],Cls K C∧NoAttr K C "size") :
  FnOk P w K mg base (L2.CX P w) 3 f fd ["self"] (aQ K (uo c)):=by
 rw[RJ]
 refine Cy FA zK (AL.runN 1 3 (Dz c)) (fun args h y e=>qm e) ?_
 intro cda cc A outer s H aY hp U hr
 have tk:Takes (jM (L2.CX P w) P w K mg base Di "Emptied.rows" (defScope lW) f (.ref cda) cc A outer s H aY) (fun cls d _ H=>aY cls d H):=b0J rfl rfl rfl rfl
 have po:=b0A (X:=(jM (L2.CX P w) P w K mg base Di "Emptied.rows" (defScope lW) f (.ref cda) cc A outer s H aY)) rfl
 exact⟨_,(Ar 1 U rfl zK rfl rfl (by rw[hp];rfl) JD hr (by decide) tk zK.nd
 (a0f (ps_asg (pe_lc (own:=[("state",2)]) rfl zK.nd (k_ hB (jw K (pv 0) rfl)) (b0M (own:=[("state",2)]) (N:=Di) (sc:=defScope lW) (by trivial)) (fun _ _ _ _ _=>(gG 2 zK.nd)) (fun _ _ _ _ _=>pts_nil) (fun _ _ _ _ _=>(pe_tup (a0k (pv 2) (a0k a0x a0A))))) (pg_sub (pv 1) b0f (oZ hr)))
 (a0f (a0X (pv 1))
 a0m))),(aG (o_ (pH ak aK))
 (aG (cI (dY (tD (kY (aF (jA (cA) ak) aK)) (rZ (i:=2) (by decide)) sU (nY (aF ak (aF bx aK))))) (pq ak dw))
 (aG (cH ak)
 aP)))⟩
abbrev zR:Stmt:=inClass (eU 14) 0
abbrev DY:List Str:=["self","told","state"]
theorem Ag:oY DY ["self"] (defScope zR):=⟨rfl,rfl,rfl,by decide +kernel,rfl,by decide +kernel,by decide +kernel,by decide +kernel,rfl,rfl⟩
theorem aaw (FA:lJ P K mg "rows" "Shown.rows" zR c.Shown f fd) (hB:bZ mg) (K9:iw P w K mg base c.Full c.Shown "rows" ["self"] 5 (aQ K (uH c))) (cA:∀C∈[c.Kind,c.Shown,c.Raised,c.Emptied,c.Counter,c.Full],Cls K C∧NoAttr K C "size") :
  FnOk P w K mg base (L2.CX P w) 7 f fd ["self"] (aQ K (uJ c)):=by
 rw[SJ]
 refine Cy FA Ag (AL.runN 1 3 (Ek c)) (fun args h y e=>qm e) ?_
 intro cda cc A outer s H aY hp U hr
 have tk:Takes (jM (L2.CX P w) P w K mg base DY "Shown.rows" (defScope zR) f (.ref cda) cc A outer s H aY) (fun cls d _ H=>aY cls d H):=b0J rfl rfl rfl rfl
 have po:=b0A (X:=(jM (L2.CX P w) P w K mg base DY "Shown.rows" (defScope zR) f (.ref cda) cc A outer s H aY)) rfl
 exact⟨_,(Ar 1 U rfl Ag rfl rfl (by rw[hp];rfl) K9 hr (by decide) tk Ag.nd
 (a0f (ps_asg (pe_lc (own:=[("state",2)]) rfl Ag.nd (k_ hB (jw K (pv 0) rfl)) (b0M (own:=[("state",2)]) (N:=DY) (sc:=defScope zR) (by trivial)) (fun _ _ _ _ _=>(gG 2 Ag.nd)) (fun _ _ _ _ _=>pts_nil) (fun _ _ _ _ _=>(pe_tup (a0k (pv 2) (a0k (pv 2) a0A))))) (pg_sub (pv 1) b0f (oZ hr)))
 (a0f (a0X (pv 1))
 a0m))),(aG (o_ (pH ak aK))
 (aG (cI (dY (tD (kY (aF (jA (cA) ak) aK)) (rZ (i:=2) (by decide)) sU (nY (aF ak (aF ak aK))))) (pq ak dw))
 (aG (cH ak)
 aP)))⟩
abbrev Ln:Stmt:=eU 23
abbrev aaT:List Str:=["_law_rows","_law_names","_law_size","_law_name","_law_state","_law_pair"]
theorem EY:FnScope aaT ["_law_rows","_law_names","_law_size"] (defScope Ln):=(by trivial)
theorem abg (FA:fX K "_law_same" "_law_same" Ln f fd) (hB:bZ mg) (wX:Cal P w K mg base "_law_part" ["_law_name","_law_state","_law_size"] 1 (aQ K (rW c))) (Ey:Cal P w K mg base "_law_whole" ["_law_told"] 1 (aQ K (uN c))) :
  FnOk P w K mg base (L2.CX P w) 3 f fd ["_law_rows","_law_names","_law_size"] (aQ K (xq c)):=by
 rw[TJ]
 exact lU (g:=Fe c) FA EY rfl fun cdv A outer s H aY hr tk po=>⟨_,(a0f (b0w (PW.pt (pw_or (b0B (nJ K (Bj K hB (pv 0) (afe hB)))) (pw_or1 (yD K hr (Nu K hB (pv 0)) (pv 1))))) (a0f (a0X pe_bl)
 a0m) a0m)
 (a0f (ps_for po rfl (Nv K (pv 1)) (gG 3 EY.nd) (a0f (b0w (PW.pt (pw_or (b0B (nJ K (Bj K hB (fW K hr (pv 0) (pv 3)) (afd hB)))) (pw_or1 (yD K hr (uY K hB (fW K hr (pv 0) (pv 3))) (pv 2))))) (a0f (a0X pe_bl)
 a0m) a0m)
 (a0f (ps_for po rfl (k_ hB (pv 2)) (gG 4 EY.nd) (a0f (fH 5 EY.nd (fW K hr (fW K hr (pv 0) (pv 3)) (pv 4)))
 (a0f (b0w (PW.pt (pw_or (b0B (nJ K (Bj K hB (pv 5) (afc hB)))) (pw_or1 (yD K hr (pv 5) (qC wX hr (by decide) tk (a0k (pv 3) (a0k (pv 4) (a0k (pv 2) a0A)))))))) (a0f (a0X pe_bl)
 a0m) a0m)
 (a0f (b0w (PW.pt (pw_or (b0B (nJ K (qC Ey hr (by decide) tk (a0k (fW K hr (pv 5) a0x) a0A)))) (pw_or1 (b0B (nJ K (qC Ey hr (by decide) tk (a0k (fW K hr (pv 5) a0x) a0A))))))) (a0f (a0X pe_bl)
 a0m) a0m)
 a0m))))
 a0m)))
 (a0f (a0X pe_bl)
 a0m))),(aG (cX (vh (g8 (nM (fu Bs (aF ak (aF BW aK))))) (cW (aW yO (dY (O_ N7 (aF ak aK))) ak))) (aG (cH jg)
 aP) aP)
 (aG (qD (Ow ak) mF (aG (cX (vh (g8 (nM (fu Bs (aF (aW fY ak ak) (aF BW aK))))) (cW (aW yO (fu x_len (aF (aW fY ak ak) aK)) ak))) (aG (cH jg)
 aP) aP)
 (aG (qD (kY (aF ak aK)) mF (aG (cI (aW fY (aW fY ak ak) ak) fJ)
 (aG (cX (vh (g8 (nM (fu Bs (aF ak (aF BW aK))))) (cW (aW yO ak (x_call (aF ak (aF ak (aF ak aK))))))) (aG (cH jg)
 aP) aP)
 (aG (cX (vh (g8 (nM (x_call (aF (aW fY ak bx) aK)))) (g8 (nM (x_call (aF (aW fY ak bx) aK))))) (aG (cH jg)
 aP) aP)
 aP))))
 aP)))
 (aG (cH jg)
 aP)))⟩
end
end Z
set_option maxHeartbeats 2000000
namespace Z
open PySem L2 DL AL TY PyProof.Rows
section
variable {P:Program} {w:World} {K:PySem.W.Frag} {mg:Str→Option Value} {base:Heap} {f:Addr} {fd:FuncData} {c:CL}
abbrev lZ:Stmt:=inClass (eU 14) 0
abbrev DP:List Str:=["self","told","state"]
theorem Aa:oY DP ["self"] (defScope lZ):=⟨rfl,rfl,rfl,by decide +kernel,rfl,by decide +kernel,by decide +kernel,by decide +kernel,rfl,rfl⟩
theorem aaf (FA:lJ P K mg "rows" "Shown.rows" lZ c.Shown f fd) (hB:bZ mg) (KH:iw P w K mg base c.Shown c.Shown "rows" ["self"] 1 (aQ K (eX c))) (cA:∀C∈[c.Kind,c.Shown,c.Raised,c.Emptied,c.Counter,c.Full],Cls K C∧NoAttr K C "size") :
  FnOk P w K mg base (L2.CX P w) 3 f fd ["self"] (aQ K (uG c)):=by
 rw[Sw]
 refine Cy FA Aa (AL.runN 1 3 (Eh c)) (fun args h y e=>qm e) ?_
 intro cda cc A outer s H aY hp U hr
 have tk:Takes (jM (L2.CX P w) P w K mg base DP "Shown.rows" (defScope lZ) f (.ref cda) cc A outer s H aY) (fun cls d _ H=>aY cls d H):=b0J rfl rfl rfl rfl
 have po:=b0A (X:=(jM (L2.CX P w) P w K mg base DP "Shown.rows" (defScope lZ) f (.ref cda) cc A outer s H aY)) rfl
 exact⟨_,(Ar 1 U rfl Aa rfl rfl (by rw[hp];rfl) KH hr (by decide) tk Aa.nd
 (a0f (ps_asg (pe_lc (own:=[("state",2)]) rfl Aa.nd (k_ hB (jw K (pv 0) rfl)) (b0M (own:=[("state",2)]) (N:=DP) (sc:=defScope lZ) (by trivial)) (fun _ _ _ _ _=>(gG 2 Aa.nd)) (fun _ _ _ _ _=>pts_nil) (fun _ _ _ _ _=>(pe_tup (a0k (pv 2) (a0k (pv 2) a0A))))) (pg_sub (pv 1) b0f (oZ hr)))
 (a0f (a0X (pv 1))
 a0m))),(aG (o_ (pH ak aK))
 (aG (cI (dY (tD (kY (aF (jA (cA) ak) aK)) (rZ (i:=2) (by decide)) sU (nY (aF ak (aF ak aK))))) (pq ak dw))
 (aG (cH ak)
 aP)))⟩
abbrev zN:Stmt:=inClass (eU 15) 0
abbrev DQ:List Str:=["self","told","state"]
theorem Ad:qj DQ "self" (defScope zN):=⟨rfl,rfl,rfl,by decide +kernel,rfl,rfl,by decide +kernel,by decide +kernel,fun _ _=>rfl,fun _=>rfl,by decide +kernel,rfl,rfl⟩
theorem aag (FA:lJ P K mg "rows" "Raised.rows" zN c.Raised f fd) (hB:bZ mg) (KJ:iw P w K mg base c.Full c.Raised "rows" ["self"] 3 (aQ K (uD c))) (cA:∀C∈[c.Kind,c.Shown,c.Raised,c.Emptied,c.Counter,c.Full],Cls K C∧NoAttr K C "size") :
  FnOk P w K mg base (L2.CX P w) 5 f fd ["self"] (aQ K (uH c)):=by
 rw[Sy]
 refine Qy FA Ad (AL.runN 1 3 (Ei c)) (fun args h y e=>qm e) ?_
 intro cda cc A outer s H aY hp U hr
 have tk:Takes (oK "self" (L2.CX P w) P w K mg base DQ "Raised.rows" (defScope zN) f (.ref cda) cc A outer s H aY) (fun cls d _ H=>aY cls d H):=b0J rfl rfl rfl rfl
 have po:=b0A (X:=(oK "self" (L2.CX P w) P w K mg base DQ "Raised.rows" (defScope zN) f (.ref cda) cc A outer s H aY)) rfl
 exact⟨_,(Nh 1 U rfl Ad rfl (by rw[hp];rfl) KJ hr (by decide) tk Ad.nd
 (a0f (ps_asg (pe_lc (own:=[("state",2)]) rfl Ad.nd (k_ hB (jw K (pv 0) rfl)) (b0M (own:=[("state",2)]) (N:=DQ) (sc:=defScope zN) (by trivial)) (fun _ _ _ _ _=>(gG 2 Ad.nd)) (fun _ _ _ _ _=>pts_nil) (fun _ _ _ _ _=>(pe_tup (a0k (pv 2) (a0k (mO (mH K (pv 2) a0x) (jw K (pv 0) rfl)) a0A))))) (pg_sub (pv 1) b0f (oZ hr)))
 (a0f (a0X (pv 1))
 a0m))),(aG (o_ (pH ak aK))
 (aG (cI (dY (tD (kY (aF (jA (cA) ak) aK)) (rZ (i:=2) (by decide)) sU (nY (aF ak (aF (aW mV (aW mW ak bx) (jA (cA) ak)) aK))))) (pq ak dw))
 (aG (cH ak)
 aP)))⟩
abbrev Lp:Stmt:=eU 20
abbrev aaU:List Str:=["_law_script","_law_k","_law_many","_law_cell","_law_great","_law_left","_law_row_here","_law_at"]
theorem oU:FnScope aaU ["_law_script","_law_k","_law_many"] (defScope Lp):=(by trivial)
theorem abh (FA:fX K "_law_row" "_law_row" Lp f fd) (hB:bZ mg)  :
  FnOk P w K mg base (L2.CX P w) 1 f fd ["_law_script","_law_k","_law_many"] (aQ K (wZ c)):=by
 rw[Tz]
 exact lU (g:=E_ c) FA oU rfl fun cdv A outer s H aY hr tk po=>⟨_,(a0f (fH 3 oU.nd a0x)
 (a0f (b0w (q_lt (pv 1) (uY K hB (pv 0))) (a0f (fH 3 oU.nd (nU hB (fW K hr (pv 0) (pv 1))))
 a0m) a0m)
 (a0f (fH 4 oU.nd (ago (pv 3) (WW a0x a0x)))
 (a0f (fH 5 oU.nd (fW K hr (b0L (a0k (mH K (pv 3) (Bq a0x (pv 1))) (a0k (WT (pv 3) (WW a0x a0x)) a0A))) (nU hB (pv 4))))
 (a0f (fH 6 oU.nd (b0L a0A))
 (a0f (ps_for po rfl (k_ hB (pv 2)) (gG 7 oU.nd) (a0f (b0w (b0B (nJ K (pv 4))) (a0f (fH 5 oU.nd (mO (nU hB (mH K (mH K (Bq (pv 5) a0x) (Bq a0x (pv 7))) a0x)) a0x))
 (a0f (fH 5 oU.nd (mO (nU hB (mH K (mH K (Bq (pv 5) a0x) (Bq a0x (pv 7))) a0x)) a0x))
 a0m)) a0m)
 (a0f (ps_expr (pe_bm PySem.F.plainAttrs_list PySem.F.slot_list_append PySem.F.type_list_append mt_append (pv 6) (a0k (mO (nU hB (pv 5)) a0x) a0A)))
 (a0f (b0w (nJ K (pv 4)) (a0f (fH 5 oU.nd (ae6 (pv 5) a0x))
 a0m) a0m)
 a0m))))
 (a0f (a0X (pv 6))
 a0m))))))),(aG (cI bx fJ)
 (aG (cX (cW (aW x_lt ak (fu x_len (aF ak aK)))) (aG (cI (fu nO (aF (aW fY ak ak) aK)) fJ)
 aP) aP)
 (aG (cI (aW x_ge ak (aW W9 bx bx)) fJ)
 (aG (cI (aW fY (dY (jT (aF (aW mW ak (aW Br bx ak)) (aF (aW W8 ak (aW W9 bx bx)) aK)))) (fu nO (aF ak aK))) fJ)
 (aG (o_ (jT aK))
 (aG (qD (kY (aF ak aK)) mF (aG (cX (g8 (nM ak)) (aG (cI (aW mV (fu nO (aF (aW mW (aW mW (aW Br ak bx) (aW Br bx ak)) bx) aK)) bx) fJ)
 (aG (cI (aW mV (fu nO (aF (aW mW (aW mW (aW Br ak bx) (aW Br bx ak)) bx) aK)) bx) fJ)
 aP)) aP)
 (aG (uU (agw afx ak (aF (aW mV (fu nO (aF ak aK)) bx) aK)))
 (aG (cX (nM ak) (aG (cI (aW afl ak bx) fJ)
 aP) aP)
 aP))))
 (aG (cH Xb)
 aP)))))))⟩
abbrev La:Stmt:=eU 21
abbrev aaE:List Str:=["_law_told"]
theorem aaV:FnScope aaE ["_law_told"] (defScope La):=(by trivial)
theorem aaW (FA:fX K "_law_whole" "_law_whole" La f fd) (hB:bZ mg)  :
  FnOk P w K mg base (L2.CX P w) 1 f fd ["_law_told"] (aQ K (uN c)):=by
 rw[Tq]
 exact lU (g:=Ew c) FA aaV rfl fun cdv A outer s H aY hr tk po=>⟨_,(a0f (a0X (pe_and (Bj K hB (pv 0) (afa hB)) (pe_one (pe_not (Bj K hB (pv 0) (afb hB))))))
 a0m),(aG (cH (adX (fu Bs (aF ak (aF BW aK))) (adY (fu Bs (aF ak (aF BW aK))))))
 aP)⟩
end
end Z
set_option maxHeartbeats 2000000
namespace Z
open PySem L2 DL AL TY PyProof.Rows
section
variable {P:Program} {w:World} {K:PySem.W.Frag} {mg:Str→Option Value} {base:Heap} {f:Addr} {fd:FuncData} {c:CL}
abbrev LR:Stmt:=eU 10
abbrev aa_:List Str:=["text","letter"]
theorem Um:FnScope aa_ ["text"] (defScope LR):=(by trivial)
theorem aby (FA:fX K "is_name" "is_name" LR f fd) (hB:bZ mg) (Nm:∃t,mg "LETTERS"=some (.str "abcdefghijklmnopqrstuvwxyz" t)) :
  FnOk P w K mg base (L2.CX P w) 1 f fd ["text"] (aQ K (xK c)):=by
 rw[TV]
 exact lU (g:=Fp c) FA Um rfl fun cdv A outer s H aY hr tk po=>⟨_,(a0f (b0w (b0B (sG lA lA a0x (uY K hB (pv 0)) a0x)) (a0f (a0X pe_bl)
 a0m) a0m)
 (a0f (ps_for po rfl (pi_str (pv 0)) (gG 1 Um.nd) (a0f (b0w (V7 K hr (pv 1) (adP Nm)) (a0f (a0X pe_bl)
 a0m) a0m)
 a0m))
 (a0f (a0X pe_bl)
 a0m))),(aG (cX (g8 (cW (sJ lF lF bx (fu x_len (aF ak aK)) bx))) (aG (cH jg)
 aP) aP)
 (aG (qD (ad5 ak) mF (aG (cX (cW (aW Xx ak dw)) (aG (cH jg)
 aP) aP)
 aP))
 (aG (cH jg)
 aP)))⟩
abbrev lX:Stmt:=inClass (eU 15) 0
abbrev Dt:List Str:=["self","told","state"]
theorem zU:qj Dt "self" (defScope lX):=⟨rfl,rfl,rfl,by decide +kernel,rfl,rfl,by decide +kernel,by decide +kernel,fun _ _=>rfl,fun _=>rfl,by decide +kernel,rfl,rfl⟩
theorem ZG (FA:lJ P K mg "rows" "Raised.rows" lX c.Raised f fd) (hB:bZ mg) (Kh:iw P w K mg base c.Raised c.Raised "rows" ["self"] 1 (aQ K (eX c))) (cA:∀C∈[c.Kind,c.Shown,c.Raised,c.Emptied,c.Counter,c.Full],Cls K C∧NoAttr K C "size") :
  FnOk P w K mg base (L2.CX P w) 3 f fd ["self"] (aQ K (ux c)):=by
 rw[R5]
 refine Qy FA zU (AL.runN 1 3 (DR c)) (fun args h y e=>qm e) ?_
 intro cda cc A outer s H aY hp U hr
 have tk:Takes (oK "self" (L2.CX P w) P w K mg base Dt "Raised.rows" (defScope lX) f (.ref cda) cc A outer s H aY) (fun cls d _ H=>aY cls d H):=b0J rfl rfl rfl rfl
 have po:=b0A (X:=(oK "self" (L2.CX P w) P w K mg base Dt "Raised.rows" (defScope lX) f (.ref cda) cc A outer s H aY)) rfl
 exact⟨_,(Nh 1 U rfl zU rfl (by rw[hp];rfl) Kh hr (by decide) tk zU.nd
 (a0f (ps_asg (pe_lc (own:=[("state",2)]) rfl zU.nd (k_ hB (jw K (pv 0) rfl)) (b0M (own:=[("state",2)]) (N:=Dt) (sc:=defScope lX) (by trivial)) (fun _ _ _ _ _=>(gG 2 zU.nd)) (fun _ _ _ _ _=>pts_nil) (fun _ _ _ _ _=>(pe_tup (a0k (pv 2) (a0k (mO (mH K (pv 2) a0x) (jw K (pv 0) rfl)) a0A))))) (pg_sub (pv 1) b0f (oZ hr)))
 (a0f (a0X (pv 1))
 a0m))),(aG (o_ (pH ak aK))
 (aG (cI (dY (tD (kY (aF (jA (cA) ak) aK)) (rZ (i:=2) (by decide)) sU (nY (aF ak (aF (aW mV (aW mW ak bx) (jA (cA) ak)) aK))))) (pq ak dw))
 (aG (cH ak)
 aP)))⟩
abbrev zH:Stmt:=inClass (eU 15) 0
abbrev Dm:List Str:=["self","told","state"]
theorem zP:qj Dm "self" (defScope zH):=⟨rfl,rfl,rfl,by decide +kernel,rfl,rfl,by decide +kernel,by decide +kernel,fun _ _=>rfl,fun _=>rfl,by decide +kernel,rfl,rfl⟩
theorem Zt (FA:lJ P K mg "rows" "Raised.rows" zH c.Raised f fd) (hB:bZ mg) (JT:iw P w K mg base c.Counter c.Raised "rows" ["self"] 1 (aQ K (eX c))) (cA:∀C∈[c.Kind,c.Shown,c.Raised,c.Emptied,c.Counter,c.Full],Cls K C∧NoAttr K C "size") :
  FnOk P w K mg base (L2.CX P w) 3 f fd ["self"] (aQ K (uw c)):=by
 rw[RM]
 refine Qy FA zP (AL.runN 1 3 (DK c)) (fun args h y e=>qm e) ?_
 intro cda cc A outer s H aY hp U hr
 have tk:Takes (oK "self" (L2.CX P w) P w K mg base Dm "Raised.rows" (defScope zH) f (.ref cda) cc A outer s H aY) (fun cls d _ H=>aY cls d H):=b0J rfl rfl rfl rfl
 have po:=b0A (X:=(oK "self" (L2.CX P w) P w K mg base Dm "Raised.rows" (defScope zH) f (.ref cda) cc A outer s H aY)) rfl
 exact⟨_,(Nh 1 U rfl zP rfl (by rw[hp];rfl) JT hr (by decide) tk zP.nd
 (a0f (ps_asg (pe_lc (own:=[("state",2)]) rfl zP.nd (k_ hB (jw K (pv 0) rfl)) (b0M (own:=[("state",2)]) (N:=Dm) (sc:=defScope zH) (by trivial)) (fun _ _ _ _ _=>(gG 2 zP.nd)) (fun _ _ _ _ _=>pts_nil) (fun _ _ _ _ _=>(pe_tup (a0k (pv 2) (a0k (mO (mH K (pv 2) a0x) (jw K (pv 0) rfl)) a0A))))) (pg_sub (pv 1) b0f (oZ hr)))
 (a0f (a0X (pv 1))
 a0m))),(aG (o_ (pH ak aK))
 (aG (cI (dY (tD (kY (aF (jA (cA) ak) aK)) (rZ (i:=2) (by decide)) sU (nY (aF ak (aF (aW mV (aW mW ak bx) (jA (cA) ak)) aK))))) (pq ak dw))
 (aG (cH ak)
 aP)))⟩
abbrev zL:Stmt:=inClass (eU 16) 0
abbrev DG:List Str:=["self","told","state"]
theorem zY:oY DG ["self"] (defScope zL):=⟨rfl,rfl,rfl,by decide +kernel,rfl,by decide +kernel,by decide +kernel,by decide +kernel,rfl,rfl⟩
theorem ZP (FA:lJ P K mg "rows" "Emptied.rows" zL c.Emptied f fd) (hB:bZ mg) (Ko:iw P w K mg base c.Full c.Emptied "rows" ["self"] 1 (aQ K (eX c))) (cA:∀C∈[c.Kind,c.Shown,c.Raised,c.Emptied,c.Counter,c.Full],Cls K C∧NoAttr K C "size") :
  FnOk P w K mg base (L2.CX P w) 3 f fd ["self"] (aQ K (uD c)):=by
 rw[R7]
 refine Cy FA zY (AL.runN 1 3 (D_ c)) (fun args h y e=>qm e) ?_
 intro cda cc A outer s H aY hp U hr
 have tk:Takes (jM (L2.CX P w) P w K mg base DG "Emptied.rows" (defScope zL) f (.ref cda) cc A outer s H aY) (fun cls d _ H=>aY cls d H):=b0J rfl rfl rfl rfl
 have po:=b0A (X:=(jM (L2.CX P w) P w K mg base DG "Emptied.rows" (defScope zL) f (.ref cda) cc A outer s H aY)) rfl
 exact⟨_,(Ar 1 U rfl zY rfl rfl (by rw[hp];rfl) Ko hr (by decide) tk zY.nd
 (a0f (ps_asg (pe_lc (own:=[("state",2)]) rfl zY.nd (k_ hB (jw K (pv 0) rfl)) (b0M (own:=[("state",2)]) (N:=DG) (sc:=defScope zL) (by trivial)) (fun _ _ _ _ _=>(gG 2 zY.nd)) (fun _ _ _ _ _=>pts_nil) (fun _ _ _ _ _=>(pe_tup (a0k (pv 2) (a0k a0x a0A))))) (pg_sub (pv 1) b0f (oZ hr)))
 (a0f (a0X (pv 1))
 a0m))),(aG (o_ (pH ak aK))
 (aG (cI (dY (tD (kY (aF (jA (cA) ak) aK)) (rZ (i:=2) (by decide)) sU (nY (aF ak (aF bx aK))))) (pq ak dw))
 (aG (cH ak)
 aP)))⟩
end
end Z
set_option maxHeartbeats 2000000
local macro_rules | `(tactic| walk_at "fm")=>`(tactic| exact⟨_,_,_,_,_,_,_,_,_,_,by k_is,by k_is,by k_is,by k_is⟩)
local macro_rules | `(tactic| walk_at "mm")=>`(tactic| exact⟨_,_,_,_,_,_,_,_,_,_,by k_is,by k_is,by k_is,by k_is,by k_is⟩)
local macro_rules | `(tactic| walk_at "md")=>`(tactic| exact⟨_,_,_,_,_,_,_,_,_,_,by k_is,by k_is,by k_is,by k_is,by k_is,by k_is⟩)
local macro_rules | `(tactic| walk_at "cm")=>`(tactic| exact⟨by k_is,by k_is,by k_is,by k_is,by k_is,by k_is,by k_is⟩)
local macro_rules | `(tactic| walk_at "em")=>`(tactic| exact⟨_,by k_is,⟨_,_,_,_,_,_,_,_,_,_,_,_,_,_,_,by k_is,by first|rfl|decide +kernel⟩,by k_is,by k_is,by k_is,by k_is,by k_is,by k_is,by k_is,by k_is,by k_is,by k_is,by k_is,by first|with_unfolding_all rfl|skip,⟨_,_,_,_,_,_,_,_,_,_,_,_,_,_,_,_,_,_,_,by k_is,by k_is,by k_is,by first|rfl|k_is,by first|rfl|decide +kernel,by k_is⟩,by k_is⟩)
local macro_rules | `(tactic| walk_at "zm")=>`(tactic| exact⟨by k_is,by k_is,by k_is,by k_is,by k_is,by k_is,by k_is,by k_is,by k_is,by k_is,by k_is,by k_is,by k_is,by k_is,by k_is,by k_is,by k_is,by k_is,by k_is,by k_is,by k_is,by k_is,by k_is⟩)
local macro_rules | `(tactic| walk_at "bd")=>`(tactic| first|exact fun _ _ _ _ _ _=>AL.bd1 fun _=>rfl|exact fun _ _ _ _ _ _=>AL.bd2 fun _ _=>rfl|exact fun _ _ _ _ _ _=>AL.bd3 fun _ _ _=>rfl|exact fun _ _ _ _ _ _=>AL.bd4 fun _ _ _ _=>rfl|exact fun _ _ _ _ _ _=>AL.bd5 fun _ _ _ _ _=>rfl|exact fun _ _ _ _ _ _=>AL.bd6 fun _ _ _ _ _ _=>rfl|exact fun _ _ _ _ _ _=>AL.bd7 fun _ _ _ _ _ _ _=>rfl)
local macro_rules | `(tactic| walk_at "sy")=>`(tactic| exact⟨_,_,_,_,_,_,_,_,_,{body:=⟨_,_,_,_,_,_,rfl,rfl⟩,args:=rfl,GZ:=rfl,vB:=rfl,vC:=rfl,HW:=(by intro p hp;rw[a0s.mp hp];rfl),kind:=rfl,gen:=rfl,co:=rfl,Yg:=by decide +kernel,first:=(fun x us h=>match us,h with | [_],_=>rfl),bind:=(fun _ _ _ _ _ _ _ us h=>match us,h with | [_,_],_=>rfl)},by decide +kernel⟩)
local macro_rules | `(tactic| walk_at "pm")=>`(tactic| exact⟨_,_,_,_,_,_,_,_,_,_,_,_,by k_is,by k_is,by k_is,by k_is,by k_is,by k_is,by k_is⟩)
namespace Z
open PySem L2 DL AL TY PyProof.Rows
abbrev Ud:Stmt:=inClass (eU 3) 0
theorem abb:Hz Ud "BadTable.__init__" "name":=by walk_at "sy"
abbrev Tw:Stmt:=inClass (eU 4) 0
theorem aaF:Hz Tw "NoOperation.__init__" "name":=by walk_at "sy"
abbrev T6:Stmt:=inClass (eU 5) 0
theorem aaX:Hz T6 "BadNumber.__init__" "number":=by walk_at "sy"
def mkC (w:World) (Ez:Addr) (xG:Addr) (wQ:Addr) (qd:Addr) (cD:Addr) (sY:Addr) (gK:Addr) (gH:Addr) (iH:Addr) (mD:Addr) (jW:Addr):CL:={OrderError:=Ez,BadTable:=xG,NoOperation:=wQ,NoCell:=cD,BadName:=cD,BadNumber:=qd,BadClient:=cD,BadRun:=cD,Over:=cD,TooLarge:=cD,BadStep:=cD,BadRow:=cD,Table:=cD,Kind:=sY,Shown:=gK,Raised:=gH,Emptied:=iH,Counter:=mD,Full:=jW,Memory:=cD,Operation:=cD,Alone:=cD,Build:=cD,Space:=cD,Desk:=cD,Call:=cD,Fixer:=cD,Spoiler:=cD,Verdict:=cD,AtOnce:=cD,Afterwards:=cD,Never:=cD,Repair:=cD,Standing:=cD,w:=w,has:=[.BadTable,.NoOperation,.BadNumber]}
abbrev zzPP:Prop:=∀{c:TY.CL} (ok:c.Ok) (hB:TY.EC.BadNumber∈c.has) (sc:List Int),Ay c sc=some (.ok true)
theorem okl (HK:zzPP) (c:CL) (h3:c.has=[.BadTable,.NoOperation,.BadNumber]) (uh:c.Kd) (ok:c.Ok):∀ns:List Int,ns.length≤63→∃h',Ax c [.d (.dG ns)] []=some (.ret (.d (.bl true)),h'):=fun ns _=>⟨_,abK uh ok (HK ok (by rw[h3];simp) ns)⟩
theorem all_mk (HK:zzPP) {l:PySem.W.OpenLaw} {w:World} {K:PySem.W.Frag} {h:Heap} {mg:Str→Option Value} {fa:Addr} (X:K.In h) (G:h.Ns mainGlobals mg) (hfa:mg "law"=some (.ref fa))
  {abj:Tok}
  {aaG:Tok}
  {aah:Tok}
  {xG:Addr}
  {wQ:Addr}
  {qd:Addr}
  {Ez:Addr}
  {cD:Addr}
  {sY:Addr}
  {gK:Addr}
  {gH:Addr}
  {iH:Addr}
  {mD:Addr}
  {jW:Addr}
  {uE:Addr} {ZQ ZR:Option Addr} {ZS:Array (Option Value)} {ZV ZW ZX Z0 SM Z4:Value}
  {SN:Addr} {Z5:Value} {ZJ:Option Addr} {Z6:Nat} {Z7:Array (Option Value)} {ZK:Tok}
  {jt:Addr} {aai aaj:Option Addr} {aak:Array (Option Value)} {aal aam aan aao S8 aap:Value}
  {gW:Addr} {aaH aaI:Option Addr} {aaJ:Array (Option Value)} {aaK aaL aaM aaN Tr aaO:Value}
  {oO Du JF:Addr} {Zu R8 Zj Zk:Option Addr} {Zv Zm Zo:Array (Option Value)} {R9:Array Value} {Zw R_ Sd Sh Sq Zq Zx:Value} {RN:Str} {Zy:Tok}
  {lY Dj Ji:Addr} {Zd RP Y8 Y9:Option Addr} {Ze Y_ Za:Array (Option Value)} {RQ:Array Value} {Zf RW RX R3 R4 Zb Zg:Value} {Rv:Str} {Zh:Tok}
  {oN Dh Iv:Addr} {Y0 Rw YS YT:Option Addr} {Y4 YW YX:Array (Option Value)} {Ry:Array Value} {Y5 Rz RB RD RG YZ Y6:Value} {Ru:Str} {Y7:Tok}
  {Mp:Addr} {aaY aaZ:Option Addr} {aa0:Array (Option Value)} {aa1 aa2 aa3 aa4 TQ aa5:Value}
  (hz:Yy K)
  (fL:PySem.W.nsIn K cStatics "thirdparty.any"=some none)
  (top:(l.prog.main.scope.names.lookup ("super":Str)).isSome=false)
  (Np:PySem.W.nsIn K mainGlobals "LETTERS"=some (some (.str "abcdefghijklmnopqrstuvwxyz" abj)))
  (L_:PySem.W.nsIn K mainGlobals "MOST_STATES"=some (some (.int 100 aaG)))
  (K_:PySem.W.nsIn K mainGlobals "MOST_OPERATIONS"=some (some (.int 6 aah)))
  (MP:jO l K xG "BadTable" "BadTable.__init__" "name" Ud)
  (Lq:jO l K wQ "NoOperation" "NoOperation.__init__" "name" Tw)
  (mj:jO l K qd "BadNumber" "BadNumber.__init__" "number" T6)
  (Xj:PySem.W.nsIn K mainGlobals "OrderError"=some (some (.ref Ez)))
  (JV:PySem.W.subIn K (.ref xG) (.ref qd)=some false)
  (Jj:PySem.W.subIn K (.ref wQ) (.ref qd)=some false)
  (JG:PySem.W.subIn K (.ref qd) (.ref qd)=some true)
  (oV:pY K "Table" cD)
  (Lr:PySem.W.findIn K (.ref cD) "start"=some none)
  (Ls:PySem.W.findIn K (.ref cD) "lines"=some none)
  (Ma:PySem.W.findIn K (.ref cD) "size"=some none)
  (xR:pY K "Kind" sY)
  (Mq:PySem.W.findIn K (.ref sY) "size"=some none)
  (xH:pY K "Shown" gK)
  (Mf:PySem.W.findIn K (.ref gK) "size"=some none)
  (wY:pY K "Raised" gH)
  (Lw:PySem.W.findIn K (.ref gH) "size"=some none)
  (wU:pY K "Emptied" iH)
  (Lf:PySem.W.findIn K (.ref iH) "size"=some none)
  (wV:pY K "Counter" mD)
  (Lg:PySem.W.findIn K (.ref mD) "size"=some none)
  (xT:pY K "Full" jW)
  (Mr:PySem.W.findIn K (.ref jW) "size"=some none)
  (Ms:qZ K "is_name" LR)
  (M4:qZ K "is_row" Ml)
  (Ea:PySem.W.findIn K (.ref cD) "__init__"=some (some (.ref uE)))
  (Eb:PySem.W.isFn K (.ref uE)=true)
  (Kr:K.lookup uE=some ⟨ZV,ZQ,.func (PySem.W.fnOf "__init__" "Table.__init__" (defArgs rC) (defBody rC) (defScope rC) (.ref SN) ZW ZX Z0 ZR SM Z4),ZS⟩)
  (Ks:PySem.W.codeIn K SM "Table.__init__"=true)
  (Ku:PySem.W.keepIn K (.ref uE)=true)
  (Kv:K.lookup SN=some ⟨Z5,ZJ,.seq ([.int 0 ZK]:List Value).toArray Z6,Z7⟩)
  (JW:Rg K cD "operations" "Table.operations" JC)
  (Kw:Rh K cD "__call__" "Table.__call__" Kf)
  (KQ:PySem.W.findIn K (.ref sY) "__init__"=some (some (.ref jt)))
  (rF:PySem.W.isFn K (.ref jt)=true)
  (KR:K.lookup jt=some ⟨aal,aai,.func (PySem.W.fnOf "__init__" "Kind.__init__" (defArgs wC) (defBody wC) (defScope wC) .none aam aan aao aaj S8 aap),aak⟩)
  (KY:PySem.W.codeIn K S8 "Kind.__init__"=true)
  (KZ:PySem.W.keepIn K (.ref jt)=true)
  (Es:PySem.W.findIn K (.ref sY) "rows"=some (some (.ref gW)))
  (Et:PySem.W.isFn K (.ref gW)=true)
  (Ly:K.lookup gW=some ⟨aaK,aaH,.func (PySem.W.fnOf "rows" "Kind.rows" (defArgs wM) (defBody wM) (defScope wM) .none aaL aaM aaN aaI Tr aaO),aaJ⟩)
  (Lz:PySem.W.codeIn K Tr "Kind.rows"=true)
  (Aj:PySem.W.keepIn K (.ref gW)=true)
  (JX:PySem.W.findIn K (.ref gK) "rows"=some (some (.ref oO)))
  (zV:PySem.W.isFn K (.ref oO)=true)
  (JZ:K.lookup oO=some ⟨Zw,Zu,.func (PySem.W.ksFn "rows" "Shown.rows" (L2.defArgs lZ) (L2.defBody lZ) (L2.defScope lZ) .none R_ Sd Sh R8 (.ref Du) Sq JF),Zv⟩)
  (J5:PySem.W.codeIn K (.ref Du) "Shown.rows"=true)
  (JH:K.lookup Du=some ⟨Zq,Zj,.fields R9,Zm⟩)
  (JK:R9[2]?=some (.str RN Zy))
  (JL:((l.prog.main.file:Str) == RN)=true)
  (JM:K.lookup JF=some ⟨Zx,Zk,.cell (some (.ref gK)),Zo⟩)
  (wB:PySem.W.keepIn K (.ref oO)=true)
  (JN:(PySem.W.clsIn K gK).isSome=true)
  (Jr:PySem.W.findIn K (.ref gH) "rows"=some (some (.ref lY)))
  (Jt:PySem.W.isFn K (.ref lY)=true)
  (Ju:K.lookup lY=some ⟨Zf,Zd,.func (PySem.W.ksFn "rows" "Raised.rows" (L2.defArgs lX) (L2.defBody lX) (L2.defScope lX) .none RW RX R3 RP (.ref Dj) R4 Ji),Ze⟩)
  (Jv:PySem.W.codeIn K (.ref Dj) "Raised.rows"=true)
  (Jk:K.lookup Dj=some ⟨Zb,Y8,.fields RQ,Y_⟩)
  (Jl:RQ[2]?=some (.str Rv Zh))
  (Jm:((l.prog.main.file:Str) == Rv)=true)
  (Jo:K.lookup Ji=some ⟨Zg,Y9,.cell (some (.ref gH)),Za⟩)
  (Dy:PySem.W.keepIn K (.ref lY)=true)
  (Jp:(PySem.W.clsIn K gH).isSome=true)
  (Jd:PySem.W.findIn K (.ref iH) "rows"=some (some (.ref oN)))
  (Je:PySem.W.isFn K (.ref oN)=true)
  (Jf:K.lookup oN=some ⟨Y5,Y0,.func (PySem.W.ksFn "rows" "Emptied.rows" (L2.defArgs lW) (L2.defBody lW) (L2.defScope lW) .none Rz RB RD Rw (.ref Dh) RG Iv),Y4⟩)
  (Jg:PySem.W.codeIn K (.ref Dh) "Emptied.rows"=true)
  (Iw:K.lookup Dh=some ⟨YZ,YS,.fields Ry,YW⟩)
  (Iz:Ry[2]?=some (.str Ru Y7))
  (IK:((l.prog.main.file:Str) == Ru)=true)
  (IV:K.lookup Iv=some ⟨Y6,YT,.cell (some (.ref iH)),YX⟩)
  (Dk:PySem.W.keepIn K (.ref oN)=true)
  (IW:(PySem.W.clsIn K iH).isSome=true)
  (M7:PySem.W.findIn K (.ref mD) "rows"=some (some (.ref oO)))
  (Oq:PySem.W.findIn K (.ref jW) "rows"=some (some (.ref oO)))
  (uK:PySem.W.typeIn K (.ref gW)=some (.type "function"))
  (uL:PySem.W.fnIn K gW=true)
  (Dq:PySem.W.typeIn K (.ref lY)=some (.type "function"))
  (Dr:PySem.W.fnIn K lY=true)
  (I_:PySem.W.typeIn K (.ref oN)=some (.type "function"))
  (Ja:PySem.W.fnIn K oN=true)
  (Ky:PySem.W.ks_superIn K gK gK "rows"=some (some (.ref gW)))
  (Kz:PySem.W.mroIn K gK (.ref gK)=some true)
  (J8:PySem.W.ks_superIn K gH gH "rows"=some (some (.ref gW)))
  (J9:PySem.W.mroIn K gH (.ref gH)=some true)
  (Jw:PySem.W.ks_superIn K iH iH "rows"=some (some (.ref gW)))
  (Jx:PySem.W.mroIn K iH (.ref iH)=some true)
  (JQ:PySem.W.ks_superIn K mD gH "rows"=some (some (.ref gW)))
  (JR:PySem.W.mroIn K mD (.ref gH)=some true)
  (J_:PySem.W.ks_superIn K mD gK "rows"=some (some (.ref lY)))
  (Ka:PySem.W.mroIn K mD (.ref gK)=some true)
  (Kl:PySem.W.ks_superIn K jW iH "rows"=some (some (.ref gW)))
  (Km:PySem.W.mroIn K jW (.ref iH)=some true)
  (KC:PySem.W.ks_superIn K jW gH "rows"=some (some (.ref oN)))
  (KD:PySem.W.mroIn K jW (.ref gH)=some true)
  (K6:PySem.W.ks_superIn K jW gK "rows"=some (some (.ref lY)))
  (K7:PySem.W.mroIn K jW (.ref gK)=some true)
  (Mg:qZ K "_law_row" Lp)
  (Lh:qZ K "_law_whole" La)
  (Mh:qZ K "_law_part" Lk)
  (Mi:qZ K "_law_same" Ln)
  (Ld:qZ K "_law_refused" K8)
  (Mu:PySem.W.nsIn K mainGlobals "law"=some (some (.ref Mp)))
  (Mv:K.lookup Mp=some ⟨aa1,aaY,.func (PySem.W.fnOf "law" "law" (defArgs wO) (defBody wO) (defScope wO) .none aa2 aa3 aa4 aaZ TQ aa5),aa0⟩)
  (Mw:PySem.W.codeIn K TQ "law"=true)
  (Mx:PySem.W.keepIn K (.ref Mp)=true)
  (uh:([sY,gK,gH,iH,mD,jW]:List Addr).Nodup)
  (Jq:PySem.W.findIn K (.ref gK) "__init__"=some (some (.ref jt)))
  (Jh:PySem.W.findIn K (.ref gH) "__init__"=some (some (.ref jt)))
  (Jb:PySem.W.findIn K (.ref iH) "__init__"=some (some (.ref jt)))
  (Jc:PySem.W.findIn K (.ref mD) "__init__"=some (some (.ref jt)))
  (Jy:PySem.W.findIn K (.ref jW) "__init__"=some (some (.ref jt)))
  (nd:([xG,wQ,qd]:List Addr).Nodup) :
  ∃fd:FuncData,(∀(s:Shared) (v:Value),BindsTo s fd ⟨[v],[]⟩ [("_law_script",v)])∧∀base:Heap,K.In base→base.Ns mainGlobals mg→FnOk l.prog w K mg base (L2.CX l.prog w) 9 fa fd ["_law_script"] (Bx K):=by
 have e:=hfa.symm.trans (a0J X G Mu)
 cases e
 have hB:=agf X G hz
 have Nm:=a0J X G Np
 have LK:=a0J X G L_
 have El:=a0J X G K_
 have xr:=MP.er X G hB fL top abb
 have LQ:=Lq.er X G hB fL top aaF
 have i_:=mj.er X G hB fL top aaX
 have M8:=oV.cls
 have Nq:=xR.cls
 have Uo:=xH.cls
 have Ue:=wY.cls
 have T7:=wU.cls
 have T8:=wV.cls
 have Uw:=xT.cls
 have Ec:FunD K "__init__" "Table.__init__" (defArgs rC) (defBody rC) (defScope rC) [.int 0] [] uE _:=⟨⟨_,_,_,_,_,_,_,_,_,_,rfl,Kr,Ks,.inr ⟨by simp,_,_,_,_,rfl,Kv,rfl,(.cons ⟨_,rfl⟩ .nil)⟩,.inl rfl⟩,Ku⟩
 obtain⟨abM,ag8,Z8⟩:=Ec.binds1 (ps:=["self","rows","start"]) 2 0 (by simp) rfl fun _ _ _ _ _ _ _ us its h1 h2=>match us,its,h1,h2 with | [_,_],[_],_,_=>⟨_,rfl,rfl⟩
 obtain⟨ag5,aaq,aar⟩:=Ec.binds1 (ps:=["self","rows","start"]) 3 1 (by simp) rfl fun _ _ _ _ _ _ _ us its h1 h2=>match us,its,h1,h2 with | [_,_,_],[_],_,_=>⟨_,rfl,rfl⟩
 cases aaq
 have uI:=fun_mk (st:=wC) KR KY KZ
 have wG:=uI.binds (ps:=["self","size"]) fun _ _ _ _ _ _ us hl=>match us,hl with | [_,_],_=>rfl
 have rN:=fun_mk (st:=wM) Ly Lz Aj
 have uM:=rN.binds (ps:=["self"]) fun _ _ _ _ _ _ us hl=>match us,hl with | [_],_=>rfl
 have Kc:lJ l.prog K mg "rows" "Shown.rows" lZ gK oO _:=⟨⟨_,_,_,_,_,_,_,_,_,_,_,_,_,_,_,_,_,_,_,_,rfl,JZ,J5,JH,JK,JL,JM⟩,wB,JN,hB _ (by trivial),top,fL⟩
 have Ke:L2.Binds K (PySem.W.ksFn "rows" "Shown.rows" (L2.defArgs lZ) (L2.defBody lZ) (L2.defScope lZ) .none R_ Sd Sh R8 (.ref Du) Sq JF) ["self"] []:=L2.Binds.all fun us hl=>match us,hl with | [_],_=>rfl
 have Jz:lJ l.prog K mg "rows" "Raised.rows" lX gH lY _:=⟨⟨_,_,_,_,_,_,_,_,_,_,_,_,_,_,_,_,_,_,_,_,rfl,Ju,Jv,Jk,Jl,Jm,Jo⟩,Dy,Jp,hB _ (by trivial),top,fL⟩
 have JB:L2.Binds K (PySem.W.ksFn "rows" "Raised.rows" (L2.defArgs lX) (L2.defBody lX) (L2.defScope lX) .none RW RX R3 RP (.ref Dj) R4 Ji) ["self"] []:=L2.Binds.all fun us hl=>match us,hl with | [_],_=>rfl
 have RK:lJ l.prog K mg "rows" "Emptied.rows" lW iH oN _:=⟨⟨_,_,_,_,_,_,_,_,_,_,_,_,_,_,_,_,_,_,_,_,rfl,Jf,Jg,Iw,Iz,IK,IV⟩,Dk,IW,hB _ (by trivial),top,fL⟩
 have RL:L2.Binds K (PySem.W.ksFn "rows" "Emptied.rows" (L2.defArgs lW) (L2.defBody lW) (L2.defScope lW) .none Rz RB RD Rw (.ref Dh) RG Iv) ["self"] []:=L2.Binds.all fun us hl=>match us,hl with | [_],_=>rfl
 have T9:=fun_mk (st:=wO) Mv Mw Mx
 have ag6:=T9.binds (ps:=["_law_script"]) fun _ _ _ _ _ _ us hl=>match us,hl with | [_],_=>rfl
 let cc:CL:=mkC w Ez xG wQ qd cD sY gK gH iH mD jW
 have cok:cc.Ok:=ab_ nd
 have MN:=adi (K:=K) (c:=cc) (X:=.BadNumber) (all1 (PySem.W.exm_ref mj.b mj.hd mj.ty JV) (all1 (PySem.W.exm_ref mj.b mj.hd mj.ty Jj) (all1 (PySem.W.exm_ref mj.b mj.hd mj.ty JG) Cr)))
 have nD:∀C∈[cc.Table],Cls K C∧NoAttr K C "lines":=(all1 ⟨M8,Ls⟩ Cr)
 have uX:∀C∈[cc.Table],Cls K C∧NoAttr K C "size":=(all1 ⟨M8,Ma⟩ Cr)
 have FW:∀C∈[cc.Table],Cls K C∧NoAttr K C "start":=(all1 ⟨M8,Lr⟩ Cr)
 have cA:∀C∈[cc.Kind,cc.Shown,cc.Raised,cc.Emptied,cc.Counter,cc.Full],Cls K C∧NoAttr K C "size":=(all1 ⟨Nq,Mq⟩ (all1 ⟨Uo,Mf⟩ (all1 ⟨Ue,Lw⟩ (all1 ⟨T7,Lf⟩ (all1 ⟨T8,Lg⟩ (all1 ⟨Uw,Mr⟩ Cr))))))
 have Fv:=Ms.cal l w X G (fun _ _ _ FA=>aby (c:=cc) FA hB ⟨_,Nm⟩) (by walk_at "bd")
 have FT:=M4.cal l w X G (fun _ _ _ FA=>abL (c:=cc) FA hB ⟨_,LK⟩) (by walk_at "bd")
 have ag9:∀base,Mak l.prog w K mg base "Table" cc.Table ["self","rows","start"] abM 3 (aQ K (rH cc)):=fun base=>⟨uE,_,Td (c:=cc) (WR Ec) hB ⟨_,El⟩ xr (Fv _) (FT _) nD uX FW,⟨oV.ms,Ea,Eb,oV.kc⟩,a0J X G oV.a,Z8⟩
 have Om:∀base,Mak l.prog w K mg base "Table" cc.Table ["self","rows","start"] [] 3 (aQ K (rH cc)):=fun base=>⟨uE,_,Td (c:=cc) (WR Ec) hB ⟨_,El⟩ xr (Fv _) (FT _) nD uX FW,⟨oV.ms,Ea,Eb,oV.kc⟩,a0J X G oV.a,aar⟩
 have Mj:=JW.cal l w oV (fun _ _ _ FA=>aad (c:=cc) FA hB nD) (by walk_at "bd")
 have Oo:=Kw.agZ l w (fun _ _ _ FA=>aaz (c:=cc) FA hB LQ i_ nD uX) (by walk_at "bd")
 have yr:∀base,Mak l.prog w K mg base "Shown" cc.Shown ["self","size"] [] 3 (aQ K (bU cc)):=fun base=>⟨jt,_,wJ (c:=cc) (iK uI) hB i_ cA,⟨xH.ms,Jq,rF,xH.kc⟩,a0J X G xH.a,wG⟩
 have yc:∀base,Mak l.prog w K mg base "Raised" cc.Raised ["self","size"] [] 3 (aQ K (bU cc)):=fun base=>⟨jt,_,wJ (c:=cc) (iK uI) hB i_ cA,⟨wY.ms,Jh,rF,wY.kc⟩,a0J X G wY.a,wG⟩
 have xP:∀base,Mak l.prog w K mg base "Emptied" cc.Emptied ["self","size"] [] 3 (aQ K (bU cc)):=fun base=>⟨jt,_,wJ (c:=cc) (iK uI) hB i_ cA,⟨wU.ms,Jb,rF,wU.kc⟩,a0J X G wU.a,wG⟩
 have xQ:∀base,Mak l.prog w K mg base "Counter" cc.Counter ["self","size"] [] 3 (aQ K (bU cc)):=fun base=>⟨jt,_,wJ (c:=cc) (iK uI) hB i_ cA,⟨wV.ms,Jc,rF,wV.kc⟩,a0J X G wV.a,wG⟩
 have u9:∀base,Mak l.prog w K mg base "Full" cc.Full ["self","size"] [] 3 (aQ K (bU cc)):=fun base=>⟨jt,_,wJ (c:=cc) (iK uI) hB i_ cA,⟨xT.ms,Jy,rF,xT.kc⟩,a0J X G xT.a,wG⟩
 have yx:∀base,Mak l.prog w K mg base "Kind" cc.Kind ["self","size"] [] 3 (aQ K (bU cc)):=fun base=>⟨jt,_,wJ (c:=cc) (iK uI) hB i_ cA,⟨xR.ms,KQ,rF,xR.kc⟩,a0J X G xR.a,wG⟩
 have ahe:∀base,vD l.prog w K mg base cc.Kind "rows" ["self"] 1 (aQ K (eX cc)):=fun base=>⟨gW,_,uO (c:=cc) (iK rN) hB,Nq,⟨Es,Et,Aj⟩,uM⟩
 have KH:∀base,iw l.prog w K mg base cc.Shown cc.Shown "rows" ["self"] 1 (aQ K (eX cc)):=fun base=>⟨gW,_,uO (c:=cc) (iK rN) hB,Ky,uK,uL,Kz,uM⟩
 have Kh:∀base,iw l.prog w K mg base cc.Raised cc.Raised "rows" ["self"] 1 (aQ K (eX cc)):=fun base=>⟨gW,_,uO (c:=cc) (iK rN) hB,J8,uK,uL,J9,uM⟩
 have JD:∀base,iw l.prog w K mg base cc.Emptied cc.Emptied "rows" ["self"] 1 (aQ K (eX cc)):=fun base=>⟨gW,_,uO (c:=cc) (iK rN) hB,Jw,uK,uL,Jx,uM⟩
 have JT:∀base,iw l.prog w K mg base cc.Counter cc.Raised "rows" ["self"] 1 (aQ K (eX cc)):=fun base=>⟨gW,_,uO (c:=cc) (iK rN) hB,JQ,uK,uL,JR,uM⟩
 have Kg:∀base,iw l.prog w K mg base cc.Counter cc.Shown "rows" ["self"] 3 (aQ K (uw cc)):=fun base=>⟨lY,_,Zt (c:=cc) Jz hB (JT _) cA,J_,Dq,Dr,Ka,JB⟩
 have Ko:∀base,iw l.prog w K mg base cc.Full cc.Emptied "rows" ["self"] 1 (aQ K (eX cc)):=fun base=>⟨gW,_,uO (c:=cc) (iK rN) hB,Kl,uK,uL,Km,uM⟩
 have KJ:∀base,iw l.prog w K mg base cc.Full cc.Raised "rows" ["self"] 3 (aQ K (uD cc)):=fun base=>⟨oN,_,ZP (c:=cc) RK hB (Ko _) cA,KC,I_,Ja,KD,RL⟩
 have K9:∀base,iw l.prog w K mg base cc.Full cc.Shown "rows" ["self"] 5 (aQ K (uH cc)):=fun base=>⟨lY,_,aag (c:=cc) Jz hB (KJ _) cA,K6,Dq,Dr,K7,JB⟩
 have GF:∀base,∀p∈mZ cc,∃k,k≤7∧vD l.prog w K mg base p.1 "rows" ["self"] k (aQ K p.2):=fun base p hp=>by rcases(by simpa only[mZ,a0c,a0Z,or_false] using hp:p=(cc.Kind,eX cc)∨p=(cc.Shown,uG cc)∨p=(cc.Raised,ux cc)∨p=(cc.Emptied,uo cc)∨p=(cc.Counter,uz cc)∨p=(cc.Full,uJ cc)) with rfl|rfl|rfl|rfl|rfl|rfl;exact⟨1,by decide,gW,_,uO (c:=cc) (iK rN) hB,Nq,⟨Es,Et,Aj⟩,uM⟩;exact⟨3,by decide,oO,_,aaf (c:=cc) Kc hB (KH _) cA,Uo,⟨JX,zV,wB⟩,Ke⟩;exact⟨3,by decide,lY,_,ZG (c:=cc) Jz hB (Kh _) cA,Ue,⟨Jr,Jt,Dy⟩,JB⟩;exact⟨3,by decide,oN,_,Zi (c:=cc) RK hB (JD _) cA,T7,⟨Jd,Je,Dk⟩,RL⟩;exact⟨5,by decide,oO,_,ZF (c:=cc) Kc hB (Kg _) cA,T8,⟨M7,zV,wB⟩,Ke⟩;exact⟨7,by decide,oO,_,aaw (c:=cc) Kc hB (K9 _) cA,Uw,⟨Oq,zV,wB⟩,Ke⟩
 have M6:=Mg.cal l w X G (fun _ _ _ FA=>abh (c:=cc) FA hB) (by walk_at "bd")
 have Ey:=Lh.cal l w X G (fun _ _ _ FA=>aaW (c:=cc) FA hB) (by walk_at "bd")
 have wX:=Mh.cal l w X G (fun _ _ _ FA=>abf (c:=cc) FA hB) (by walk_at "bd")
 have MK:=Mi.cal l w X G (fun _ _ _ FA=>abg (c:=cc) FA hB (wX _) (Ey _)) (by walk_at "bd")
 have Lj:=Ld.cal l w X G (fun _ _ _ FA=>aaP (c:=cc) FA hB (yx _) (yr _) (yc _) (xP _) (xQ _) (u9 _) i_ MN) (by walk_at "bd")
 exact⟨_,fun s v=>.of_eq rfl,fun base _ _=>aeA (abx (c:=cc) (iK T9) hB (M6 _) (yx _) (yr _) (yc _) (xP _) (xQ _) (u9 _) (GF _) (MK _) (Lj _) (Om _) (Oo _) (wX _) (Mj _)) (okl HK cc rfl uh cok)⟩
end Z
namespace HT
open PySem PySem.W PySem.Calls PyProof.Rows
def gaps:Nat→List Nat→Option (List Nat)
 | _,[]=>some []
 | i,a::as=>match Nat.ble i a with
  | true=>(match gaps (a+1) as with
   | some gs=>some ((a-i)::gs)
   | none=>none)
  | false=>none
def pick:List Obj→List Nat→List (Option Obj)
 | [],gs=>gs.map fun _=>none
 | o::r,gs=>match gs with
  | []=>[]
  | g::gs=>match g with
   | 0=>alive o::pick r gs
   | k+1=>pick r (k::gs)
def look (l:List Obj) (a:Nat):Option Obj:=(l[a]?).bind alive
theorem acn (h:Heap) (a:Addr):look h.objs.toList a=h.get? a:=by
 unfold look Heap.get?
 rw[Array.getElem?_toList]
 cases h.objs[a]? with
 | none=>rfl
 | some o=>
  obtain⟨c,d,dt,sl⟩:=o
  cases dt<;>rfl
theorem Nr:∀(l:List Obj) (i:Nat) (as gs:List Nat),gaps i as=some gs→pick l gs=as.map fun a=>look l (a-i)
 | [],i,as,gs,e=>by
  have z:∀(as:List Nat) (i:Nat) (gs:List Nat),gaps i as=some gs→gs.length=as.length:=by
   intro as
   induction as with
   | nil=>intro i gs e;cases e;rfl
   | cons a as ih=>
    intro i gs e
    unfold gaps at e
    cases hb:Nat.ble i a with
    | false=>rw[hb] at e;cases e
    | true=>
     rw[hb] at e
     cases hg:gaps (a+1) as with
     | none=>rw[hg] at e;cases e
     | some gs'=>
      rw[hg] at e
      cases e
      rw[a0P,a0P,ih _ _ hg]
  show gs.map (fun _=>none)=_
  refine a0L fun n=>?_
  rw[a0p,a0p]
  have hl:=z as i gs e
  cases h1:gs[n]? with
  | none=>
   have:as.length≤n:=by rw[← hl];exact List.getElem?_eq_none_iff.mp h1
   rw[a0D this];rfl
  | some g=>
   have hn:n<as.length:=by rw[← hl];exact(a0d.mp h1).1
   rw[a0e hn]
   show some none=some (look [] _)
   unfold look
   rfl
 | o::r,i,[],gs,e=>by cases e;rfl
 | o::r,i,a::as,gs,e=>by
  unfold gaps at e
  cases hb:Nat.ble i a with
  | false=>rw[hb] at e;cases e
  | true=>
   rw[hb] at e
   cases hg:gaps (a+1) as with
   | none=>rw[hg] at e;cases e
   | some gs'=>
    rw[hg] at e
    cases e
    have hle:i≤a:=b0b hb
    have gt:∀(as:List Nat) (j:Nat) (gs:List Nat),gaps j as=some gs→∀b∈as,j≤b:=by
     intro as
     induction as with
     | nil=>intro j gs _ b hm;cases hm
     | cons c cs ih=>
      intro j gs e b hm
      unfold gaps at e
      cases hb:Nat.ble j c with
      | false=>rw[hb] at e;cases e
      | true=>
       rw[hb] at e
       cases hg:gaps (c+1) cs with
       | none=>rw[hg] at e;cases e
       | some gs'=>
        have hj:j≤c:=b0b hb
        cases hm with
        | head=>exact hj
        | tail _ hm=>have:=ih _ _ hg b hm;omega
    have big:∀b∈as,i<b:=fun b hm=>by have:=gt as (a+1) gs' hg b hm;omega
    have step:∀b,i<b→look (o::r) (b-i)=look r (b-(i+1)):=fun b hb=>by
     unfold look
     rw[show b-i=(b-(i+1))+1 by omega,List.getElem?_cons_succ]
    cases q:a-i with
    | zero=>
     have hai:a=i:=by omega
     have hg2:gaps (i+1) as=some gs':=hai▸hg
     show alive o::pick r gs'=_
     rw[a0y,Nr r (i+1) as gs' hg2]
     have e0:look (o::r) (a-i)=alive o:=by rw[q];rfl
     rw[e0]
     congr 1
     exact b0m fun b hm=>(step b (big b hm)).symm
    | succ k=>
     have hg2:gaps (i+1) (a::as)=some (k::gs'):=by
      unfold gaps
      rw[show Nat.ble (i+1) a=true from Nat.ble_eq_true_of_le (by omega),hg,show a-(i+1)=k by omega]
     show pick r (k::gs')=_
     rw[Nr r (i+1) (a::as) (k::gs') hg2]
     exact b0m fun b hm=>(step b (by
      cases hm with
      | head=>omega
      | tail _ hm=>exact big b hm)).symm
def obs (as:List Addr) (s:Shared):List (Option Obj):=match gaps 0 as with
 | some gs=>pick s.heap.objs.toList gs
 | none=>as.map s.heap.get?
theorem aeV (as:List Addr) (s:Shared):obs as s=as.map s.heap.get?:=by
 unfold obs
 cases e:gaps 0 as with
 | none=>rfl
 | some gs=>
  show pick _ gs=_
  rw[Nr _ 0 as gs e]
  exact b0m fun a _=>by rw[Nat.sub_zero];exact acn _ a
def hook (K:Params→Frag) (as:List Addr) (e:∀P,as=(K P).map (·.1)):Hook:=
 ⟨List (Option Obj),obs as,fun w=>(K w.params).map fun p=>some p.2,InK K,fun w s x=>InK.of e w s (aeV as s▸x),InK.keeps⟩
theorem in_of {K:Params→Frag} {as:List Addr} {e:∀P,as=(K P).map (·.1)} {w:World} {h:Heap} (Y:(hook K as e).says w h):(K w.params).In h:=Y
end HT
local macro_rules | `(tactic| o_head ($f:ident $K $as $e))=>`(tactic| o_head HT.hook $K $as $e)
local macro_rules | `(tactic| refine $h:ident $args*)=>do
 unless args.size > 15&&args.back!.raw.isOfKind ``Lean.Parser.Term.syntheticHole do Lean.Macro.throwUnsupported
 let a:=args.pop
 `(tactic| refine($h $a* ((?hc:Z.zzPP→_) (by assumption))))

def PySem.W.Fast.tw11984782206945833123:=0
def PySem.W.Fast.tw3898183927283123108:=0
def PySem.W.Fast.tw10714006614777843398:=0
def PySem.W.Fast.tw14036312726786978023:=0
def PySem.W.Fast.tw3833841209930032202:=0
def PySem.W.Fast.tw15966850480718459052:=0
def PySem.W.Fast.tw4517163179241588717:=0
def PySem.W.Fast.tw6351854780166376688:=0
def PySem.W.Fast.tw18004554690491870545:=0
def PySem.W.Fast.tw1040597046584657875:=0
def PySem.W.Fast.tw17342643830174537941:=0
def PySem.W.Fast.tw2683470641580296661:=0
def PySem.W.Fast.tw366605428457999893:=0
def PySem.W.Fast.tw6397483790477888694:=0
def PySem.W.Fast.tw8464557428383793849:=0
def PySem.W.Fast.tw5956464631252287323:=0
def PySem.W.Fast.tw16795669646968461469:=0
def PySem.W.Fast.tw2052245130115971286:=0
def PySem.W.Fast.tw15311647391695311799:=0
open PySem PySem.W PyProof.Rows in
set_option maxRecDepth 100000 in
set_option maxHeartbeats 0 in
theorem Z.zzWalk (HK : Z.zzPP) : PySem.Challenge.rw_orderatonce_k03_kinds_rows.Holds := by
 w_on;o_law;x_head;(case hw=>w_witness2);intro HK
 k_fill
 skip
 refine TY.af2 (l:=PySem.Challenge.rw_orderatonce_k03_kinds_rows) (k:=9) (x:="_law_script") ⟨rfl,by decide,by decide⟩ rfl rfl (fun w h Y=>HT.in_of Y) ?F
 case F=>
  intro w mg fa h KX G hmg
  refine' Z.all_mk HK KX G hmg ?hz ?fL ?top ?Np ?L_ ?K_ ?MP ?Lq ?mj ?Xj ?JV ?Jj ?JG ?oV ?Lr ?Ls ?Ma ?xR ?Mq ?xH ?Mf ?wY ?Lw ?wU ?Lf ?wV ?Lg ?xT ?Mr ?Ms ?M4 ?Ea ?Eb ?Kr ?Ks ?Ku ?Kv ?JW ?Kw ?KQ ?rF ?KR ?KY ?KZ ?Es ?Et ?Ly ?Lz ?Aj ?JX ?zV ?JZ ?J5 ?JH ?JK ?JL ?JM ?wB ?JN ?Jr ?Jt ?Ju ?Jv ?Jk ?Jl ?Jm ?Jo ?Dy ?Jp ?Jd ?Je ?Jf ?Jg ?Iw ?Iz ?IK ?IV ?Dk ?IW ?M7 ?Oq ?uK ?uL ?Dq ?Dr ?I_ ?Ja ?Ky ?Kz ?J8 ?J9 ?Jw ?Jx ?JQ ?JR ?J_ ?Ka ?Kl ?Km ?KC ?KD ?K6 ?K7 ?Mg ?Lh ?Mh ?Mi ?Ld ?Mu ?Mv ?Mw ?Mx ?uh ?Jq ?Jh ?Jb ?Jc ?Jy ?nd
  (case hz=>walk_at "zm")
  (case fL=>k_is)
  (case top=>first|rfl|decide +kernel)
  (case Np|L_|K_=>k_is)
  (case MP|Lq|mj=>walk_at "em")
  (case Xj|JV|Jj|JG=>k_is)
  (case oV=>walk_at "cm")
  (case Lr|Ls|Ma=>k_is)
  (case xR=>walk_at "cm")
  (case Mq=>k_is)
  (case xH=>walk_at "cm")
  (case Mf=>k_is)
  (case wY=>walk_at "cm")
  (case Lw=>k_is)
  (case wU=>walk_at "cm")
  (case Lf=>k_is)
  (case wV=>walk_at "cm")
  (case Lg=>k_is)
  (case xT=>walk_at "cm")
  (case Mr=>k_is)
  (case Ms|M4=>walk_at "fm")
  (case Ea|Eb|Kr|Ks|Ku|Kv=>k_is)
  (case JW=>walk_at "mm")
  (case Kw=>walk_at "md")
  (case KQ|rF|KR|KY|KZ|Es|Et|Ly|Lz|Aj|JX|zV|JZ|J5|JH=>k_is)
  (case JK=>first|rfl|k_is)
  (case JL=>first|rfl|decide +kernel)
  (case JM|wB=>k_is)
  (case JN=>first|rfl|k_is|decide +kernel)
  (case Jr|Jt|Ju|Jv|Jk=>k_is)
  (case Jl=>first|rfl|k_is)
  (case Jm=>first|rfl|decide +kernel)
  (case Jo|Dy=>k_is)
  (case Jp=>first|rfl|k_is|decide +kernel)
  (case Jd|Je|Jf|Jg|Iw=>k_is)
  (case Iz=>first|rfl|k_is)
  (case IK=>first|rfl|decide +kernel)
  (case IV|Dk=>k_is)
  (case IW=>first|rfl|k_is|decide +kernel)
  (case M7|Oq|uK|uL|Dq|Dr|I_|Ja=>k_is)
  (case Ky=>first|ks_is|with_unfolding_all rfl)
  (case Kz=>k_is)
  (case J8=>first|ks_is|with_unfolding_all rfl)
  (case J9=>k_is)
  (case Jw=>first|ks_is|with_unfolding_all rfl)
  (case Jx=>k_is)
  (case JQ=>first|ks_is|with_unfolding_all rfl)
  (case JR=>k_is)
  (case J_=>first|ks_is|with_unfolding_all rfl)
  (case Ka=>k_is)
  (case Kl=>first|ks_is|with_unfolding_all rfl)
  (case Km=>k_is)
  (case KC=>first|ks_is|with_unfolding_all rfl)
  (case KD=>k_is)
  (case K6=>first|ks_is|with_unfolding_all rfl)
  (case K7=>k_is)
  (case Mg|Lh|Mh|Mi|Ld=>walk_at "fm")
  (case Mu|Mv|Mw|Mx=>k_is)
  (case uh=>decide +kernel)
  (case Jq|Jh|Jb|Jc|Jy=>k_is)
  (case nd=>decide +kernel)
set_option maxHeartbeats 2000000
namespace TY
open PySem L2 DL AL PyProof.Rows
structure Rj where
 base:Int
 locals:List Str
 cells:List Str
 glue:List (Str×Int)
 kind:Int
 at_:Int
 starts:List Int
 strong:List Str
 ops:List (Str×(List D)×Int×Int)
end TY
set_option maxHeartbeats 2000000
namespace TY
open PySem L2 DL AL PyProof.Rows
end TY
set_option maxHeartbeats 2000000
namespace TY
open PySem L2 DL AL PyProof.Rows
def Pv {α:Type} (o:Option α) (P:α→Prop):Prop:=∃a,o=some a∧P a
section
variable {α β γ ι ρ:Type} {P Q:α→Prop} {o:Option α}
theorem bD {a:α} (h:P a):Pv (some a) P:=⟨a,rfl,h⟩
theorem Pv.eq {a:α} (h:Pv o (fun x=>x=a)):o=some a:=by obtain⟨x,e,rfl⟩:=h;exact e
theorem Pv.imp (h:Pv o P) (k:∀a,P a→Q a):Pv o Q:=by obtain⟨a,e,p⟩:=h;exact⟨a,e,k a p⟩
theorem yt {f:α→Option β} {P:β→Prop} (h:Pv o fun a=>Pv (f a) P):Pv (o.bind f) P:=by
 obtain⟨a,rfl,b,e,p⟩:=h;exact⟨b,e,p⟩
theorem aH {f:α→Option β} {a:α} {P:β→Prop} (e:o=some a) (h:Pv (f a) P):Pv (o.bind f) P:=by subst e;exact h
theorem fO {f:α→Option β} {a:α} {P:β→Prop} (h:Pv (f a) P):Pv (dD a f) P:=h
theorem vA {b:Bool} {o1 o2:Option α} (h1:b=true→Pv o1 P) (h2:b=false→Pv o2 P):Pv (if b=true then o1 else o2) P:=by
 cases b with
 | true=>rw[a0g rfl];exact h1 rfl
 | false=>rw[a0h (by simp)];exact h2 rfl
theorem yX {b:Bool} {o1 o2:Option α} (hb:b=true) (h:Pv o1 P):Pv (if b=true then o1 else o2) P:=by rw[a0g hb];exact h
theorem dJ {b:Bool} {o1 o2:Option α} (hb:b=false) (h:Pv o2 P):Pv (if b=true then o1 else o2) P:=by rw[hb,a0h (by simp)];exact h
def CtP (N:α→Prop) (V:ρ→Prop):Ct α ρ→Prop
 | .nx a=>N a
 | .bk a=>N a
 | .rt v=>V v
theorem eY {o:Option (Ct α ρ)} {t:α→Option ρ} {P:ρ→Prop} (h:Pv o (CtP (fun a=>Pv (t a) P) P)):Pv (cJ o t) P:=by
 obtain⟨c,rfl,p⟩:=h
 cases c with
 | nx a=>exact p
 | bk a=>exact p
 | rt v=>exact⟨v,rfl,p⟩
theorem Ux {o:Option (Except Err α)} {inj:Err→ρ} {k:α→Option ρ} {P:ρ→Prop} {a:α} (e:o=some (.ok a)) (h:Pv (k a) P):Pv (oh o inj k) P:=by subst e;exact h
theorem yC {o:Option (Except Err α)} {f:α→Option β} {a:α} {P:β→Prop} (e:o=some (.ok a)) (h:Pv (f a) P):Pv ((pU o).bind f) P:=by subst e;exact h
theorem ady {f:ι→α→Option α} (I:List ι→α→Prop) {ys:List ι} {a:α} (h0:I [] a) (hs:∀done y rest b,ys=done++y::rest→I done b→Pv (f y b) (I (done++[y]))) (hP:∀b,I ys b→P b):Pv (lH f ys a) P:=by
 obtain⟨b,h1,h2⟩:=Vb (f:=f) (a:=a) I h0 (fun done y rest b e hb=>hs done y rest b e hb)
 exact⟨b,h1,hP b h2⟩
theorem Gm {f:ι→α→Option (Ct α ρ)} (I:List ι→α→Prop) {ys:List ι} {a:α} {P:Ct α ρ→Prop} (h0:I [] a) (hs:∀done y rest b,ys=done++y::rest→I done b→Pv (f y b) (fun c=>match c with|.nx b'=>I (done++[y]) b'|.bk b'=>P (.nx b')|.rt v=>P (.rt v))) (hP:∀b,I ys b→P (.nx b)):Pv (cV f ys a) P:=by
 have key:∀(rest done:List ι) (b:α),ys=done++rest→I done b→Pv (cV f rest b) P:=by
  intro rest
  induction rest with
  | nil=>intro done b e hb;rw[a0O] at e;subst e;exact⟨_,rfl,hP b hb⟩
  | cons y rest ih=>
   intro done b e hb
   obtain⟨c,h1,h2⟩:=hs done y rest b e hb
   cases c with
   | nx b'=>obtain⟨r,h3,h4⟩:=ih (done++[y]) b' (by rw[e];simp) h2;exact⟨r,by rw[VJ h1];exact h3,h4⟩
   | bk b'=>exact⟨_,ado h1,h2⟩
   | rt v=>exact⟨_,VL h1,h2⟩
 exact key ys [] a rfl h0
theorem Px {c:α→Option Bool} {f:α→Option (Ct α ρ)} (I:α→Prop) (μ:α→Nat) {a:α} {P:Ct α ρ→Prop} (h0:I a) (hs:∀b,I b→(c b=some false∧P (.nx b))∨(c b=some true∧Pv (f b) (fun x=>match x with|.nx b'=>I b'∧μ b'<μ b|.bk b'=>P (.nx b')|.rt v=>P (.rt v)))):Pv (zA c f a) P:=by
 have key:∀(m:Nat) (b:α),μ b≤m→I b→∃y,jG c f (m+1) b=some y∧P y:=by
  intro m
  induction m with
  | zero=>
   intro b hm hb
   rcases hs b hb with ⟨h1,h2⟩|⟨h1,x,h2,h3⟩
   ·exact⟨_,by unfold jG;rw[h1],h2⟩
   ·cases x with
    | nx b'=>exact absurd h3.2 (by omega)
    | bk b'=>exact⟨_,by unfold jG;rw[h1];simp only[h2],h3⟩
    | rt v=>exact⟨_,by unfold jG;rw[h1];simp only[h2],h3⟩
  | succ m ih=>
   intro b hm hb
   rcases hs b hb with ⟨h1,h2⟩|⟨h1,x,h2,h3⟩
   ·exact⟨_,by unfold jG;rw[h1],h2⟩
   ·cases x with
    | nx b'=>
     obtain⟨y,h4,h5⟩:=ih b' (by omega) h3.1
     exact⟨y,by unfold jG;rw[h1];simp only[h2];exact h4,h5⟩
    | bk b'=>exact⟨_,by unfold jG;rw[h1];simp only[h2],h3⟩
    | rt v=>exact⟨_,by unfold jG;rw[h1];simp only[h2],h3⟩
 obtain⟨y,h1,h2⟩:=key (μ a) a (a0v _) h0
 exact⟨y,aer h1,h2⟩
theorem Vf {κ:Type} {e:κ→ι} {f:ι→α→Option α}:∀{xs:List κ} {a:α},lH f (xs.map e) a=lH (fun y=>f (e y)) xs a
 | [],a=>rfl
 | x::xs,a=>by
  rw[a0y,M_,M_]
  congr 1;funext b;exact Vf
theorem Vg {κ:Type} {e:κ→ι} {f:ι→α→Option (Ct α ρ)}:∀{xs:List κ} {a:α},cV f (xs.map e) a=cV (fun y=>f (e y)) xs a
 | [],a=>rfl
 | x::xs,a=>by
  rw[a0y]
  conv=>lhs;unfold cV
  conv=>rhs;unfold cV
  cases f (e x) a with
  | none=>rfl
  | some c=>cases c<;>first|exact Vg|rfl
theorem aco {κ:Type} {e:κ→ι} {f:ι→α→Option α} (I:List κ→α→Prop) {xs:List κ} {a:α} (h0:I [] a) (hs:∀done y rest b,xs=done++y::rest→I done b→Pv (f (e y) b) (I (done++[y]))) (hP:∀b,I xs b→P b):Pv (lH f (xs.map e) a) P:=by
 rw[Vf];exact ady I h0 hs hP
theorem Vh {κ:Type} {e:κ→ι} {f:ι→α→Option (Ct α ρ)} (I:List κ→α→Prop) {xs:List κ} {a:α} {P:Ct α ρ→Prop} (h0:I [] a) (hs:∀done y rest b,xs=done++y::rest→I done b→Pv (f (e y) b) (fun c=>match c with|.nx b'=>I (done++[y]) b'|.bk b'=>P (.nx b')|.rt v=>P (.rt v))) (hP:∀b,I xs b→P (.nx b)):Pv (cV f (xs.map e) a) P:=by
 rw[Vg];exact Gm I h0 hs hP
theorem abk {n k:Nat} {done rest:List Nat} (e:List.range n=done++k::rest):done=List.range k∧k<n:=by
 have h1:done.length<n:=by have:=congrArg List.length e;simp at this;omega
 have h2:(List.range n)[done.length]?=some k:=by rw[e];simp
 rw[b0g h1] at h2
 have h3:done.length=k:=by simpa using h2
 refine⟨?_,by omega⟩
 have:done=(List.range n).take done.length:=by rw[e];simp
 rw[this,h3,List.take_range,Nat.min_eq_left (by omega)]
theorem FZ {f:Int→α→Option (Ct α ρ)} (I:Nat→α→Prop) {n:Nat} {a:α} {P:Ct α ρ→Prop} (h0:I 0 a) (hs:∀k b,k<n→I k b→Pv (f (k:Int) b) (fun c=>match c with|.nx b'=>I (k+1) b'|.bk b'=>P (.nx b')|.rt v=>P (.rt v))) (hP:∀b,I n b→P (.nx b)):Pv (cV f ((List.range n).map fun(i:Nat)=>(i:Int)) a) P:=by
 refine Vh (fun done b=>I done.length b) h0 ?_ (by simpa using hP)
 intro done y rest b e hb
 obtain⟨h1,h2⟩:=abk e
 have:done.length=y:=by rw[h1];simp
 rw[this] at hb
 refine(hs y b h2 hb).imp fun c hc=>?_
 cases c with
 | nx c=>show I (done++[y]).length c;rw[a0T,this];exact hc
 | bk c=>exact hc
 | rt c=>exact hc
theorem GJ {b:Bool} {o:Option Bool} {P:Bool→Prop} (hb:b=false) (h:Pv o P):Pv (t_ b o) P:=by unfold t_;rw[hb];exact h
end
theorem Nt {a b:Bool}:jF a (some b)=some (a&&b):=by cases a<;>rfl
abbrev Ev:=Str→Int
def Ev.set (ρ:Ev) (x:Str) (v:Int):Ev:=fun y=>if y=x then v else ρ y
def Yz (ρ:Ev):Pt→Int
 | .inl i=>i
 | .inr s=>ρ s
def CG (ρ:Ev) (w:List Pt):Int:=(w.map (Yz ρ)).sum
def iV (ρ:Ev) (b:Int) (w:List Pt):Int:=CG ρ w%b
def GP (ρ:Ev) (b:Int):Gd→Bool
 | .no=>true
 | .short _=>false
 | .full l sg w=>if sg="=" then decide (ρ l=iV ρ b w) else if sg="!" then !decide (ρ l=iV ρ b w) else decide (ρ l<iV ρ b w)
structure Op where
 name:Str
 steps:List St
 turns:Int
 other:Int
def Op.locs (o:Op):List Str:=Ws o.steps
def opI (o:Op):rO:=⟨o.name,o.steps.map sD,o.turns,o.other,o.locs⟩
structure Op.Ok (o:Op):Prop where
 steps:∀s∈o.steps,s.ok=true
 l1:1≤o.steps.length
 l8:o.steps.length≤8
 t1:1≤o.turns
 t4:o.turns≤4
 o0:0≤o.other
 o9:o.other≤9
 nm:o8 o.name=true
theorem adz {acc:List Str} {x:Str} (h:acc.Nodup):(jH acc x).Nodup:=by
 unfold jH
 split
 ·exact h
 ·rename_i hx;exact List.nodup_append.mpr ⟨h,by simp,fun a ha b hb=>by rw[a0s.mp hb];exact fun e=>hx (e▸ha)⟩
theorem acp {acc:List Str} {x y:Str}:y∈jH acc x↔y∈acc∨y=x:=by
 unfold jH
 split
 ·rename_i hx;exact⟨.inl,fun h=>h.elim id fun e=>e▸hx⟩
 ·simp
theorem Vi:∀{xs acc:List Str},acc.Nodup→(xs.foldl jH acc).Nodup
 | [],_,h=>h
 | x::xs,acc,h=>Vi (xs:=xs) (adz h)
theorem Uy:∀{xs acc:List Str} {y:Str},y∈xs.foldl jH acc↔y∈acc∨y∈xs
 | [],_,_=>by simp
 | x::xs,acc,y=>by rw[b0H,Uy,acp,a0c];exact or_assoc
theorem Vj:∀{ss:List St} {acc:List Str},acc.Nodup→(ss.foldl (fun acc s=>s.ls.foldl jH acc) acc).Nodup
 | [],_,h=>h
 | s::ss,acc,h=>Vj (ss:=ss) (Vi h)
theorem Uz:∀{ss:List St} {acc:List Str} {y:Str},y∈ss.foldl (fun acc s=>s.ls.foldl jH acc) acc↔y∈acc∨∃s∈ss,y∈s.ls
 | [],_,_=>by simp
 | s::ss,acc,y=>by
  rw[b0H,Uz,Uy]
  constructor
  ·rintro((h|h)|⟨t,h1,h2⟩)
   ·exact .inl h
   ·exact .inr ⟨s,by simp,h⟩
   ·exact .inr ⟨t,by simp[h1],h2⟩
  ·rintro(h|⟨t,h1,h2⟩)
   ·exact .inl (.inl h)
   ·rcases a0c.mp h1 with rfl|h1
    ·exact .inl (.inr h2)
    ·exact .inr ⟨t,h1,h2⟩
theorem adA {o:Op}:o.locs.Nodup:=Vj (by simp)
theorem yd {o:Op} {s:St} {y:Str} (hs:s∈o.steps) (hy:y∈s.ls):y∈o.locs:=Uz.mpr (.inr ⟨s,hs,hy⟩)
theorem NQ {L:List Str} {x:Str} (h:x∈L):∃i:Nat,j_ L x=some (i:Int)∧L[i]?=some x:=by
 unfold j_
 cases q:L.findIdx? fun z=>decide (z=x) with
 | none=>
  have:=List.findIdx?_eq_none_iff.mp q x h
  simp at this
 | some i=>
  refine⟨i,rfl,?_⟩
  obtain⟨h1,h2,_⟩:=List.findIdx?_eq_some_iff_getElem.mp q
  rw[a0e h1]
  simpa using h2
theorem WD {α:Type} {L:List Str} {x:Str} {i:Nat} {f:Str→α} (h:L[i]?=some x):atI (L.map f) (i:Int)=some (f x):=by rw[jB,a0p,h];rfl
theorem set_map {L:List Str} {ρ:Ev} {i:Nat} {x:Str} {v:Int} (hn:L.Nodup) (h:L[i]?=some x):(L.map ρ).set i v=L.map (ρ.set x v):=by
 refine a0L fun j=>?_
 rw[a0j]
 obtain⟨hl,hx⟩:=a0d.mp h
 split
 ·rename_i e;subst e
  rw[a0g (by simpa using hl),a0p,h]
  simp[Ev.set]
 ·rename_i e
  rw[a0p,a0p]
  cases q:L[j]? with
  | none=>rfl
  | some y=>
   have:y≠x:=fun z=>by
    subst z
    obtain⟨h2,e2⟩:=a0d.mp q
    exact e ((List.getElem_inj hn).mp (hx.trans e2.symm))
   simp[Ev.set,this]
theorem aeW {α:Type} {xs:List α} {i:Nat}:cut xs none (some (i:Int))=xs.take i:=by
 unfold cut
 rw[HT.sIx_none,HT.sIx_nat,List.drop_zero,Nat.sub_zero]
 by_cases h:i≤xs.length
 ·rw[Nat.min_eq_left h]
 ·rw[Nat.min_eq_right (by omega),b0x (a0v _),b0x (by omega)]
theorem acq {α:Type} {xs:List α} {i:Nat}:cut xs (some (i:Int)) none=xs.drop i:=by
 unfold cut
 rw[HT.sIx_none,HT.sIx_nat]
 rw[b0x (by rw[List.length_drop];exact a0v _)]
 by_cases h:i≤xs.length
 ·rw[Nat.min_eq_left h]
 ·rw[Nat.min_eq_right (by omega),List.drop_of_length_le (a0v _),List.drop_of_length_le (by omega)]
theorem Am {α:Type} {xs:List α} {i:Nat} {v:α} (h:i<xs.length) (hl:xs.length≤900000):oW xs (i:Int) v=some (xs.set i v):=by
 unfold oW
 have e2:((i:Int)+1)=((i+1:Nat):Int):=by omega
 rw[e2,aeW,acq,Og (by simp;omega)]
 simp only[a0i]
 rw[Og (by simp;omega)]
 simp only[a0i]
 rw[List.set_eq_take_append_cons_drop,a0g h]
 simp
theorem xJ {o:Op} {w:List Pt} {ρ:Ev} {b:Int} (hb:0<b) (hw:∀x∈pW w,x∈o.locs):rQ (opI o) (wD w) (o.locs.map ρ) b=some (iV ρ b w):=by
 refine Pv.eq ?_
 unfold rQ
 refine aH (show Yu (wD w)=some (w.map pD) from rfl) ?_
 refine yt (aco (fun done t=>t=CG ρ done) rfl ?_ ?_)
 ·rintro d q r t hr rfl
  have fin:Pv (some (CG ρ d+Yz ρ q)) (fun t=>t=CG ρ (d++[q])):=⟨_,rfl,by simp[CG]⟩
  refine aH af4 ?_
  cases q with
  | inl i=>
   refine yt (yX rfl ?_)
   refine aH (show Yt (pD (.inl i))=some i from rfl) ?_
   exact fO (bD fin)
  | inr x=>
   refine yt (dJ rfl ?_)
   have hx:x∈o.locs:=hw x (by rw[hr];unfold pW;exact b0t.mpr ⟨.inr x,by simp,rfl⟩)
   obtain⟨i,h1,h2⟩:=NQ hx
   refine aH (show qW (pD (.inr x))=some x from rfl) ?_
   refine aH (show j_ (opI o).locs x=some (i:Int) from h1) ?_
   refine aH (WD h2) ?_
   exact fO (bD fin)
 ·rintro t rfl
  exact aH (Gg hb) (bD rfl)
theorem abz {o:Op} {g:Gd} {ρ:Ev} {b:Int} (hb:0<b) (hg:Qq g=true) (hl:∀x∈g.ls++g.ws.flatMap pW,x∈o.locs):Oi (opI o) (gD g) (o.locs.map ρ) b=some (GP ρ b g):=by
 cases g with
 | no=>rfl
 | short gs=>cases hg
 | full l sg w=>
  refine Pv.eq ?_
  unfold Oi
  refine dJ rfl ?_
  refine aH (show bM (gD (.full l sg w)) (0:Int)=some (.str l) from rfl) ?_
  refine aH Oh ?_
  obtain⟨i,h1,h2⟩:=NQ (hl l (by simp[Gd.ls]))
  refine aH (show j_ (opI o).locs l=some (i:Int) from h1) ?_
  refine aH (WD h2) ?_
  refine aH (show bM (gD (.full l sg w)) (2:Int)=some (wD w) from rfl) ?_
  refine aH (xJ hb fun x hx=>hl x (by simp[Gd.ws,hx])) ?_
  refine aH (show bM (gD (.full l sg w)) (1:Int)=some (.str sg) from rfl) ?_
  refine aH gJ ?_
  have eg:GP ρ b (.full l sg w)=if sg="=" then decide (ρ l=iV ρ b w) else if sg="!" then !decide (ρ l=iV ρ b w) else decide (ρ l<iV ρ b w):=rfl
  rw[eg]
  refine vA (fun e=>bD ?_) fun e=>aH gJ (vA (fun e2=>bD ?_) fun e2=>bD ?_)
  ·rw[a0g (b0y e)]
  ·rw[a0h (of_decide_eq_false e),a0g (b0y e2)]
  ·rw[a0h (of_decide_eq_false e),a0h (of_decide_eq_false e2)]
inductive Fr where
 | jr (v:Int)|act (t a:Nat) (look:Int) (ρ:Ev)
def frT (L:List Str):Fr→Int×Int×Int×Int×List Int
 | .jr v=>(2,v,0,-1,[])
 | .act t a look ρ=>(1,(t:Int),(a:Int),look,L.map ρ)
def St.gw:St→List Pt
 | .give w _=>w
 | _=>[]
def scan (ρ:Ev) (b:Int) (ss:List St) (a:Nat):Option (Nat×St):=
 if h:a<ss.length then(if GP ρ b ss[a].g=true then some (a,ss[a]) else scan ρ b ss (a+1)) else none
termination_by ss.length-a
def land (ρ:Ev) (b:Int) (t:Nat) (x:Nat×St):Fr:=if x.2.jc=true then .jr (iV ρ b x.2.gw) else .act t x.1 (-1) ρ
def sS (o:Op) (b:Int) (ρ:Ev):Nat→Nat→Nat→Fr
 | 0,_,_=>.jr o.other
 | k+1,t,a=>match scan ρ b o.steps a with
  | some x=>land ρ b t x
  | none=>sS o b ρ k (t+1) 0
def d9 (o:Op) (b:Int) (ρ:Ev) (t a:Nat):Fr:=sS o b ρ (o.turns.toNat-t) t a
theorem adB (s:St):bM (sD s) (-(1:Int))=some (gD s.g):=by cases s<;>rfl
theorem adC (s:St):∃w r,sD s=.tup (.str w::r)∧s.jc=decide (w="give"):=by
 cases s with
 | read l c g=>exact⟨"read",_,rfl,show false=_ by decide +kernel⟩
 | write c w g=>exact⟨"write",_,rfl,show false=_ by decide +kernel⟩
 | swap l c w g=>exact⟨"swap",_,rfl,show false=_ by decide +kernel⟩
 | cas l c o w g=>exact⟨"cas",_,rfl,show false=_ by decide +kernel⟩
 | give w g=>exact⟨"give",_,rfl,show true=_ by decide +kernel⟩
theorem Op.Ok.gd {o:Op} (h:o.Ok) {s:St} (hs:s∈o.steps):Qq s.g=true∧∀x∈s.g.ls++s.g.ws.flatMap pW,x∈o.locs:=by
 have:=h.steps s hs
 refine⟨?_,fun x hx=>yd hs ?_⟩
 ·unfold St.ok at this;simp only[a0o] at this;exact this.1.1.1
 ·unfold St.ls St.ws
  rcases b0G.mp hx with hx|hx
  ·simp[hx]
  ·rw[List.flatMap_append];simp[hx]
theorem Op.Ok.wd {o:Op} {s:St} (hs:s∈o.steps) {w:List Pt} (hw:w∈s.ws):∀x∈pW w,x∈o.locs:=fun x hx=>yd hs (by unfold St.ls;exact a0M _ (List.mem_flatMap.mpr ⟨w,hw,hx⟩))
theorem Ug {o:Op} (ho:o.Ok) {b:Int} (hb:0<b) {ρ:Ev} {t a:Nat} (ha:a≤o.steps.length):xW (opI o) (t:Int) (a:Int) (o.locs.map ρ) b=some (frT o.locs (d9 o b ρ t a)):=by
 refine Pv.eq ?_
 unfold xW
 have hT:((o.turns.toNat:Nat):Int)=o.turns:=by have:=ho.t1;omega
 refine eY (Px (fun s=>∃t' a':Nat,s=((a':Int),(t':Int))∧a'≤o.steps.length∧d9 o b ρ t a=d9 o b ρ t' a') (fun s=>(o.turns-s.2).toNat) ⟨t,a,rfl,ha,rfl⟩ ?_)
 rintro s ⟨t',a',rfl,ha',hst⟩
 by_cases htt:(t':Int)<o.turns
 ·refine .inr ⟨by show some (decide ((t':Int)<o.turns))=_;rw[a0q htt],?_⟩
  have hk:o.turns.toNat-t'=(o.turns.toNat-(t'+1))+1:=by omega
  refine eY (Px (fun x=>∃i:Nat,x=(i:Int)∧i≤o.steps.length∧scan ρ b o.steps a'=scan ρ b o.steps i) (fun x=>((o.steps.length:Int)-x).toNat) ⟨a',rfl,ha',rfl⟩ ?_)
  rintro x ⟨i,rfl,hi,hsc⟩
  have hlen:((opI o).steps.length:Int)=(o.steps.length:Int):=by show (((o.steps.map sD).length:Nat):Int)=_;rw[a0C]
  by_cases hil:i<o.steps.length
  ·refine .inr ⟨by show some (decide ((i:Int)<((opI o).steps.length:Int)))=_;rw[hlen,a0q (by omega)],?_⟩
   have hm:o.steps[i]∈o.steps:=List.getElem_mem hil
   have hg:=ho.gd hm
   refine aH (show atI (opI o).steps (i:Int)=some (sD o.steps[i]) by rw[jB];show (o.steps.map sD)[i]?=_;rw[a0p,a0e hil];rfl) ?_
   refine aH (adB _) ?_
   refine aH (abz hb hg.1 hg.2) ?_
   have es:scan ρ b o.steps i=if GP ρ b o.steps[i].g=true then some (i,o.steps[i]) else scan ρ b o.steps (i+1):=by
    conv=>lhs;unfold scan
    rw[dif_pos hil]
   refine vA (fun hh=>?_) fun hh=>?_
   ·obtain⟨wd,r,e0,e1⟩:=adC o.steps[i]
    have Yc:d9 o b ρ t a=land ρ b t' (i,o.steps[i]):=by
     rw[hst];unfold d9;rw[hk];unfold sS;rw[hsc,es,a0g hh]
    refine aH (show bM (sD o.steps[i]) (0:Int)=some (.str wd) by rw[e0];exact ix0) ?_
    refine aH gJ ?_
    refine vA (fun hw=>?_) fun hw=>?_
    ·have lV:o.steps[i].jc=true:=by rw[e1];exact hw
     have hsd:∃w g,o.steps[i]=.give w g:=by cases h:o.steps[i]<;>rw[h] at lV<;>first|exact⟨_,_,rfl⟩|cases lV
     obtain⟨w,g,hsd⟩:=hsd
     refine aH (show bM (sD o.steps[i]) (1:Int)=some (wD w) by rw[hsd];rfl) ?_
     refine aH (xJ hb (Op.Ok.wd hm (by rw[hsd];simp[St.ws,St.own]))) ?_
     refine bD ?_
     show (2,iV ρ b w,0,-1,[])=_
     rw[Yc];unfold land;simp only[lV,a0W];rw[hsd];rfl
    ·have lV:o.steps[i].jc=false:=by rw[e1];exact hw
     refine bD ?_
     show (1,(t':Int),(i:Int),-1,o.locs.map ρ)=_
     rw[Yc];unfold land;simp only[lV];rfl
   ·refine fO (bD ⟨⟨i+1,by omega,by omega,?_⟩,by omega⟩)
    rw[hsc,es,a0h (by rw[hh];simp)]
  ·refine .inl ⟨by show some (decide ((i:Int)<((opI o).steps.length:Int)))=_;rw[hlen,a0F (by omega)],?_⟩
   refine fO (bD ⟨⟨t'+1,0,rfl,by omega,?_⟩,by simp only;omega⟩)
   have es:scan ρ b o.steps i=none:=by unfold scan;rw[dif_neg hil]
   rw[hst];unfold d9;rw[hk]
   conv=>lhs;unfold sS
   rw[hsc,es]
 ·refine .inl ⟨by show some (decide ((t':Int)<o.turns))=_;rw[a0F htt],bD ?_⟩
  rw[hst];unfold d9
  have:o.turns.toNat-t'=0:=by omega
  rw[this];rfl
def pos (L:List Str) (x:Str):Nat:=(L.findIdx? fun z=>decide (z=x)).getD 0
theorem V1 {L:List Str} {x:Str} (h:x∈L):j_ L x=some (pos L x:Int)∧L[pos L x]?=some x∧pos L x<L.length:=by
 obtain⟨i,h1,h2⟩:=NQ h
 have:pos L x=i:=by
  unfold j_ at h1
  obtain⟨j,hj,hh⟩:=a0b.mp h1
  have:j=i:=by exact Int.ofNat.inj hh
  unfold pos;rw[hj,this];rfl
 rw[this]
 exact⟨h1,h2,(a0d.mp h2).1⟩
def fB (o:Op) (b:Int) (cells strong:List Str) (ν:List Int) (t a:Nat) (look:Int) (ρ:Ev):List Int×Fr×List Int×Bool:=
 match o.steps[a]? with
 | none=>(ν,.jr 0,[],true)
 | some s=>
  let found:=ν.getD (pos cells s.cell) 0
  match s with
  | .give _ _=>(ν,.jr 0,[],true)
  | .write c w _=>(ν.set (pos cells c) (iV ρ b w),d9 o b ρ t (a+1),[],true)
  | .read l c _=>(ν,d9 o b (ρ.set l found) t (a+1),[found],true)
  | .swap l c w _=>if look<0∧c∉strong then(ν,.act t a found ρ,[found],false) else(ν.set (pos cells c) (iV ρ b w),d9 o b (ρ.set l (if 0≤look then look else found)) t (a+1),(if 0≤look then [] else [found]),true)
  | .cas l c old w _=>if look<0∧found≠iV ρ b old then(ν,d9 o b (ρ.set l 0) t (a+1),[found],true) else if look<0∧c∉strong then(ν,.act t a found ρ,[found],false) else(ν.set (pos cells c) (iV ρ b w),d9 o b (ρ.set l 1) t (a+1),(if 0≤look then [] else [found]),true)
def lM (L:List Str) (x:List Int×Fr×List Int×Bool):List Int×(Int×Int×Int×Int×List Int)×List Int×Bool:=(x.1,frT L x.2.1,x.2.2.1,x.2.2.2)
theorem Vk {o:Op} (ho:o.Ok):o.locs.length≤160:=by
 have key:∀(ss:List St) (acc:List Str),(∀s∈ss,s.ok=true)→(ss.foldl (fun acc s=>s.ls.foldl jH acc) acc).length≤acc.length+20*ss.length:=by
  intro ss
  induction ss with
  | nil=>intro acc _;simp
  | cons s ss ih=>
   intro acc h
   have h1:=ih (s.ls.foldl jH acc) fun x hx=>h x (by simp[hx])
   have h2:=Uu (xs:=s.ls) (acc:=acc)
   have h3:=St.aeE (h s (by simp))
   simp only[b0H,a0P];omega
 have:=key o.steps [] ho.steps
 have:=ho.l8
 unfold Op.locs Ws;simp only[List.length_nil] at *;omega
theorem Gn {o:Op} (ho:o.Ok) {x:Str} (hx:x∈o.locs) {ρ:Ev} {v:Int} {γ:Type} {f:List Int→Option γ} {P:γ→Prop} (h:Pv (f (o.locs.map (ρ.set x v))) P):Pv ((qW (.str x)).bind fun y=>(j_ (opI o).locs y).bind fun i=>(oW (o.locs.map ρ) i v).bind f) P:=by
 obtain⟨h1,h2,h3⟩:=V1 hx
 refine aH Oh (aH (show j_ (opI o).locs x=some _ from h1) (aH ?_ h))
 rw[Am (by simpa using h3) (by have:=Vk ho;simp;omega),set_map adA h2]
theorem acr {o:Op} (ho:o.Ok) {b:Int} (hb:0<b) {cells strong:List Str} {ν:List Int} (YB:ν.length=cells.length) (hc:cells.length≤1000) {t a:Nat} {look:Int} {ρ:Ev} {s:St} (hs:o.steps[a]?=some s) (hg:s.jc=false) (hcell:s.cell∈cells):Pk b cells strong (opI o) ν (frT o.locs (.act t a look ρ))=some (lM o.locs (fB o b cells strong ν t a look ρ)):=by
 refine Pv.eq ?_
 unfold Pk
 have hm:s∈o.steps:=a0l hs
 have hal:a<o.steps.length:=(a0d.mp hs).1
 obtain⟨p1,p2,p3⟩:=V1 hcell
 have hpos:pos cells s.cell<ν.length:=by omega
 have hfound:ν[pos cells s.cell]?=some (ν.getD (pos cells s.cell) 0):=by rw[a0Q,a0e hpos];rfl
 refine aH (show atI (opI o).steps (a:Int)=some (sD s) by rw[jB];show (o.steps.map sD)[a]?=_;rw[a0p,hs];rfl) ?_
 refine aH (abH s) (aH Oh (aH p1 (aH (show atI ν (pos cells s.cell:Int)=some (ν.getD (pos cells s.cell) 0) by rw[jB];exact hfound) (fO ?_))))
 have fin:∀{oM:List Int} {ρ':Ev} {seen:List Int} {P:_→Prop},P (oM,frT o.locs (d9 o b ρ' t (a+1)),seen,true)→Pv ((xW (opI o) (t:Int) ((a:Int)+1) (o.locs.map ρ') b).bind fun Q8=>some (oM,Q8,seen,true)) P:=fun {oM ρ' seen P} h=>by
  refine aH (show xW (opI o) (t:Int) ((a:Int)+1) (o.locs.map ρ') b=some (frT o.locs (d9 o b ρ' t (a+1))) from ?_) (bD h)
  exact Ug ho hb (t:=t) (a:=a+1) (by omega)
 cases s with
 | give w g=>cases hg
 | write c w g=>
  refine aH (show bM (sD (.write c w g)) (0:Int)=some (.str "write") from rfl) (aH gJ (eY (yX (by trivial) ?_)))
  refine aH (show bM (sD (.write c w g)) (2:Int)=some (wD w) from rfl) (aH (xJ hb (Op.Ok.wd hm (by simp[St.ws,St.own]))) ?_)
  refine aH (Am hpos (by omega)) (bD ?_)
  refine fin ?_
  unfold fB lM;rw[hs];rfl
 | read l c g=>
  refine aH (show bM (sD (.read l c g)) (0:Int)=some (.str "read") from rfl) (aH gJ (eY (dJ (by trivial) ?_)))
  refine aH gJ (eY (yX (by trivial) ?_))
  refine aH (show bM (sD (.read l c g)) (1:Int)=some (.str l) from rfl) ?_
  refine Gn ho (yd hm (by simp[St.ls,St.fst])) (bD ?_)
  refine bD ?_
  refine fin ?_
  unfold fB lM;rw[hs]
 | swap l c w g=>
  refine aH (show bM (sD (.swap l c w g)) (0:Int)=some (.str "swap") from rfl) (aH gJ (eY (dJ (by trivial) ?_)))
  refine aH gJ (eY (dJ (by trivial) ?_))
  refine aH (a:=false) ?_ (eY (dJ rfl ?_))
  ·show jF (decide (look<0)) _=_
   rw[gJ,show (decide (("swap":Str)="cas"))=false by decide +kernel]
   unfold jF
   by_cases hl:look<0<;>simp[hl]
  refine aH (a:=(decide (look<0)&&!decide (c∈strong))) ?_ ?_
  ·show jF (decide (look<0)) ((atI cells (pos cells c:Int)).bind fun ug=>some (!decide (ug∈strong)))=_
   rw[jB,show cells[pos cells c]?=some c from p2]
   exact Nt
  refine vA (fun h=>?_) fun h=>?_
  ·refine bD ?_
   have h':look<0∧c∉strong:=by simpa using h
   show _=lM o.locs (fB o b cells strong ν t a look ρ)
   unfold fB lM;rw[hs];simp only[h',not_false_eq_true,and_self,a0W];rfl
  ·have h':¬(look<0∧c∉strong):=by
    intro z;rw[a0q z.1,a0F z.2] at h;cases h
   refine fO ?_
   refine aH (show bM (sD (.swap l c w g)) (-(2:Int))=some (wD w) from rfl) (aH (xJ hb (Op.Ok.wd hm (by simp[St.ws,St.own]))) ?_)
   refine aH (Am hpos (by omega)) (aH gJ (fO ?_))
   refine aH (show bM (sD (.swap l c w g)) (1:Int)=some (.str l) from rfl) ?_
   refine Gn ho (yd hm (by simp[St.ls,St.fst])) (bD ?_)
   refine bD ?_
   refine bD ?_
   refine fin ?_
   unfold fB lM;rw[hs];simp only[h',if_false]
   by_cases hl:(0:Int)≤look
   ·simp[hl,frT];rfl
   ·simp[hl,frT];rfl
 | cas l c old w g=>
  refine aH (show bM (sD (.cas l c old w g)) (0:Int)=some (.str "cas") from rfl) (aH gJ (eY (dJ (by trivial) ?_)))
  refine aH gJ (eY (dJ (by trivial) ?_))
  have hfd:ν.getD (pos cells (St.cas l c old w g).cell) 0=ν.getD (pos cells c) 0:=rfl
  refine aH (a:=(decide (look<0)&&!decide (ν.getD (pos cells c) 0=iV ρ b old))) ?_ ?_
  ·show jF (decide (look<0)) _=_
   rw[gJ,show (decide (("cas":Str)="cas"))=true by decide +kernel]
   show jF (decide (look<0)) ((jF true ((bM (sD (.cas l c old w g)) (3:Int)).bind fun v8=>(rQ (opI o) v8 (o.locs.map ρ) b).bind fun v9=>some (!decide (ν.getD (pos cells c) 0=v9)))).bind fun b=>some b)=_
   rw[show bM (sD (.cas l c old w g)) (3:Int)=some (wD old) from rfl]
   simp only[a0i]
   rw[xJ hb (Op.Ok.wd hm (by simp[St.ws,St.own]))]
   simp only[a0i,Nt,b0E]
  refine eY (vA (fun h=>?_) fun h=>?_)
  ·have h':look<0∧ν.getD (pos cells c) 0≠iV ρ b old:=by simpa using h
   refine aH (show bM (sD (.cas l c old w g)) (1:Int)=some (.str l) from rfl) ?_
   refine Gn ho (yd hm (by simp[St.ls,St.fst])) (bD ?_)
   refine bD ?_
   refine bD ?_
   refine fin ?_
   unfold fB lM;rw[hs]
   show _=(_:List Int×_)
   simp only[hfd]
   rw[a0g h']
  ·have h':¬(look<0∧ν.getD (pos cells c) 0≠iV ρ b old):=by
    intro z;rw[a0q z.1,a0F z.2] at h;cases h
   refine aH (a:=(decide (look<0)&&!decide (c∈strong))) ?_ ?_
   ·show jF (decide (look<0)) ((atI cells (pos cells c:Int)).bind fun ug=>some (!decide (ug∈strong)))=_
    rw[jB,show cells[pos cells c]?=some c from p2]
    exact Nt
   refine vA (fun h2=>?_) fun h2=>?_
   ·refine bD ?_
    have h2':look<0∧c∉strong:=by simpa using h2
    show _=lM o.locs (fB o b cells strong ν t a look ρ)
    unfold fB lM;rw[hs]
    simp only[hfd]
    rw[a0h h',a0g h2'];rfl
   ·have h2':¬(look<0∧c∉strong):=by
     intro z;rw[a0q z.1,a0F z.2] at h2;cases h2
    refine fO ?_
    refine aH (show bM (sD (.cas l c old w g)) (-(2:Int))=some (wD w) from rfl) (aH (xJ hb (Op.Ok.wd hm (by simp[St.ws,St.own]))) ?_)
    refine aH (Am hpos (by omega)) (aH gJ (fO ?_))
    refine aH (show bM (sD (.cas l c old w g)) (1:Int)=some (.str l) from rfl) ?_
    rw[show (decide (("cas":Str)="swap"))=false by decide +kernel]
    refine Gn ho (yd hm (by simp[St.ls,St.fst])) (bD ?_)
    refine bD ?_
    refine bD ?_
    refine fin ?_
    unfold fB lM;rw[hs]
    simp only[hfd]
    rw[a0h h',a0h h2']
    by_cases hl:(0:Int)≤look
    ·simp[hl,frT];rfl
    ·simp[hl,frT];rfl
def opL (o:Op):Str×List D×Int×Int:=(o.name,o.steps.map sD,o.turns,o.other)
def St.agg:St→Bool
 | .swap _ _ _ _=>true|.cas _ _ _ _ _=>true|_=>false
def Fr.Good (o:Op):Fr→Prop
 | .jr _=>True
 | .act t a look _=>(t:Int)<o.turns∧∃s,o.steps[a]?=some s∧s.jc=false∧(0≤look→s.agg=true)
def Fr.μ (o:Op):Fr→Nat
 | .jr _=>0
 | .act t a _ _=>(o.turns.toNat-t)*o.steps.length-a
theorem UG {ρ:Ev} {b:Int} {ss:List St} {a:Nat} {x:Nat×St} (h:scan ρ b ss a=some x):a≤x.1∧ss[x.1]?=some x.2:=by
 unfold scan at h
 split at h
 ·rename_i hl
  split at h
  ·cases h;exact⟨a0v _,a0e hl⟩
  ·obtain⟨h1,h2⟩:=UG h
   exact⟨by omega,h2⟩
 ·cases h
termination_by ss.length-a
theorem T_ {o:Op} (ho:o.Ok) {b:Int} {ρ:Ev}:∀(k t a:Nat),(t:Int)+k≤o.turns→a≤o.steps.length→(sS o b ρ k t a).Good o∧(sS o b ρ k t a).μ o≤(o.turns.toNat-t)*o.steps.length-a∧(∀t' a' look ρ',sS o b ρ k t a=.act t' a' look ρ'→look=-1∧ρ'=ρ)
 | 0,t,a,_,_=>⟨trivial,b0j _,fun _ _ _ _ h=>by cases h⟩
 | k+1,t,a,ht,ha=>by
  unfold sS
  cases hs:scan ρ b o.steps a with
  | none=>
   obtain⟨h1,h2,h3⟩:=T_ ho (b:=b) (ρ:=ρ) k (t+1) 0 (by omega) (b0j _)
   refine⟨h1,?_,h3⟩
   refine b0e h2 ?_
   rw[show o.turns.toNat-t=(o.turns.toNat-(t+1))+1 by omega,Nat.add_mul,Nat.one_mul]
   omega
  | some x=>
   obtain⟨h1,h2⟩:=UG hs
   show (land ρ b t x).Good o∧(land ρ b t x).μ o≤_∧_
   cases hg:x.2.jc with
   | true=>
    have e:land ρ b t x=.jr (iV ρ b x.2.gw):=by unfold land;rw[a0g hg]
    refine⟨by rw[e];trivial,by rw[e];exact b0j _,fun _ _ _ _ h=>by have h:land ρ b t x=_:=h;rw[e] at h;cases h⟩
   | false=>
    have e:land ρ b t x=.act t x.1 (-1) ρ:=by unfold land;rw[a0h (by rw[hg];simp)]
    refine⟨by rw[e];exact⟨by omega,x.2,h2,hg,fun z=>absurd z (by decide)⟩,?_,fun t' a' look ρ' h=>by have h:land ρ b t x=_:=h;rw[e] at h;cases h;exact⟨rfl,rfl⟩⟩
    rw[e]
    show (o.turns.toNat-t)*o.steps.length-x.1≤_
    omega
theorem Uh {o:Op} (ho:o.Ok) {b:Int} {ρ:Ev} {t a:Nat} (ha:a≤o.steps.length):(d9 o b ρ t a).Good o∧(d9 o b ρ t a).μ o≤(o.turns.toNat-t)*o.steps.length-a∧(∀t' a' look ρ',d9 o b ρ t a=.act t' a' look ρ'→look=-1∧ρ'=ρ):=by
 by_cases h:t≤o.turns.toNat
 ·exact T_ ho _ t a (by have:=ho.t1;omega) ha
 ·have e:d9 o b ρ t a=.jr o.other:=by unfold d9;rw[show o.turns.toNat-t=0 by omega];rfl
  rw[e]
  exact⟨trivial,b0j _,fun _ _ _ _ h=>by cases h⟩
theorem adD {o:Op} {b:Int} {cells strong:List Str} {ν:List Int} {t a:Nat} {look:Int} {ρ:Ev}:(fB o b cells strong ν t a look ρ).1.length=ν.length:=by
 unfold fB
 cases o.steps[a]? with
 | none=>rfl
 | some s=>
  cases s with
  | give w g=>rfl
  | write c w g=>simp
  | read l c g=>rfl
  | swap l c w g=>dsimp only;split<;>simp
  | cas l c old w g=>
   dsimp only
   split
   ·rfl
   ·split<;>simp
theorem acs {o:Op} (ho:o.Ok) {b:Int} {cells strong:List Str} {ν:List Int} {t a:Nat} {look:Int} {ρ:Ev} (hg:(Fr.act t a look ρ).Good o):(fB o b cells strong ν t a look ρ).2.1.Good o:=by
 obtain⟨ht,s,hs,lV,hlk⟩:=hg
 have hal:a<o.steps.length:=(a0d.mp hs).1
 have hst:∀ρ',(d9 o b ρ' t (a+1)).Good o:=fun ρ'=>(Uh ho (by omega)).1
 unfold fB
 rw[hs]
 cases s with
 | give w g=>trivial
 | write c w g=>exact hst _
 | read l c g=>exact hst _
 | swap l c w g=>
  dsimp only
  split
  ·exact⟨ht,_,hs,rfl,fun _=>rfl⟩
  ·exact hst _
 | cas l c old w g=>
  dsimp only
  split
  ·exact hst _
  ·split
   ·exact⟨ht,_,hs,rfl,fun _=>rfl⟩
   ·exact hst _
def Dg:Ev:=fun _=>0
def V2 (o:Op) (cells:List Str):Prop:=∀s∈o.steps,s.jc=false→s.cell∈cells
structure StB (LL CC:List Str) (s:St):Prop where
 ok:s.ok=true
 ls:∀y∈s.ls,y∈LL
 cell:s.jc=false→s.cell∈CC
structure Rm (LL CC:List Str) (o:Op):Prop where
 ok:o.Ok
 st:∀s∈o.steps,StB LL CC s
 hd:∃s r,o.steps=s::r∧s.jc=false
theorem Rm.cells {LL CC:List Str} {o:Op} (h:Rm LL CC o):V2 o CC:=fun s hs hg=>(h.st s hs).cell hg
theorem at0 {α:Type} {x:α} {r:List α}:atI (x::r) (0:Int)=some x:=at_of (by decide) rfl
section
variable {l1 l2:Str} {CC:List Str} {f:Nat→Int}
def QD (ss:List St):Nat:=(ss.filter fun s=>!s.jc).length
def YC (o:Op):Prop:=o.turns*(QD o.steps:Int)≤2
def Wt1 (o:Op):Prop:=o.turns*(QD o.steps:Int)≤1
def YD:List St→Bool
 | []=>true
 | s::r=>if s.jc then(s::r).all (·.jc)&&decide ((s::r).length≤2) else YD r
structure OpD (LL CC:List Str) (name:Str) (o:Op):Prop extends Rm LL CC o where
 name:o.name=name
 len:o.steps.length≤4
 tw:o.turns≤2
 wt:o.turns*(QD o.steps:Int)≤4
 tl:YD o.steps=true
end
def glueL (G:Op→Nat→Bool) (os:List Op):List (Str×Int):=os.flatMap fun o=>((List.range o.steps.length).filter (G o)).map fun(i:Nat)=>(o.name,(i:Int))
structure BD (b:Rj) (os:List Op):Prop where
 base:2≤b.base∧b.base≤3
 loc:∃n,b.locals=[nm n 2,nm n 3]∧(b.cells=[nm n 0]∨b.cells=[nm n 0,nm n 1])∧(os.map Op.name <+: [nm n 4,nm n 5,nm n 6]∨os.map Op.name <+: [nm n 1,nm n 2,nm n 3])
 st:b.starts.length=b.cells.length∧∀x∈b.starts,0≤x∧x<b.base
 strong:∃p:Str→Bool,b.strong=b.cells.filter p
 ops:b.ops=os.map opL
 op:∀o∈os,OpD b.locals b.cells o.name o
 many:os.length=2∨os.length=3
 glue:∃G,b.glue=glueL G os∧∀o∈os,∀i,G o i=true→∀s,o.steps[i]?=some s→s.jc=false
 kind:(b.kind=0∧os.length=2)∨(b.kind=1∧os.length=3∧∀o∈os,YC o)∨(b.kind=2∧os.length=3∧b.cells.length=2∧∀o∈os,YC o)∨(b.kind=3∧os.length=2)
 at0:b.at_=0
 wt1:b.kind=2→∀o∈os.drop 1,Wt1 o
end TY
set_option maxHeartbeats 2000000
namespace TY
open PySem L2 DL AL PyProof.Rows
abbrev prD:Str×Int→D:=aR D.str D.int
theorem aeX {x y:Str×Int}:cG (prD x) (prD y)=decide (x=y):=by
 obtain⟨s,i⟩:=x
 obtain⟨t,j⟩:=y
 show cG (.tup [.str s,.int i]) (.tup [.str t,.int j])=_
 by_cases h1:s=t
 ·by_cases h2:i=j
  ·subst h1 h2;simp[cG,j7,str_beq]
  ·simp[cG,j7,str_beq,h1,h2]
 ·simp[cG,j7,str_beq,h1]
theorem WK {x:Str×Int}:∀(g:List (Str×Int)),(g.map prD).any (fun z=>cG z (prD x))=decide (x∈g)
 | []=>by simp
 | y::g=>by
  rw[a0y,b0D,WK g,aeX]
  by_cases h:y=x
  ·simp[h]
  ·have:¬x=y:=fun e=>h e.symm
   simp[h,this]
theorem Xk {x:Str×Int} (h:PyData.strOk x.1=true):Cm 1 (prD x):=Gz fun d hd=>by
 rcases a0c.mp hd with rfl|hd
 ·exact O5 h
 ·rw[a0s.mp hd];exact Gy
theorem acu {x:Str×Int} {g:List (Str×Int)} (hx:PyData.strOk x.1=true) (hg:∀y∈g,PyData.strOk y.1=true):BJ (prD x) (g.map prD)=some (decide (x∈g)):=by
 unfold BJ
 rw[a0g,WK]
 rw[(Xk hx).ok (by omega),(Gz (n:=1) fun d hd=>by obtain⟨y,hy,rfl⟩:=a0G.mp hd;exact Xk (hg y hy)).ok (by omega)];rfl
def yZ (os:List Op):List (Str×rO):=os.map fun o=>(o.name,opI o)
theorem abN {os:List Op}:(yZ os).map (·.1)=os.map Op.name:=by unfold yZ;rw[b0s];rfl
theorem acv {os:List Op} (hn:(os.map Op.name).Nodup) {o:Op} (ho:o∈os):iU (yZ os) o.name=some (opI o):=
 A_ (p:=(o.name,opI o)) (by rw[abN];exact hn) (a0G.mpr ⟨o,ho,rfl⟩)
def gOf (g:List (Str×Int)) (o:Op) (i:Nat):Bool:=decide ((o.name,(i:Int))∈g)
theorem V3 (n k:Int):pJ (.str (nm n k)):=(aeD n k).2
theorem BD.names {b:Rj} {os:List Op} (h:BD b os):(os.map Op.name).Nodup∧∀o∈os,pJ (.str o.name)∧PyData.strOk o.name=true:=by
 obtain⟨n,_,_,hp⟩:=h.loc
 have three:∀a c d:Int,0≤a∧a<c∧c<d∧d<26→[nm n a,nm n c,nm n d].Nodup:=by
  intro a c d hh
  simp only[a0Y,a0c,a0Z,or_false,not_false_eq_true,List.nodup_nil,and_true,not_or]
  exact⟨⟨fun z=>by have:=Ov (n:=n) (k:=a) (j:=c) (by omega) (by omega) z;omega,fun z=>by have:=Ov (n:=n) (k:=a) (j:=d) (by omega) (by omega) z;omega⟩,fun z=>by have:=Ov (n:=n) (k:=c) (j:=d) (by omega) (by omega) z;omega⟩
 have good:∀x∈os.map Op.name,pJ (.str x)∧PyData.strOk x=true:=by
  intro x hx
  rcases hp with hp|hp
  ·have:=hp.subset hx
   simp only[a0c,a0Z,or_false] at this
   rcases this with e|e|e<;>rw[e]<;>exact⟨V3 _ _,Vd _ _⟩
  ·have:=hp.subset hx
   simp only[a0c,a0Z,or_false] at this
   rcases this with e|e|e<;>rw[e]<;>exact⟨V3 _ _,Vd _ _⟩
 refine⟨?_,fun o ho=>good _ (a0G.mpr ⟨o,ho,rfl⟩)⟩
 rcases hp with hp|hp
 ·exact hp.sublist.nodup (three 4 5 6 (by omega))
 ·exact hp.sublist.nodup (three 1 2 3 (by omega))
def bI (b:Rj) (os:List Op):Gj:=⟨b.base,b.cells,b.starts,b.strong,yZ os,b.glue⟩
def stepM (o:Op) (b:Int) (cells strong:List Str) (G:Nat→Bool):Nat→List Int→Nat→Nat→Int→Ev→List Int→List Int×Fr×List Int
 | 0,ν,t,a,look,ρ,seen=>(ν,.act t a look ρ,seen)
 | k+1,ν,t,a,look,ρ,seen=>
  match fB o b cells strong ν t a look ρ with
  | (oM,.act t' a' look' ρ',s,true)=>if G a=true then stepM o b cells strong G k oM t' a' look' ρ' (seen++s) else(oM,.act t' a' look' ρ',seen++s)
  | (oM,fr,s,_)=>(oM,fr,seen++s)
abbrev Cl:=Nat×Option (Op×Fr)
structure AC where
 ν:List Int
 cs:List Cl
def frP:Option (Op×Fr)→Ip
 | none=>(0,0,0,-1,[])
 | some (o,fr)=>frT o.locs fr
def rA (x:Cl):Int×Ip:=((x.1:Int),frP x.2)
def pC (a:AC):jN:=(a.ν,a.cs.map rA)
inductive zF where
 | call (x:Str)|ret (v:Int)|step (s:List Int)
def YF (i:Nat):zF→EvT
 | .call x=>((i:Int),"call",.str x)
 | .ret v=>((i:Int),"return",.int v)
 | .step s=>((i:Int),"step",Yr D.int s)
structure IM where
 base:Int
 cells:List Str
 strong:List Str
 os:List Op
 glue:List (Str×Int)
def IM.op (I:IM) (x:Str):Option Op:=I.os.find? fun o=>decide (o.name=x)
def pZ (I:IM) (client:List (List Str)) (a:AC) (i:Nat):Option (zF×AC):=
 match a.cs[i]?,client[i]? with
 | some (k,none),some ns=>match ns[k]? with
  | none=>none
  | some x=>(I.op x).map fun o=>(.call x,⟨a.ν,a.cs.set i (k+1,some (o,d9 o I.base Dg 0 0))⟩)
 | some (k,some (o,.jr v)),_=>some (.ret v,⟨a.ν,a.cs.set i (k,none)⟩)
 | some (k,some (o,.act t a' look ρ)),_=>
  let r:=stepM o I.base I.cells I.strong (fun j=>gOf I.glue o j) 64 a.ν t a' look ρ []
  some (.step r.2.2,⟨r.1,a.cs.set i (k,some (o,r.2.1))⟩)
 | none,_=>none
 | _,none=>none
structure IM.Ok (I:IM):Prop where
 b2:2≤I.base
 op:∀o∈I.os,o.Ok
 nd:(I.os.map Op.name).Nodup
 cl:I.cells.length≤1000
 ci:∀o∈I.os,V2 o I.cells
 nm:∀o∈I.os,PyData.strOk o.name=true
 gs:∀y∈I.glue,PyData.strOk y.1=true
 gl:I.glue.length≤1000
def IM.bI (I:IM) (start:List Int):Gj:=⟨I.base,I.cells,start,I.strong,yZ I.os,I.glue⟩
theorem IM.agh {I:IM} (hn:(I.os.map Op.name).Nodup) {o:Op} (ho:o∈I.os):I.op o.name=some o:=by
 unfold IM.op
 generalize I.os=os at hn ho
 induction os with
 | nil=>cases ho
 | cons p os ih=>
  rw[a0y,a0Y] at hn
  rw[a0B]
  rcases a0c.mp ho with rfl|ho
  ·rw[a0q rfl]
  ·have:p.name≠o.name:=fun e=>hn.1 (by rw[e];exact b0n ho)
   rw[a0F this];exact ih hn.2 ho
def ag0 (I:IM) (ns:List Str):Cl→Prop
 | (k,none)=>k≤ns.length
 | (k,some (o,fr))=>o∈I.os∧fr.Good o∧∃j,k=j+1∧ns[j]?=some o.name
structure HF (I:IM) (client:List (List Str)) (a:AC):Prop where
 nu:a.ν.length=I.cells.length
 len:a.cs.length=client.length
 cs:∀(i:Nat) ns x,client[i]?=some ns→a.cs[i]?=some x→ag0 I ns x
theorem acw {o:Op} {b:Int} {cells strong:List Str} {ν:List Int} {t a:Nat} {look:Int} {ρ:Ev} (h:(fB o b cells strong ν t a look ρ).2.2.2=true) {s:St} (hs:o.steps[a]?=some s) (lV:s.jc=false):∃ρ',(fB o b cells strong ν t a look ρ).2.1=d9 o b ρ' t (a+1):=by
 unfold fB at h ⊢
 rw[hs] at h ⊢
 cases s with
 | give w g=>cases lV
 | write c w g=>exact⟨_,rfl⟩
 | read l c g=>exact⟨_,rfl⟩
 | swap l c w g=>
  dsimp only at h ⊢
  split at h
  ·cases h
  ·rename_i q;rw[a0h q];exact⟨_,rfl⟩
 | cas l c old w g=>
  dsimp only at h ⊢
  split at h
  ·rename_i q;rw[a0g q];exact⟨_,rfl⟩
  ·rename_i q;rw[a0h q]
   split at h
   ·cases h
   ·rename_i q2;rw[a0h q2];exact⟨_,rfl⟩
theorem acy {o:Op} (ho:o.Ok) {b:Int} {cells strong:List Str} {ν:List Int} {t a:Nat} {look:Int} {ρ:Ev} (hg:(Fr.act t a look ρ).Good o) (h:(fB o b cells strong ν t a look ρ).2.2.2=true):(fB o b cells strong ν t a look ρ).2.1.μ o<(Fr.act t a look ρ).μ o:=by
 obtain⟨ht,s,hs,lV,hlk⟩:=hg
 have hal:a<o.steps.length:=(a0d.mp hs).1
 obtain⟨ρ',e⟩:=acw h hs lV
 rw[e]
 have:=(Uh ho (b:=b) (ρ:=ρ') (t:=t) (a:=a+1) (by omega)).2.1
 show _<(o.turns.toNat-t)*o.steps.length-a
 have h2:o.steps.length≤(o.turns.toNat-t)*o.steps.length:=Nat.le_mul_of_pos_left _ (by omega)
 omega
theorem agi {o:Op} (ho:o.Ok) (fr:Fr):fr.μ o≤32:=by
 cases fr with
 | jr v=>exact b0j _
 | act t a l r=>
  show (o.turns.toNat-t)*o.steps.length-a≤32
  have h3:=ho.t4
  have h4:=ho.l8
  have:(o.turns.toNat-t)*o.steps.length≤4*8:=Nat.mul_le_mul (by omega) h4
  omega
theorem acz {o:Op} {b:Int} {cells strong:List Str} {ν:List Int} {t a:Nat} {look:Int} {ρ:Ev}:(fB o b cells strong ν t a look ρ).2.2.1.length≤1:=by
 unfold fB
 cases o.steps[a]? with
 | none=>simp
 | some s=>
  cases s with
  | give w g=>simp
  | write c w g=>simp
  | read l c g=>simp
  | swap l c w g=>dsimp only;split<;>(try split)<;>simp
  | cas l c old w g=>dsimp only;split<;>(try split)<;>(try split)<;>simp
theorem V4 {I:IM} (hI:I.Ok) {o:Op} (ho:o∈I.os):iU (yZ I.os) o.name=some (opI o):=acv hI.nd ho
theorem inG {I:IM} (hI:I.Ok) {o:Op} (ho:o∈I.os) {a:Nat}:BJ (prD (o.name,(a:Int))) (I.glue.map prD)=some (gOf I.glue o a):=acu (hI.nm o ho) hI.gs
theorem abl {I:IM} (hI:I.Ok) {o:Op} (ho:o∈I.os) {st ν:List Int} (YB:ν.length=I.cells.length) {t a:Nat} {look:Int} {ρ:Ev} (hg:(Fr.act t a look ρ).Good o) :
  Nf (I.bI st) o.name ν (frT o.locs (.act t a look ρ))=some ((stepM o I.base I.cells I.strong (fun j=>gOf I.glue o j) 64 ν t a look ρ []).1,frT o.locs (stepM o I.base I.cells I.strong (fun j=>gOf I.glue o j) 64 ν t a look ρ []).2.1,(stepM o I.base I.cells I.strong (fun j=>gOf I.glue o j) 64 ν t a look ρ []).2.2):=by
 have hok:=hI.op o ho
 have hb:0<I.base:=by have:=hI.b2;omega
 refine Pv.eq ?_
 unfold Nf
 refine aH (V4 hI ho) ?_
 generalize hR:stepM o I.base I.cells I.strong (fun j=>gOf I.glue o j) 64 ν t a look ρ []=R
 refine eY (Px (fun(s:List Int×Ip×List Int×Bool)=>(s.2.2.2=false∧s=(R.1,frT o.locs R.2.1,R.2.2,false))∨(s.2.2.2=true∧∃rB t1 a1 lD ni k,s.1=rB∧s.2.1=frT o.locs (.act t1 a1 lD ni)∧rB.length=I.cells.length∧(Fr.act t1 a1 lD ni).Good o∧(Fr.act t1 a1 lD ni).μ o<k∧s.2.2.1.length+k≤64∧stepM o I.base I.cells I.strong (fun j=>gOf I.glue o j) k rB t1 a1 lD ni s.2.2.1=R)) (fun s=>if s.2.2.2=true then 1+((o.turns-s.2.1.2.1).toNat*o.steps.length-s.2.1.2.2.1.toNat) else 0) (.inr ⟨rfl,ν,t,a,look,ρ,64,rfl,rfl,YB,hg,by have:=agi hok (.act t a look ρ);omega,by simp,hR⟩) ?_)
 rintro⟨rB,f1,seen,going⟩ (⟨hgo,hs⟩|⟨hgo,ν2,t1,a1,lD,ni,k,e1,e2,hl,hg1,hk,hz,hst⟩)
 ·simp only at hgo
  subst hgo
  refine .inl ⟨rfl,?_⟩
  cases hs
  exact bD rfl
 ·simp only at hgo e1 e2 hst hz
  subst hgo;subst e1;subst e2
  refine .inr ⟨rfl,?_⟩
  have hg2:=hg1
  obtain⟨ht,s,hs,lV,hlk⟩:=hg2
  obtain⟨k',rfl⟩:∃k',k=k'+1:=⟨k-1,by omega⟩
  have h1:=acs hok hg1 (b:=I.base) (cells:=I.cells) (strong:=I.strong) (ν:=rB)
  have h2:=adD (o:=o) (b:=I.base) (cells:=I.cells) (strong:=I.strong) (ν:=rB) (t:=t1) (a:=a1) (look:=lD) (ρ:=ni)
  have h3:=acy hok hg1 (b:=I.base) (cells:=I.cells) (strong:=I.strong) (ν:=rB)
  have h4:=acz (o:=o) (b:=I.base) (cells:=I.cells) (strong:=I.strong) (ν:=rB) (t:=t1) (a:=a1) (look:=lD) (ρ:=ni)
  have hsp:=acr hok hb (strong:=I.strong) hl hI.cl hs lV (hI.ci o ho s (a0l hs) lV) (t:=t1) (look:=lD) (ρ:=ni)
  refine aH hsp ?_
  unfold stepM at hst
  generalize fB o I.base I.cells I.strong rB t1 a1 lD ni=r at h1 h2 h3 h4 hst ⊢
  obtain⟨oM,fr,sn,fin⟩:=r
  refine aH (Og (by simp only[lM] at h4 ⊢;omega)) ?_
  have hG:BJ (aR D.str D.int (o.name,(frT o.locs (.act t1 a1 lD ni)).2.2.1)) ((I.bI st).glue.map (aR D.str D.int))=some (gOf I.glue o a1):=inG hI ho
  have mu:∀fr:Fr,fr.Good o→(if (frT o.locs fr).1=1 then(o.turns-(frT o.locs fr).2.1).toNat*o.steps.length-(frT o.locs fr).2.2.1.toNat else 0)=fr.μ o:=by
   intro fr hfr
   cases fr with
   | jr v=>rfl
   | act t a look ρ=>
    have hT:=hok.t1
    show (if (1:Int)=1 then(o.turns-(t:Int)).toNat*o.steps.length-(a:Int).toNat else 0)=_
    rw[a0g rfl,Int.toNat_natCast]
    show _=(o.turns.toNat-t)*o.steps.length-a
    rw[show (o.turns-(t:Int)).toNat=o.turns.toNat-t by omega]
  have hm1:=mu _ hg1
  rw[a0g (show (frT o.locs (.act t1 a1 lD ni)).1=1 from rfl)] at hm1
  cases fr with
  | jr v=>
   simp only[lM,frT]
   simp only[frT] at hG
   rw[hG]
   refine aH (a:=false) (by cases fin<;>rfl) (bD ⟨.inl ⟨rfl,?_⟩,?_⟩)
   ·have hst:(oM,Fr.jr v,seen++sn)=R:=by cases fin<;>exact hst
    rw[← hst]
   ·show 0<_
    simp only[a0W];omega
  | act t' a' look' ρ'=>
   simp only[lM]
   rw[hG]
   cases fin with
   | false=>
    refine aH (show jF false _=some false from rfl) (bD ⟨.inl ⟨rfl,?_⟩,?_⟩)
    ·rw[← hst]
    ·show 0<_
     simp only[a0W];omega
   | true=>
    refine aH (a:=gOf I.glue o a1) (by simp[jF,frT]) ?_
    cases hq:gOf I.glue o a1 with
    | false=>
     refine bD ⟨.inl ⟨rfl,?_⟩,?_⟩
     ·rw[← hst];simp only[hq];rfl
     ·show 0<_
      simp only[a0W];omega
    | true=>
     simp only[hq,a0W] at hst
     have hlt:(Fr.act t' a' look' ρ').μ o<(Fr.act t1 a1 lD ni).μ o:=h3 rfl
     refine bD ⟨.inr ⟨rfl,oM,t',a',look',ρ',k',rfl,rfl,h2.trans hl,h1,by omega,?_,hst⟩,?_⟩
     ·show (seen++sn).length+k'≤64
      simp only at h4
      rw[a0T];omega
     ·have hm2:=mu _ h1
      rw[a0g (show (frT o.locs (.act t' a' look' ρ')).1=1 from rfl)] at hm2
      rw[← hm1,← hm2] at hlt
      exact Nat.add_lt_add_left hlt 1
theorem abA {o:Op} (ho:o.Ok) {b:Int} (hb:0<b):LC (opI o) b=some (frT o.locs (d9 o b Dg 0 0)):=by
 have hz:(gA (fun(name:Str)=>some true) (fun name=>some (0:Int)) (opI o).locs)=some (o.locs.map Dg):=Gh (by have:=Vk ho;show o.locs.length≤_;omega) (fun _ _=>rfl) (fun _ _=>rfl)
 unfold LC
 rw[hz]
 simp only[a0i]
 have:=Ug ho hb (ρ:=Dg) (t:=0) (a:=0) (b0j _)
 rw[show ((0:Nat):Int)=0 from rfl] at this
 rw[this];rfl
def YG (i:Nat) (x:Option (zF×AC)):Option (EvT×jN):=x.map fun p=>(YF i p.1,pC p.2)
theorem agj {a:AC} {i:Nat} {x:Cl} (h:a.cs[i]?=some x):atI (pC a).2 (i:Int)=some (rA x):=by
 rw[jB];show (a.cs.map rA)[i]?=_;rw[a0p,h];rfl
theorem NT {a:AC} {i:Nat} {x y:Cl} (h:a.cs[i]?=some x) (hl:a.cs.length≤900000):oW (pC a).2 (i:Int) (rA y)=some ((a.cs.set i y).map rA):=by
 have hi:i<a.cs.length:=(a0d.mp h).1
 rw[Am (by show i<(a.cs.map rA).length;rw[a0C];exact hi) (by show (a.cs.map rA).length≤_;rw[a0C];exact hl)]
 congr 1
 show (a.cs.map rA).set i (rA y)=_
 rw[List.map_set]
theorem abB {I:IM} (hI:I.Ok) {st:List Int} {client:List (List Str)} (hn:∀ns∈client,∀x∈ns,∃o∈I.os,o.name=x) (hcl:client.length≤900000) {a:AC} (ha:HF I client a) {i:Nat} (hi:i<client.length) :
  M5 (I.bI st) client (pC a) (i:Int)=some (YG i (pZ I client a i)):=by
 have hb:0<I.base:=by have:=hI.b2;omega
 have hia:i<a.cs.length:=by rw[ha.len];exact hi
 have hns:=a0e hi
 have hx:=a0e hia
 have hle:a.cs.length≤900000:=by rw[ha.len];exact hcl
 generalize client[i]=ns at hns
 generalize a.cs[i]=x at hx
 have hok:=ha.cs i ns x hns hx
 refine Pv.eq ?_
 unfold M5
 refine aH (agj hx) ?_
 have hci:atI client (i:Int)=some ns:=by rw[jB];exact hns
 obtain⟨k,op⟩:=x
 cases op with
 | none=>
  refine eY ?_
  refine yX rfl ?_
  refine aH hci ?_
  by_cases hk:k=ns.length
  ·refine yX (by show decide ((k:Int)=(ns.length:Int))=true;rw[hk];simp) ?_
   refine bD ?_
   show _=_
   unfold pZ
   rw[hx,hns]
   simp only
   rw[a0D (by omega)];rfl
  ·have hkl:k<ns.length:=by have:k≤ns.length:=hok;omega
   refine dJ (by show decide ((k:Int)=(ns.length:Int))=false;rw[a0F];omega) ?_
   have hxk:=a0e hkl
   generalize ns[k]=nm at hxk
   obtain⟨o,ho,rfl⟩:=hn ns (a0l hns) nm (a0l hxk)
   refine aH (show atI ns ((k:Nat):Int)=some o.name by rw[jB];exact hxk) ?_
   refine fO (aH (V4 hI ho) (aH (abA (hI.op o ho) hb) (fO (bD ?_))))
   refine aH (NT (y:=(k+1,some (o,d9 o I.base Dg 0 0))) hx hle) (bD ?_)
   show _=_
   unfold pZ
   rw[hx,hns]
   simp only[hxk,IM.agh hI.nd ho]
   rfl
 | some p=>
  obtain⟨o,fr⟩:=p
  obtain⟨ho,hg,j,hkj,hnm⟩:=hok
  cases fr with
  | jr v=>
   refine eY (dJ rfl (yt (yX rfl (fO (fO (bD (bD ?_)))))))
   refine aH (NT (y:=(k,none)) hx hle) (bD ?_)
   show _=_
   unfold pZ
   rw[hx];rfl
  | act t a' look ρ=>
   refine eY (dJ rfl (yt (dJ rfl (aH hci ?_))))
   refine aH (show atI ns (((k:Nat):Int)-1)=some o.name by rw[hkj,show (((j+1:Nat):Int)-1)=(j:Int) by omega,jB];exact hnm) ?_
   refine aH (abl hI ho ha.nu hg) (fO (bD (bD ?_)))
   refine aH (NT (y:=(k,some (o,(stepM o I.base I.cells I.strong (fun j=>gOf I.glue o j) 64 a.ν t a' look ρ []).2.1))) hx hle) (bD ?_)
   show _=_
   unfold pZ
   rw[hx];rfl
def YH (st:List Int) (client:List (List Str)):AC:=⟨st,client.map fun _=>(0,none)⟩
section
variable {κ:Type} [DecidableEq κ]
def numOf (cs:List κ):List (κ×Int):=cs.zipIdx.map fun p=>(p.1,(p.2:Int))
theorem adE {cs:List κ}:(numOf cs).map (·.1)=cs:=by
 unfold numOf;rw[b0s]
 show cs.zipIdx.map (fun p=>p.1)=cs
 simp
theorem aeY {cs:List κ} {c:κ} (h:c∈cs):∃j:Nat,iU (numOf cs) c=some (j:Int)∧cs[j]?=some c:=by
 unfold iU
 cases q:(numOf cs).find? fun x=>decide (x.1=c) with
 | none=>
  have hm:c∈(numOf cs).map (·.1):=by rw[adE];exact h
  obtain⟨z,hz,e⟩:=a0G.mp hm
  have:=List.find?_eq_none.mp q z hz
  simp[e] at this
 | some x=>
  have h1:=b0c q
  have h2:=List.find?_some q
  unfold numOf at h1
  obtain⟨p,hp,rfl⟩:=a0G.mp h1
  have h2:p.1=c:=by simpa using h2
  have h3:=List.mem_zipIdx_iff_getElem?.mp hp
  exact⟨p.2,rfl,by rw[← h2];simpa using h3⟩
theorem abO {α:Type} {xs:List (κ×α)} {k:κ} {v:α} (h:k∉xs.map (·.1)):j9 xs k v=xs++[(k,v)]:=by unfold j9;rw[a0h h]
end
section
variable (ev:jN→Nat→Option (EvT×jN))
def Yd (cs:List jN) (c:jN) (n:Nat):List (EvT×Int):=(List.range n).filterMap fun i=>(ev c i).map fun p=>(p.1,(iU (numOf cs) p.2).getD 0)
def agk (cs:List jN) (c:jN) (n:Nat):Prop:=∀i,i<n→∀e c',ev c i=some (e,c')→c'∈cs
structure ag1 (first:jN) (n:Nat) (Good:jN→Prop) (sp:Ol):Prop where
 zero:sp.contents[0]?=some first
 nd:sp.contents.Nodup
 good:∀c∈sp.contents,Good c
 len:sp.links.length=sp.contents.length
 rows:∀(j:Nat) c,sp.contents[j]?=some c→sp.links[j]?=some (Yd ev sp.contents c n)∧agk ev sp.contents c n
variable {ev}
end
def FrB (b:Int):Fr→Prop
 | .jr v=>0≤v∧v≤9
 | .act _ _ look ρ=>(look=-1∨0≤look∧look<b)∧∀x,0≤ρ x∧ρ x<b
def ClB (b:Int):Cl→Prop
 | (_,none)=>True
 | (_,some (_,fr))=>FrB b fr
structure YJ (I:IM) (client:List (List Str)) (a:AC):Prop extends HF I client a where
 nb:∀x∈a.ν,0≤x∧x<I.base
 cb:∀x∈a.cs,ClB I.base x
def YK (I:IM) (client:List (List Str)):AC→List Nat→Option (List (Nat×zF)×AC)
 | a,[]=>some ([],a)
 | a,i::r=>(pZ I client a i).bind fun p=>(YK I client p.2 r).map fun q=>((i,p.1)::q.1,q.2)
noncomputable def Iu (I:IM) (st:List Int) (client:List (List Str)) (c:jN) (i:Nat):Option (EvT×jN):=(M5 (I.bI st) client c (i:Int)).getD none
def YL (I:IM) (st:List Int) (client:List (List Str)) (a:AC):Prop:=∃run es,YK I client (YH st client) run=some (es,a)
theorem aeZ {I:IM} {client:List (List Str)} {a:AC} {i:Nat} {p:zF×AC} (hl:a.cs.length=client.length) (h:pZ I client a i=some p):i<client.length:=by
 cases hx:a.cs[i]? with
 | none=>unfold pZ at h;rw[hx] at h;cases h
 | some x=>rw[← hl];exact(a0d.mp hx).1
structure YM (I:IM) (client:List (List Str)):Prop where
 nm:∀ns∈client,∀x∈ns,∃o∈I.os,o.name=x
 len:client.length≤1000
theorem ae0 {I:IM} (hI:I.Ok) {st:List Int} {client:List (List Str)} (hc:YM I client) {a:AC} (ha:HF I client a) {i:Nat} (hi:i<client.length):Iu I st client (pC a) i=YG i (pZ I client a i):=by
 unfold Iu
 rw[abB hI hc.nm (by have:=hc.len;omega) ha hi];rfl
structure zG (I:IM) (st:List Int) (client:List (List Str)) (sp:Ol):Prop where
 cl:sp.client=client
 ok:ag1 (Iu I st client) (pC (YH st client)) client.length (fun c=>∃a,YJ I client a∧YL I st client a∧c=pC a) sp
section
variable {I:IM} {st:List Int} {client:List (List Str)} {sp:Ol}
theorem zG.at_ (S:zG I st client sp) {s:Nat} {c:jN} (h:sp.contents[s]?=some c):∃a,YJ I client a∧YL I st client a∧c=pC a:=S.ok.good c (a0l h)
theorem zG.row (S:zG I st client sp) {s:Nat} {c:jN} (h:sp.contents[s]?=some c):sp.links[s]?=some (Yd (Iu I st client) sp.contents c client.length):=(S.ok.rows s c h).1
theorem zG.next (S:zG I st client sp) (hI:I.Ok) (hc:YM I client) {s:Nat} {a:AC} (ha:HF I client a) (h:sp.contents[s]?=some (pC a)) {i:Nat} {e:zF} {a':AC} (he:pZ I client a i=some (e,a')):∃s':Nat,iU (numOf sp.contents) (pC a')=some (s':Int)∧sp.contents[s']?=some (pC a'):=by
 have hi:=aeZ ha.len he
 have:=(S.ok.rows s _ h).2 i hi (YF i e) (pC a') (by rw[ae0 hI hc ha hi,he];rfl)
 exact aeY this
end
def Xl (n:Nat) (row:List (Int×Int)):Prop:=row.length=n∧∀p∈row,(0≤p.1∧p.1≤9)∧0≤p.2∧p.2<n
theorem acA {n:Nat} {row:List (Int×Int)} (h:Xl n row) (hn:1≤n∧n≤100):Bc row (n:Int)=some true:=by
 refine Pv.eq ?_
 obtain⟨hl,hp⟩:=h
 unfold Bc
 refine dJ (by rw[a0q (show (1:Int)≤(n:Int) by omega),a0q (show (n:Int)≤(100:Int) by omega),a0q (show (row.length:Int)=(n:Int) by rw[hl])];rfl) ?_
 refine eY (Gm (fun _ _=>True) trivial ?_ fun _ _=>bD rfl)
 intro done p rest b e _
 have hm:p∈row:=by rw[e];simp
 obtain⟨⟨a1,a2⟩,a3,a4⟩:=hp p hm
 refine dJ rfl (dJ (by rw[a0q a1,a0q a2,a0q a3,a0q a4];rfl) (bD trivial))
theorem acB {rows:List (Str×List (Int×Int))} {n:Nat} {start:Int} (hl:1≤rows.length∧rows.length≤6) (hk:(rows.map (·.1)).Nodup) (hnm:∀x∈rows,o8 x.1=true) (hr:∀x∈rows,Xl n x.2) (hn:1≤n∧n≤100) (hs:0≤start∧start<n) :
  Ai rows start=some (.ok ⟨rows,n,start⟩):=by
 refine Pv.eq ?_
 unfold Ai
 refine dJ (by rw[a0q (show (1:Int)≤(rows.length:Int) by omega),a0q (show (rows.length:Int)≤(6:Int) by omega)];rfl) (fO ?_)
 refine eY (Vh (fun done s=>s=(if done=[] then -1 else(n:Int),done)) rfl ?_ ?_)
 ·rintro done x rest s e rfl
  have hm:x∈rows:=by rw[e];simp
  have hx:=hr x hm
  have hdl:done.length<rows.length:=by rw[e];simp
  refine aH (A_ hk hm) (fO ?_)
  have e1:(if (decide ((if done=[] then -1 else(n:Int))<(0:Int)))=true then(x.2.length:Int) else if done=[] then -1 else(n:Int))=(n:Int):=by
   by_cases hd:done=[]
   ·rw[a0g hd,a0g (by decide),hx.1]
   ·rw[a0h hd,a0h (by simp)]
  have hnl:=abq (hnm x hm)
  rw[show (if (decide ((((if done=[] then -1 else(n:Int)),done):Int×List (Str×List (Int×Int))).1<(0:Int)))=true then(x.2.length:Int) else(((if done=[] then -1 else(n:Int)),done):Int×List (Str×List (Int×Int))).1)=(n:Int) from e1]
  refine aH (aa6 x.1 (by omega)) (yt (GJ (by rw[hnm x hm];rfl) (aH (acA hx hn) (bD (dJ rfl ?_)))))
  have hno:x.1∉done.map (·.1):=by
   rw[e,List.map_append,a0y] at hk
   exact fun hm2=>(List.nodup_append.mp hk).2.2 x.1 hm2 x.1 (by simp) rfl
  refine aH (NP (by show done.length<_;omega)) (bD ?_)
  show ((n:Int),j9 done x.1 x.2)=_
  rw[abO hno,a0h (by simp)]
 ·rintro s rfl
  have hne:rows≠[]:=fun z=>by rw[z] at hl;simp at hl
  show Pv (if _ then _ else _) _
  rw[a0h hne]
  refine dJ (by rw[a0q hs.1,a0q hs.2];rfl) (bD rfl)
end TY
set_option maxHeartbeats 2000000
namespace TY
open PySem L2 DL AL PyProof.Rows
def part3 (nm:Str) (i size:Int):Int×Int:=if nm="read" then(i,i) else if nm="add" then(i,(i+1)%size) else(i,0)
def lN (nm:Str) (n:Nat):List (Int×Int):=(List.range n).map fun(i:Nat)=>part3 nm (i:Int) (n:Int)
def dW (ns:List Str) (n:Nat):List (Str×List (Int×Int)):=ns.map fun nm=>(nm,lN nm n)
theorem Fg {ns:List Str} {n:Nat}:(dW ns n).map (·.1)=ns:=by
 unfold dW
 rw[b0s]
 exact List.map_id' _
theorem put3 {ns:List Str} {n:Nat} {nm:Str} (h:nm∉ns) (hl:ns.length≤10):iJ (dW ns n) nm (lN nm n)=some (dW (ns++[nm]) n):=by
 rw[NP (by unfold dW;rw[a0C];omega),ace (by rw[Fg];exact h)]
 unfold dW
 rw[List.map_append];rfl
section
variable {n:Nat} (hn:1≤n∧n≤10)
include hn
theorem acC:gA (fun _=>some true) (fun(state:Int)=>some (state,state)) ((List.range n).map fun(i:Nat)=>(i:Int))=some (lN "read" n):=by
 refine(Gh (g:=fun s=>(s,s)) (by simp;omega) (fun _ _=>rfl) (fun _ _=>rfl)).trans ?_
 rw[b0s];rfl
theorem adF:gA (fun _=>some true) (fun(state:Int)=>(pO (state+(1:Int)) (n:Int)).bind fun v=>some (state,v)) ((List.range n).map fun(i:Nat)=>(i:Int))=some (lN "add" n):=by
 refine(Gh (g:=fun s=>(s,(s+1)%(n:Int))) (by simp;omega) (fun _ _=>rfl) (fun y _=>by rw[Gg (by omega)];rfl)).trans ?_
 rw[b0s];rfl
theorem acD:gA (fun _=>some true) (fun(state:Int)=>some (state,(0:Int))) ((List.range n).map fun(i:Nat)=>(i:Int))=some (lN "take" n):=by
 refine(Gh (g:=fun s=>(s,0)) (by simp;omega) (fun _ _=>rfl) (fun _ _=>rfl)).trans ?_
 rw[b0s];rfl
theorem Vl (k:Nat) (hk:k<6):Av ([(dF.Kind ⟨(n:Int)⟩),(dF.Shown ⟨(n:Int)⟩),(dF.Raised ⟨(n:Int)⟩),(dF.Emptied ⟨(n:Int)⟩),(dF.Counter ⟨(n:Int)⟩),(dF.Full ⟨(n:Int)⟩)].getD k (.Kind ⟨(n:Int)⟩))=some (dW ([([]:List Str),["read"],["add"],["take"],["add","read"],["take","add","read"]].getD k []) n):=by
 have hr:fQ (0:Int) (n:Int)=_:=yJ (n:=n) (by omega)
 have Ro:∀{told:List (Str×List (Int×Int))} {ns:List Str},told=dW ns n→("read":Str)∉ns→ns.length≤10→((fQ (0:Int) (n:Int)).bind fun r=>(gA (fun state=>some true) (fun state=>some (state,state)) r).bind fun v=>(iJ told ("read":Str) v).bind fun cY=>some cY)=some (dW (ns++[("read":Str)]) n):=fun {told ns} e h1 h2=>by
  subst e
  exact Pv.eq (aH hr (aH (acC hn) (aH (put3 h1 h2) (bD rfl))))
 have Rq:∀{told:List (Str×List (Int×Int))} {ns:List Str},told=dW ns n→("add":Str)∉ns→ns.length≤10→((fQ (0:Int) (n:Int)).bind fun r=>(gA (fun state=>some true) (fun state=>(pO (state+(1:Int)) (n:Int)).bind fun v=>some (state,v)) r).bind fun v1=>(iJ told ("add":Str) v1).bind fun cY=>some cY)=some (dW (ns++[("add":Str)]) n):=fun {told ns} e h1 h2=>by
  subst e
  exact Pv.eq (aH hr (aH (adF hn) (aH (put3 h1 h2) (bD rfl))))
 have YQ:∀{told:List (Str×List (Int×Int))} {ns:List Str},told=dW ns n→("take":Str)∉ns→ns.length≤10→((fQ (0:Int) (n:Int)).bind fun r=>(gA (fun state=>some true) (fun state=>some (state,(0:Int))) r).bind fun v=>(iJ told ("take":Str) v).bind fun cY=>some cY)=some (dW (ns++[("take":Str)]) n):=fun {told ns} e h1 h2=>by
  subst e
  exact Pv.eq (aH hr (aH (acD hn) (aH (put3 h1 h2) (bD rfl))))
 have k0:rP=some (dW [] n):=rfl
 rcases(show k=0∨k=1∨k=2∨k=3∨k=4∨k=5 by omega) with rfl|rfl|rfl|rfl|rfl|rfl
 ·exact k0
 ·show Ae ⟨(n:Int)⟩=_
  unfold Ae
  rw[k0,a0i]
  exact Ro rfl (by simp) (by simp)
 ·show zW ⟨(n:Int)⟩=_
  unfold zW
  rw[k0,a0i]
  exact Rq rfl (by simp) (by simp)
 ·show zM ⟨(n:Int)⟩=_
  unfold zM
  rw[k0,a0i]
  exact YQ rfl (by simp) (by simp)
 ·show zX ⟨(n:Int)⟩=_
  unfold zX DN
  rw[k0,a0i]
  rw[show (Option.bind (fQ (0:Int) (n:Int)) _:Option (List (Str×List (Int×Int))))=some (dW ([]++[("add":Str)]) n) from Rq rfl (by simp) (by simp),a0i]
  exact Ro (ns:=["add"]) rfl (by trivial) (by simp)
 ·have e1:z_ ⟨(n:Int)⟩=some (dW [("take":Str)] n):=by
   unfold z_
   rw[k0,a0i]
   exact YQ (ns:=[]) rfl (by simp) (by simp)
  have e2:Af ⟨(n:Int)⟩=some (dW [("take":Str),"add"] n):=by
   unfold Af
   rw[e1,a0i]
   exact Rq (ns:=[("take":Str)]) rfl (by trivial) (by simp)
  show Ah ⟨(n:Int)⟩=_
  unfold Ah
  rw[e2,a0i]
  exact Ro (ns:=[("take":Str),"add"]) rfl (by trivial) (by simp)
theorem Uq {nm:Str} {i:Int}:xg nm i (n:Int)=some (part3 nm i (n:Int)):=by
 unfold xg part3
 by_cases h1:nm="read"
 ·rw[a0g (a0q h1),a0g h1]
 ·rw[a0h (by rw[a0F h1];simp),a0h h1]
  by_cases h2:nm="add"
  ·rw[a0g (a0q h2),a0g h2,Gg (by omega)];rfl
  ·rw[a0h (by rw[a0F h2];simp),a0h h2]
theorem agl {ns:List Str} (hnd:ns.Nodup) (hs:∀x∈ns,PyData.strOk x=true):Ao (dW ns n) ns (n:Int)=some true:=by
 refine Pv.eq ?_
 unfold Ao
 refine aH (a:=false) ?_ (dJ rfl ?_)
 ·refine Pv.eq (GJ rfl ?_)
  rw[Fg]
  exact aH (Az (n:=1) (Wr fun d hd=>by obtain⟨x,hx,rfl⟩:=a0G.mp hd;exact O5 (hs x hx)) (by omega)) (bD rfl)
 refine eY (Gm (fun _ _=>True) trivial ?_ (fun _ _=>bD rfl))
 rintro done nm rest _ e _
 have hm:nm∈ns:=by rw[e];simp
 refine aH (A_ (p:=(nm,lN nm n)) (by rw[Fg];exact hnd) (b0n hm)) ?_
 have hl:(lN nm n).length=n:=by unfold lN;simp
 refine dJ (by rw[hl];simp) (aH (yJ (n:=n) (by omega)) ?_)
 refine eY (FZ (fun _ _=>True) trivial ?_ (fun _ _=>bD trivial))
 rintro i _ hi _
 refine aH (a:=part3 nm (i:Int) (n:Int)) ?_ ?_
 ·rw[jB]
  unfold lN
  rw[a0p,b0g hi];rfl
 refine aH (a:=false) ?_ (dJ rfl ?_)
 ·refine Pv.eq (GJ rfl (aH (Uq hn) (aH (Az (n:=1) (Gz fun d hd=>?_) (by omega)) (bD rfl))))
  rcases(show d=D.int (part3 nm (i:Int) (n:Int)).1∨d=D.int (part3 nm (i:Int) (n:Int)).2 by simpa using hd) with rfl|rfl<;>exact Gy
 refine aH (show wR _=some true from rfl) (aH (a:=false) ?_ (dJ rfl (bD trivial)))
 exact Pv.eq (GJ rfl (aH (show wR _=some true from rfl) (bD rfl)))
end
theorem ag3 {b:Int} (h:b<1∨10<b) (h2:-1000≤b∧b≤1000):rK b=some (.error ⟨.BadNumber,[.int b]⟩)∧rJ b=some (.error ⟨.BadNumber,[.int b]⟩)∧rG b=some (.error ⟨.BadNumber,[.int b]⟩)∧rD b=some (.error ⟨.BadNumber,[.int b]⟩)∧rE b=some (.error ⟨.BadNumber,[.int b]⟩)∧rM b=some (.error ⟨.BadNumber,[.int b]⟩):=by
 have hc:(!(decide ((1:Int)≤b)&&decide (b≤(10:Int))))=true:=by
  rcases h with h|h
  ·rw[a0F (by omega)];rfl
  ·rw[a0F (show ¬b≤10 by omega),Bool.and_false];rfl
 have hr:∀{ρ:Type} {x:ρ},kW (D.int b) x=some x:=fun {ρ x}=>a0g (adp (by omega))
 unfold rK rJ rG rD rE rM
 rw[a0g hc,a0g hc,a0g hc,a0g hc,a0g hc,a0g hc]
 exact⟨hr,hr,hr,hr,hr,hr⟩
theorem good3 {n:Nat} (hn:1≤n∧n≤10):rK (n:Int)=some (.ok ⟨(n:Int)⟩)∧rJ (n:Int)=some (.ok ⟨(n:Int)⟩)∧rG (n:Int)=some (.ok ⟨(n:Int)⟩)∧rD (n:Int)=some (.ok ⟨(n:Int)⟩)∧rE (n:Int)=some (.ok ⟨(n:Int)⟩)∧rM (n:Int)=some (.ok ⟨(n:Int)⟩):=by
 have hc:¬(!(decide ((1:Int)≤(n:Int))&&decide ((n:Int)≤(10:Int))))=true:=by
  rw[a0q (by omega),a0q (by omega)];simp
 unfold rK rJ rG rD rE rM
 rw[a0h hc,a0h hc,a0h hc,a0h hc,a0h hc,a0h hc]
 exact⟨rfl,rfl,rfl,rfl,rfl,rfl⟩
theorem acE {c:CL} (hB:EC.BadNumber∈c.has) {k:Nat} (hk:k<6) {b:Int} (h:b<1∨10<b) (h2:-1000≤b∧b≤1000):Ak c (k:Int) b=some true:=by
 obtain⟨b0,b1,b2,b3,b4,b5⟩:=ag3 h h2
 have hd:fG (D.int b) (D.int b)=some true:=Az (n:=0) Gy (by omega)
 have fin:cJ (α:=Unit) (Cq c (some (.rt (.inr ⟨.BadNumber,[.int b]⟩))) (fun er=>CW .BadNumber er (fun es=>(es[0]?).bind fun v6=>(fG ((fun d=>d) v6) (D.int b)).bind fun q=>some (.rt q)) (none))) (fun Ir=>some false)=some true:=by
  unfold Cq
  simp only
  rw[a0g hB]
  unfold CW
  rw[a0g rfl]
  show cJ (((some (D.int b)).bind fun v6=>(fG ((fun d=>d) v6) (D.int b)).bind fun q=>some (.rt q))) _=_
  rw[a0i,hd];rfl
 unfold Ak
 rcases(show k=0∨k=1∨k=2∨k=3∨k=4∨k=5 by omega) with rfl|rfl|rfl|rfl|rfl|rfl
 ·rw[a0g (by decide),b0];exact fin
 ·rw[a0h (by decide),a0g (by decide),b1];exact fin
 ·rw[a0h (by decide),a0h (by decide),a0g (by decide),b2];exact fin
 ·rw[a0h (by decide),a0h (by decide),a0h (by decide),a0g (by decide),b3];exact fin
 ·rw[a0h (by decide),a0h (by decide),a0h (by decide),a0h (by decide),a0g (by decide),b4];exact fin
 ·rw[a0h (by decide),a0h (by decide),a0h (by decide),a0h (by decide),a0h (by decide),b5];exact fin
theorem ag4 (a b:List (Int×Int)) (e:vL (aR D.int D.int) a=vL (aR D.int D.int) b):a=b:=by
 injection e with e
 have hf:∀x y:Int×Int,aR D.int D.int x=aR D.int D.int y→x=y:=fun x y h=>by
  have h:D.tup [D.int x.1,D.int x.2]=D.tup [D.int y.1,D.int y.2]:=h
  injection h with h
  injection h with h1 h2
  injection h2 with h2 _
  injection h1 with h1
  injection h2 with h2
  exact Prod.ext h1 h2
 exact List.map_inj_right (fun x y=>hf x y) |>.mp e
theorem ae1 {c:CL} (ok:c.Ok) (hB:EC.BadNumber∈c.has) (sc:List Int):Ay c sc=some (.ok true):=by
 refine Pv.eq ?_
 unfold Ay
 obtain⟨f,hd,hf⟩:=acd sc 0 14 (by omega)
 refine aH (show uP sc (0:Int) (14:Int)=_ from hf) (aH (Gi (by omega) (by omega)) ?_)
 generalize f (0:Int).toNat=v
 obtain⟨n,hn,CJ⟩:∃n:Nat,(1:Int)+v%10=(n:Int)∧(1≤n∧n≤10):=⟨(1+v%10).toNat,by omega,by omega,by omega⟩
 rw[hn]
 obtain⟨g0,g1,g2,g3,g4,g5⟩:=good3 CJ
 refine fO (yC g0 (yC g1 (yC g2 (yC g3 (yC g4 (yC g5 (fO (fO (aH (yJ (n:=6) (by omega)) ?_)))))))))
 refine eY (FZ (fun _ _=>True) trivial ?_ ?_)
 ·rintro k h hk _
  refine aH (yJ (n:=2) (by omega)) ?_
  refine eY (FZ (fun _ _=>True) trivial ?_ ?_)
  ·rintro t h1 ht _
   have e1:atI [(dF.Kind ⟨(n:Int)⟩),(dF.Shown ⟨(n:Int)⟩),(dF.Raised ⟨(n:Int)⟩),(dF.Emptied ⟨(n:Int)⟩),(dF.Counter ⟨(n:Int)⟩),(dF.Full ⟨(n:Int)⟩)] (k:Int)=some ([(dF.Kind ⟨(n:Int)⟩),(dF.Shown ⟨(n:Int)⟩),(dF.Raised ⟨(n:Int)⟩),(dF.Emptied ⟨(n:Int)⟩),(dF.Counter ⟨(n:Int)⟩),(dF.Full ⟨(n:Int)⟩)].getD k (.Kind ⟨(n:Int)⟩)):=by
    rw[jB,a0Q,a0e (by simpa using hk)];rfl
   have e2:atI [([]:List Str),[("read":Str)],[("add":Str)],[("take":Str)],[("add":Str),("read":Str)],[("take":Str),("add":Str),("read":Str)]] (k:Int)=some ([([]:List Str),["read"],["add"],["take"],["add","read"],["take","add","read"]].getD k []):=by
    rw[jB,a0Q,a0e (by simpa using hk)];rfl
   have e3:([([]:List Str),["read"],["add"],["take"],["add","read"],["take","add","read"]].getD k []).Nodup∧(∀x∈([([]:List Str),["read"],["add"],["take"],["add","read"],["take","add","read"]].getD k []),PyData.strOk x=true)∧([([]:List Str),["read"],["add"],["take"],["add","read"],["take","add","read"]].getD k []).length≤3:=by
    rcases(show k=0∨k=1∨k=2∨k=3∨k=4∨k=5 by omega) with rfl|rfl|rfl|rfl|rfl|rfl<;>exact⟨by decide +kernel,by decide +kernel,by decide⟩
   have hku:=Vl CJ k hk
   generalize ([([]:List Str),["read"],["add"],["take"],["add","read"],["take","add","read"]].getD k [])=ns at e2 e3 hku
   refine aH e1 (aH hku (fO (aH (aeN ag4 (by rw[a0t (a0v _),b0i];rfl)) (aH e2 (aH (agl CJ e3.1 e3.2.1) (dJ rfl (aH (NP (by unfold dW;rw[a0C];have:=e3.2.2;omega)) (fO (bD trivial)))))))))
  ·rintro h1 _
   refine aH (Gi (by omega) (by omega)) ?_
   generalize f (1:Int).toNat=v10
   refine eY (Gm (fun _ _=>True) trivial ?_ (fun _ _=>bD trivial))
   rintro done b rest _ e _
   have hb:b=0∨b=11∨b=-1-v10%50∨b=11+v10%50:=by
    have:b∈[(0:Int),(11:Int),(-(1:Int))-(v10%(50:Int)),(11:Int)+(v10%(50:Int))]:=by rw[e];simp
    simpa using this
   exact aH (acE hB hk (by omega) (by omega)) (dJ rfl (bD trivial))
 rintro h _
 refine aH (Gi (by omega) (by omega)) (aH (Gg (by omega)) ?_)
 have hst:0≤f (2:Int).toNat%(n:Int)∧f (2:Int).toNat%(n:Int)<n:=⟨Int.emod_nonneg _ (by omega),Int.emod_lt_of_pos _ (by omega)⟩
 generalize f (2:Int).toNat%(n:Int)=st at hst
 have hku:Av (.Full ⟨(n:Int)⟩)=some (dW [("take":Str),"add","read"] n):=Vl CJ 5 (by omega)
 refine aH hku ?_
 have hpart:∀(nm:Str) (i:Nat),i<n→(0≤(part3 nm (i:Int) (n:Int)).1∧(part3 nm (i:Int) (n:Int)).1≤9)∧0≤(part3 nm (i:Int) (n:Int)).2∧(part3 nm (i:Int) (n:Int)).2<n:=fun nm i hi=>by
  have h1:0≤((i:Int)+1)%(n:Int)∧((i:Int)+1)%(n:Int)<n:=⟨Int.emod_nonneg _ (by omega),Int.emod_lt_of_pos _ (by omega)⟩
  unfold part3
  split
  ·exact⟨⟨by show (0:Int)≤(i:Int);omega,by show (i:Int)≤9;omega⟩,by show (0:Int)≤(i:Int);omega,by show (i:Int)<n;omega⟩
  ·split
   ·exact⟨⟨by show (0:Int)≤(i:Int);omega,by show (i:Int)≤9;omega⟩,h1.1,h1.2⟩
   ·exact⟨⟨by show (0:Int)≤(i:Int);omega,by show (i:Int)≤9;omega⟩,by show (0:Int)≤0;omega,by show (0:Int)<n;omega⟩
 have hkeys:(dW [("take":Str),"add","read"] n).map (·.1)=[("take":Str),"add","read"]:=Fg
 refine Ux (acB (rows:=dW ["take","add","read"] n) (n:=n) (by unfold dW;simp) (by rw[hkeys];decide +kernel) (fun x hx=>?_) (fun x hx=>?_) (by omega) hst) ?_
 ·obtain⟨nm,hm,rfl⟩:=a0G.mp hx
  have:∀nm∈(["take","add","read"]:List Str),o8 nm=true:=by decide +kernel
  exact this nm hm
 ·obtain⟨nm,hm,rfl⟩:=a0G.mp hx
  refine⟨by show (lN nm n).length=n;unfold lN;simp,fun p hp=>?_⟩
  obtain⟨i,hi,rfl⟩:=a0G.mp (show p∈(List.range n).map (fun(i:Nat)=>part3 nm (i:Int) (n:Int)) from hp)
  exact hpart nm i (List.mem_range.mp hi)
 refine aH (yJ (n:=10) (by omega)) ?_
 refine eY (FZ (fun _ (s:Int)=>0≤s∧s<n) hst ?_ ?_)
 ·rintro k s hk hs
  refine aH (Gi (by omega) (by omega)) ?_
  generalize f ((3:Int)+(k:Int)).toNat=zB
  obtain⟨nm,hm,e⟩:=af5 (xs:=[("take":Str),("add":Str),("read":Str)]) (i:=zB%3) (by omega) (by simp;omega)
  refine aH e ?_
  obtain⟨i,hi,hin⟩:∃i:Nat,s=(i:Int)∧i<n:=⟨s.toNat,by omega,by omega⟩
  subst hi
  refine Ux (a:=part3 nm (i:Int) (n:Int)) ?_ ?_
  ·refine Pv.eq ?_
   unfold Ep
   refine dJ (by show (!decide (nm∈(dW [("take":Str),"add","read"] n).map (·.1)))=false;rw[hkeys,a0q hm];rfl) ?_
   refine dJ (by rw[a0q (show (0:Int)≤(i:Int) by omega),a0q (show (i:Int)<(n:Int) by omega)];rfl) ?_
   refine aH (A_ (p:=(nm,lN nm n)) (by rw[hkeys];decide +kernel) (b0n hm)) (aH (a:=part3 nm (i:Int) (n:Int)) ?_ (bD rfl))
   rw[jB]
   unfold lN
   rw[a0p,b0g hin];rfl
  refine aH (Uq CJ) (aH (Az (n:=1) (Gz fun d hd=>?_) (by omega)) (dJ rfl (bD (hpart nm i hin).2)))
  rcases(show d=D.int (part3 nm (i:Int) (n:Int)).1∨d=D.int (part3 nm (i:Int) (n:Int)).2 by simpa using hd) with rfl|rfl<;>exact Gy
 ·rintro s _
  refine aH (show Ef _=some [("take":Str),"add","read"] from by show some ((dW [("take":Str),"add","read"] n).map (·.1))=_;rw[hkeys]) (aH (Az (n:=1) (Wr fun d hd=>?_) (by omega)) (bD rfl))
  obtain⟨x,hx,rfl⟩:=a0G.mp hd
  have:∀nm∈(["take","add","read"]:List Str),PyData.strOk nm=true:=by decide +kernel
  exact O5 (this x hx)
end TY
theorem PySem.Challenge.cw_orderatonce_k03_kinds_rows_holds : PySem.Challenge.rw_orderatonce_k03_kinds_rows.Holds :=
 Z.zzWalk @TY.ae1
