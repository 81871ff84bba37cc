import PyProof.Rows.All
import Wide.All
import OpenK.AllK
import Wide.FinOn
import HandS.ForMost
import HandS.ForExc
import HandS.IsInst
import HandS.EndBits
import HandS.Wide
import HandS.Walk
import KE.KIsAll
import KE.KTryMore
import KE.KExcIs
import KE.KExcInit
import HandS.Exc
import HandS.ExcField
import HandS.ExcOwn
import HandS.CallSlots
import HandS.Defaults
import HandS.MakeKwOnly
import HandS.SortInts
import HandS.Zip
import HandS.Conv
import HandS.More
import KE.KCallOwn
import KE.KFmtOwn
import HandS.WideBits
import KE.IntBitsLaws
import KE.BitLaws
import HandS.FStr
import HandS.TryMany
import PyProof.InstNe
import PyProof.Rows.InDataRows
import HandS.EndTab
import HandS.Style
import HandS.OwnEq
import HandS.WordsDict
import PyProof.NeKinds
import KE.KDictZip
import HandS.NoneIn
import HandS.Comp
import PyProof.EqKinds
import PyProof.FactsAll.dict_1
import KE.KNest
import KE.DataCmp
import KE.SortData
import KE.SortLaws
import HandS.TupLen
import KE.GoesMore
import KE.KIntText
import HandS.RaiseFrom
import HandS.HotCalls
import HandS.ExcInitHot
import HandS.SetFor
import HandS.SuiteRaise
import KE.KRevSl
import KE.KxStill
import PySem.Challenge.RW_paritycells_k92_whole_texts_spoilt
set_option Elab.async false
set_option linter.all false
set_option maxRecDepth 100000
set_option maxHeartbeats 2000000
namespace PC
open PySem PySem.Spec PyProof.Rows L2

def GOkA (K:PySem.W.Frag) (A:Around) (base:Heap):Prop:=
  ∃gs,A.guards=some gs∧ ∀id v rest kw,Code.builtin id ⟨v::rest,kw⟩∈gs→ ∃g o,v= .ref g∧base.get? g=some o∧K.lookup g=none
abbrev GOk (X:Cx):Prop:=GOkA X.K X.A X.base
theorem GOkA.nil {K:PySem.W.Frag} {A:Around} {base:Heap} (h:A.guards=some []):GOkA K A base:=⟨[],h,fun _ _ _ _ m=>nomatch m⟩
structure FnG (P:Program) (w:World) (K:PySem.W.Frag) (mg:Str→Option Value) (base:Heap)
    (k:Nat) (f:Addr) (fd:FuncData) (ps:List Str) (sp:Sp):Prop where
  len: ∀vs H Q E,sp vs H Q E→vs.length=ps.length
  run: ∀(A:Around) (outer:List Env) (s:Shared) (H:Hp) (args:Args)
      (us:List Value) (vs:List V) (Q:VK) (E:XK),
    GOkA K A base→Room k A→Env0 P w K mg base A outer s H→
    BindsTo s fd args (ps.zip us)→Vals vs us→sp vs H Q E→
    codeAny (model P w) A (.call (.ref f) args) (CR (L2.CX P w) outer P w H s Q E) s

section
variable {P : Program} {w : World} {K : PySem.W.Frag} {mg : Str → Option Value} {base : Heap}

theorem FnG.mono {j k:Nat} {f:Addr} {fd:FuncData} {ps:List Str} {sp:Sp}
    (F:FnG P w K mg base j f fd ps sp) (h:j≤k):FnG P w K mg base k f fd ps sp:=
  ⟨F.len,fun A o s H a us vs Q E g r=>F.run A o s H a us vs Q E g (r.mono h)⟩
theorem FnG.imp {k:Nat} {f:Addr} {fd:FuncData} {ps:List Str} {sp sp':Sp}
    (F:FnG P w K mg base k f fd ps sp) (h: ∀vs H Q E,sp' vs H Q E→sp vs H Q E):FnG P w K mg base k f fd ps sp':=
  ⟨fun vs H Q E q=>F.len vs H Q E (h _ _ _ _ q),
    fun A o s H a us vs Q E g r e0 b rv q=>F.run A o s H a us vs Q E g r e0 b rv (h _ _ _ _ q)⟩

abbrev cxg (P:Program) (w:World) (K:PySem.W.Frag) (mg:Str→Option Value) (base:Heap) (N:List Str) (qual:Str)
    (st:Stmt) (f:Addr) (cdv:Value) (A:Around) (outer:List Env) (s:Shared) (H:Hp) (E:XK):Cx:=
  cxOf (L2.CX P w) P w K mg base N qual (defScope st) f cdv A outer s H E

theorem FnG.okX {x qual:Str} {st:Stmt} {f:Addr} {fd:FuncData} {N ps:List Str} {k:Nat} {sp:Sp}
    (F:Fun K x qual st f fd) (S:FnScope N ps (defScope st))
    (len: ∀vs H Q E,sp vs H Q E→vs.length=ps.length)
    (body: ∀(cdv:Value) (A:Around) (outer:List Env) (s:Shared) (H:Hp) (vs:List V) (Q:VK) (E:XK),
      GOkA K A base→Room k (A.deeper (envOfC qual (defScope st) s.heap.objs.size f cdv))→sp vs H Q E→
      ∃t,PSs (cxg P w K mg base N qual st f cdv A outer s H E) (defBody st) t∧
        t { nx:=fun _ H'=>Q .non H',rt:=Q } (start N vs) H):
    FnG P w K mg base (k+1) f fd ps sp:=by
  obtain⟨oc,od,kV,doc,pm,an,cdv,ct,osl,rfl,lk,hcd⟩:=F.ex
  refine⟨len,fun A outer s H args us vs Q E hg hr e0 hb rv hsp=> ?_⟩
  have bk: ∀b o,base.get? b=some o→s.heap.get? b=some o:=fun b o e=>(e0.bs b o e).1
  have cells: ∀y∈ps.zip us,(defScope st).names.lookup y.1=some .local∨
      ((defScope st).names.lookup y.1=some .cell∧
        ((cellsFrom (s.heap.objs.size+1) (defScope st).names []).lookup y.1).isSome=true):=by
    rintro ⟨n,v⟩ hy
    rcases S.par n (List.of_mem_zip hy).1 with z | z
    · exact .inl z
    · exact .inr ⟨z,PySem.W.cellsFrom_some _ _ _ (.inl z)⟩
  refine codeAny_call_function hr.depth ((e0.mod.kin.keeps bk) _ _ lk) rfl S.co S.gen rfl
    (PySem.W.codeRec_of (e0.mod.kin.keeps bk) hcd) (hb _ _ _ _ ?_)
  refine wpAny_newFunctionEnv_cells S.kind cells fun env he s1 x=> ?_
  subst he
  refine⟨(e0.mod.nolimit.keeps bk).keeps x.toInCall.keep,codeAny_func ?_⟩
  obtain⟨t,ht,hq⟩:=body cdv A outer s H vs Q E hg (hr.deeper _) hsp
  refine wpAny_mono (ht.run [] s1 (start N vs) H _
    (inv_start S hr.hd e0 (len _ _ _ _ hsp) rv x) hq) (fun fl s' hs=> ?_) fun e s' hs=>hs
  cases fl with
  | ret u=>
    obtain⟨v,_,H',J,r,q⟩:=hs
    exact⟨v,H',J.os,J.bare,J.base,J.hok,r,q⟩
  | next=>
    obtain⟨_,H',J,q⟩:=hs
    exact⟨V.non,H',J.os,J.bare,J.base,J.hok,rfl,q⟩
  | brk=>obtain⟨_,_,_,q⟩:=hs;exact q.elim
  | cont=>obtain⟨_,_,_,q⟩:=hs;exact q.elim

theorem FnG.ok {x qual:Str} {st:Stmt} {f:Addr} {fd:FuncData} {N ps:List Str} {k:Nat} {sp:Sp}
    (F:Fun K x qual st f fd) (S:FnScope N ps (defScope st))
    (len: ∀vs H Q E,sp vs H Q E→vs.length=ps.length)
    (body: ∀(cdv:Value) (A:Around) (outer:List Env) (s:Shared) (H:Hp) (vs:List V) (Q:VK) (E:XK),
      GOkA K A base→Room k (A.deeper (envOfC qual (defScope st) s.heap.objs.size f cdv))→sp vs H Q E→
      ∃t,PSs (cxg P w K mg base N qual st f cdv A outer s H E).nox (defBody st) t∧
        t { nx:=fun _ H'=>Q .non H',rt:=Q } (start N vs) H):
    FnG P w K mg base (k+1) f fd ps sp:=
  FnG.okX F S len fun cdv A outer s H vs Q E g r h=>
    let ⟨t,ht,q⟩:=body cdv A outer s H vs Q E g r h
    ⟨t,ht.nox,q⟩
end

theorem passN {X:Cx}:Passes (L2.CX X.prog X.w) X E0:=by
  rintro pins σ H s e s' I ⟨a,B,H',cls,d,h1,h2,h3,h4,h5,h6,h7,h8⟩
  exact h8.elim

section
variable {X : Cx} {k : Nat} {f : Addr} {fd : FuncData} {ps ks : List Str} {sp : Sp} {dvs : List V} {ds : List Value} {E : XK}
theorem FnG.at (F:FnG X.prog X.w X.K X.mg X.base k f fd ps sp) (hg:GOk X) (hr:Room k X.A)
    (hb:Binds X.K fd ps ds) (hd:Vals dvs ds) (hx:Passes (L2.CX X.prog X.w) X E):
    CallR X (.ref f) (fun vs H Q=>sp (vs++dvs) H Q E):=by
  intro pins s σ H vs us Q I rv h
  have r2:Vals (vs++dvs) (us++ds):=rv.append hd
  have hl:(us++ds).length=ps.length:=by rw[← r2.length];exact F.len _ _ _ _ h
  refine wpAny_call (codeAny_mono (F.run X.A X.stack s H ⟨us,[]⟩ (us++ds) (vs++dvs) Q E hg hr I.env0
    (hb s us I.kIn hl) r2 h) fun r s' hq=> ?_)
  match r,hq with
  | .error e,hq=>exact hx pins σ H s e s' I hq
  | .ok (.ret u),hq=>exact I.after hq
  | .ok .next,hq=>exact hq.elim
  | .ok .brk,hq=>exact hq.elim
  | .ok .cont,hq=>exact hq.elim

def CallKR (X:Cx) (f:Value) (ks:List Str) (r:List V→List V→Hp→VK→Prop):Prop:=
  ∀(pins:List (Addr×Obj)) (s:Shared) (σ:L2.St) (H:Hp) (xs zs:List V) (us ws:List Value) (Q:VK),
    Inv X pins σ H s→Vals xs us→Vals zs ws→r xs zs H Q→
    wpAny (model X.prog X.w) X.A (call f us (ks.zip ws)) (EP X pins σ Q) X.xe s
variable {x : Str} {p pos : Pos} {e : Expr} {es : List Expr} {kws : List Keyword} {t tk : TA}
    {r : List V → Hp → VK → Prop} {rk : List V → List V → Hp → VK → Prop}
def tCK (r:List V→List V→Hp→VK→Prop) (t tk:TA):TE:=
  fun σ H Q=>t σ H fun vs H1=>tk σ H1 fun zs H2=>r vs zs H2 Q
end

structure ShowsG (prog:Program) (w:World) (h₀:Heap) (a:Addr) (d:PyData) (T idr:String):Prop where
  slot:SlotG T "__repr__" idr
  ty: ∀s:Shared,(∀b o,h₀.get? b=some o→s.heap.get? b=some o)→s.TypeIs (.ref a) T
  run: ∀(A:Around) (gs:List Code) (E:Value→Shared→Prop) (s:Shared) (Q:Value→Shared→Prop),A.guards=some gs→(∀b o,h₀.get? b=some o→Clear gs b)→A.units+d.depth<cLine→
    (∀b o,h₀.get? b=some o→s.heap.get? b=some o)→
    (∀h' u tk,(∀b o,s.heap.get? b=some o→h'.get? b=some o)→Q (.str d.shown u) { s with heap:=h',toks:=tk })→wpAny (model prog w) A (call (.builtin idr) [.ref a]) Q E s
section
variable {prog : Program} {w : World} {h₀ : Heap} {a : Addr} {d : PyData} {as : List Addr}
end
section
variable {X : Cx}
end

def One (H:Hp):Prop:= ∃o a,H sysModules=some (.frz o (.own a))
section
variable {P : Program} {w : World} {K : PySem.W.Frag} {mg mb : Str → Option Value} {k : Nat} {fa a : Addr} {fd : FuncData}
  {x : Str} {sp : Sp} {s₁ : Shared} {vs : List Value} {ns : List Int}
structure Root (K:PySem.W.Frag) (P:Program) (w:World) (a:Addr) (ns:List Int) (s₁:Shared) (H:Hp):Prop where
  only: ∀b,H b=none∨ ∃o u,H b=some (.frz o u)
  list:SqL K H a (ns.map V.int)
  hok:HOk P w H s₁.heap
  two: ∀b,H b≠none→b=sysModules∨(b=a∧K.lookup a=none)
  one:One H
theorem root_of (KX:K.In s₁.heap) (k1:K.lookup sysModules=none) (ha1:a≠sysModules) (hs: ∃o,s₁.heap.get? sysModules=some o)
    (ha:s₁.heap.get? a=some { cls:= .type "list",data:= .seq vs.toArray })
    (hi:IntsAre vs ns) (hl:ns.length≤sizeLine): ∃H,Root K P w a ns s₁ H:=by
  have rv:=vals_ints hi
  have lv:=hi.length
  obtain⟨o1,e1⟩:=hs
  cases hk:K.lookup a with
  | some o=>
    have e:=(KX a o hk).symm.trans ha
    cases e
    refine⟨fun b=>if b=sysModules then some (.frz o1 (.own 0)) else none,?_,
      .inr ⟨_,vs.toArray,_,hk,rfl,rfl,rfl,by rw[List.size_toArray,lv];exact hl,by simpa using rv⟩,?_,?_,⟨o1,0,if_pos rfl⟩⟩
    · intro b
      by_cases hb:b=sysModules
      · exact .inr ⟨o1,_,if_pos hb⟩
      · exact .inl (if_neg hb)
    · intro b u z
      by_cases hb:b=sysModules
      · have z':=(if_pos hb).symm.trans z
        cases z'
        subst hb
        exact⟨e1,⟨o1,e1⟩⟩
      · have z':=(if_neg hb).symm.trans z
        cases z'
    · intro b z
      by_cases hb:b=sysModules
      · exact .inl hb
      · exact absurd (if_neg hb) z
  | none=>
    let so:Obj:= { cls:= .type "list",data:= .seq vs.toArray }
    refine⟨fun b=>if b=sysModules then some (.frz o1 (.own 0)) else if b=a then some (.frz so (.lst (ns.map V.int))) else none,
      ?_,.inl (.inr ⟨so,(if_neg ha1).trans (if_pos rfl)⟩),?_,?_,⟨o1,0,if_pos rfl⟩⟩
    · intro b
      by_cases hb:b=sysModules
      · exact .inr ⟨o1,_,if_pos hb⟩
      · by_cases hb2:b=a
        · exact .inr ⟨so,_,(if_neg hb).trans (if_pos hb2)⟩
        · exact .inl ((if_neg hb).trans (if_neg hb2))
    · intro b u z
      by_cases hb:b=sysModules
      · have z':=(if_pos hb).symm.trans z
        cases z'
        subst hb
        exact⟨e1,⟨o1,e1⟩⟩
      · by_cases hb2:b=a
        · have z':=((if_neg hb).trans (if_pos hb2)).symm.trans z
          cases z'
          subst hb2
          exact⟨ha,by rw[List.length_map];exact hl,vs,_,rv,ha⟩
        · have z':=((if_neg hb).trans (if_neg hb2)).symm.trans z
          cases z'
    · intro b z
      by_cases hb:b=sysModules
      · exact .inl hb
      · by_cases hb2:b=a
        · exact .inr ⟨hb2,hk⟩
        · exact absurd ((if_neg hb).trans (if_neg hb2)) z
theorem lawG (KX:K.In s₁.heap) (k1:K.lookup sysModules=none) (ha1:a≠sysModules) (hs: ∃o,s₁.heap.get? sysModules=some o)
    (hns:s₁.heap.Ns mainGlobals mg) (hb:s₁.heap.Ns builtinsNs mb)
    (hbb: ∀x:Str,x≠ "__name__" →mb x=bootBuiltins x) (hlim:s₁.heap.NoLimit) (hg:s₁.gens= #[])
    (ha:s₁.heap.get? a=some { cls:= .type "list",data:= .seq vs.toArray }) (hi:IntsAre vs ns)
    (hl:ns.length≤sizeLine) (hr:Room k callerA)
    (F: ∀base:Heap,K.In base→base.Ns mainGlobals mg→FnG P w K mg base k fa fd [x] sp)
    (hbind: ∀(s:Shared) (u:Value),BindsTo s fd ⟨[u],[]⟩ [(x,u)])
    (hsp: ∀H:Hp,One H→SqL K H a (ns.map V.int)→sp [.ref a] H (fun v _=>v= .bl true) E0):
    codeAny (model P w) callerA (.call (.ref fa) ⟨[.ref a],[]⟩)
      (fun r s'=>r= .ok (.ret (.bool true))∧OldK s₁.heap s'.heap∧s'.os=s₁.os∧AllBare s'.gens) s₁:=by
  obtain⟨H,R⟩:=root_of (P:=P) (w:=w) KX k1 ha1 hs ha hi hl
  have gone: ∀ {b:Addr} {o:Obj},s₁.heap.get? b=some o→b≠sysModules→
      (b=a→K.lookup a=some o∨ ∃es ep,o.data= .dict es ep)→H b=none:=by
    intro b o e hs h
    cases q:H b with
    | none=>rfl
    | some u=>
      rcases R.two b (by rw[q];simp) with z | ⟨eb,kn⟩
      · exact absurd z hs
      rcases h eb with z | ⟨es,ep,z⟩
      · rw[kn] at z
        cases z
      · subst eb
        rw[ha] at e
        cases e
        cases z
  have nsK: ∀ {b:Addr} {m:Str→Option Value},b≠sysModules→s₁.heap.Ns b m→(hidT s₁.heap H).Ns b m:=by
    rintro b m hs ⟨o,es,ep,e,d,r⟩
    exact⟨o,es,ep,hidT_get e (gone e hs fun _=> .inr ⟨es,ep,d⟩),d,r⟩
  have kb:K.In (hidT s₁.heap H):=fun b o e=>
    hidT_get (KX b o e) (gone (KX b o e) (fun z=>by rw[z,k1] at e;cases e) fun q=> .inl (q ▸ e))
  obtain⟨mc,l1,l2⟩:=hlim
  have M:Mod K mg (hidT s₁.heap H):=
    ⟨kb,nsK (by decide) hns,⟨mb,nsK (by decide) hb,hbb⟩,⟨mc,nsK (by decide) l1,l2⟩⟩
  have nofr: ∀b∈frs ([]:List Env),H b=none:=by
    intro b hb
    cases (show b∈([]:List Addr) from hb)
  have e0:Env0 P w K mg (hidT s₁.heap H) callerA [] s₁ H:=
    ⟨rfl,M,fun b o e=>of_hidT e,Nat.le_of_eq (hidT_size _ _),trivial,nofr,R.hok,.of_eq hg⟩
  refine codeAny_mono ((F _ kb (nsK (by decide) hns)).run callerA [] s₁ H ⟨[.ref a],[]⟩ [.ref a] [.ref a] _ _ (.nil rfl) hr e0
    (hbind s₁ (.ref a)) (.cons rfl .nil) (hsp H R.one R.list)) fun r s' h=> ?_
  match r,h with
  | .error e,h=>
    obtain⟨_,_,_,_,_,_,_,_,_,_,_,_,z⟩:=h
    exact z.elim
  | .ok .next,h=>exact h.elim
  | .ok .brk,h=>exact h.elim
  | .ok .cont,h=>exact h.elim
  | .ok (.ret u),h=>
    obtain⟨v,H',os,bare,un,hok',r',q⟩:=h
    obtain rfl:v= .bl true:=q
    obtain rfl:u=Value.bool true:=r'
    refine⟨rfl,OldK.of_keep fun b o e=> ?_,os,bare⟩
    rcases R.only b with z | ⟨ob,xs,z⟩
    · exact un.keep b o e z (fun hb=>by cases (show b∈([]:List Addr) from hb)) (by simp)
    · obtain⟨e1,_⟩:=R.hok b _ z
      obtain⟨e2,_⟩:=hok' b _ (un.frzs b ob _ z)
      rw[e] at e1
      cases e1
      exact e2
end
theorem script_at {r:PySem.W.WRecords} {cl:Str→Option Addr} {h:Heap} {a:Addr} {d:List PySem.W.WData} {as:List Addr}
    (x:PySem.W.ReadsAllW r cl h [Value.ref a] [PySem.W.WData.list d] as):a∈as:=by
  cases x with
  | cons r1 r2=>
    cases r1 with
    | list=>exact List.mem_append_left _ List.mem_cons_self
theorem walkG {l:PySem.W.OpenLaw} {n k:Nat} {q:Program} {loose:List Str} {XP:(Str→Option Value)→Heap→Prop}
    {YP:World→Heap→Prop} {d:DefRec} {K:Params→PySem.W.Frag} {sp:World→Sp} {x:Str}
    (hn:l.most=some n) (hn2:n≤sizeLine) (hdf:d.params.defaults= []) (hr:Room k callerA)
    (hY: ∀(w:World) (h:Heap),YP w h→(K w.params).In h)
    (hK: ∀w:World,(K w.params).lookup sysModules=none) (him:importsNone q=true)
    (F: ∀(w:World) (mg:Str→Option Value) (fa:Addr) (h:Heap),(K w.params).In h→h.Ns mainGlobals mg→
      mg d.name=some (.ref fa)→ ∃fd:FuncData,(∀(s:Shared) (u:Value),BindsTo s fd ⟨[u],[]⟩ [(x,u)])∧
        ∀base:Heap,(K w.params).In base→base.Ns mainGlobals mg→FnG l.prog w (K w.params) mg base k fa fd [x] (sp w))
    (hsp: ∀(w:World) (H:Hp) (a:Addr) (ns:List Int),ns.length≤n→(∀z∈ns,Builtin.Int.intBits z≤1048576)→
      One H→SqL (K w.params) H a (ns.map V.int)→sp w [.ref a] H (fun v _=>v= .bl true) E0):
    PySem.W.WalkO q loose XP YP l.row.toRowW d [] (fun f vs=>PySem.call f vs):=by
  intro w s₀ s₁ mg mb G Y fa o pm cd doc dV kV ho hd hcd hD hmg hg args vals as hpre hlay hrd hwl hlo
  obtain rfl:dV= .none:=PySem.W.Dflts.none hD hdf
  obtain rfl:kV= .none:=PySem.W.Dflts.noKw hD
  obtain⟨a,vs,ns,rfl,rfl,hobj,hints,hlen⟩:=Att.script_of hn hpre hwl
  obtain⟨fd,hb,hF⟩:=F w mg fa _ (hY w _ Y) G.T.g hmg
  have key:=lawG (hY w _ Y) (hK w) (fun z=>by have:=hlo a (script_at hrd);rw[z] at this;cases this)
    (let ⟨_,⟨o,_,_,e,_⟩,_⟩:=(G.T.seer him).mods;⟨o,e⟩) G.T.g G.T.b G.T.builtins G.T.nolimit hg hobj hints
    (Nat.le_trans hlen hn2) hr hF hb fun H h1 hS=>hsp w H a ns hlen (Att.script_bits hlay) h1 hS
  refine PySem.W.enter_call (codeAny_mono key fun r s' hq=> ?_)
  obtain⟨rfl,h2,h3,h4⟩:=hq
  exact⟨.inl ⟨.bool true,.bool true,[],rfl,fun _=>rfl,.bool true,Att.post_true l _,
    fun _=>⟨List.Pairwise.nil,fun _ hm=>(nomatch hm)⟩⟩,h2,h3,h4⟩
end PC

set_option Elab.async false
set_option linter.all false
set_option maxRecDepth 100000
set_option maxHeartbeats 2000000
namespace PC
open PySem PySem.Spec PyProof.Rows L2

def Pot (p:Addr) (H:Hp):Prop:= ∃a b:Int,H p=some (.lst [.int a,.int b])∧0≤a∧0≤b∧b<2147483647
structure R (p:Addr) (H H':Hp):Prop where
  keep: ∀b o,b≠p→H b=some o→H' b=some o
  frz: ∀b o u,H b=some (.frz o u)→H' b=some (.frz o u)
  occ:H p≠none→H' p≠none
  pot:Pot p H→Pot p H'
  stay: ∀b o,(∀xs,o≠ .lst xs)→(∀kvs,o≠ .dK kvs)→H b=some o→H' b=some o
theorem R.refl (p:Addr) (H:Hp):R p H H:=⟨fun _ _ _ h=>h,fun _ _ _ h=>h,fun h=>h,fun h=>h,fun _ _ _ _ h=>h⟩
theorem R.trans {p:Addr} {H H1 H2:Hp} (a:R p H H1) (b:R p H1 H2):R p H H2:=
  ⟨fun c o n h=>b.keep c o n (a.keep c o n h),fun c o u h=>b.frz c o u (a.frz c o u h),fun h=>b.occ (a.occ h),fun h=>b.pot (a.pot h),
   fun c o n m h=>b.stay c o n m (a.stay c o n m h)⟩
theorem R.of_same {p:Addr} {H H':Hp} (h:Same H H'):R p H H':=
  ⟨fun b o _ e=>h b o e,fun b o u e=>h b _ e,fun z w=>z (h.free w),fun⟨a,b,e,r⟩=>⟨a,b,h _ _ e,r⟩,fun b o _ _ e=>h b o e⟩
theorem same_new {n:Addr} {H:Hp} {o:HO} (h:H n=none):Same H (upd H n o):=fun b u e=>by
  rw[upd_ne (ne_of_none e h)];exact e
theorem R.new {p n:Addr} {H:Hp} {o:HO} (h:H n=none):R p H (upd H n o):= .of_same (same_new h)
theorem R.draw {p:Addr} {H:Hp} {a b:Int} {l:List V} (h:H p=some (.lst l)) (ho: ∀x u,(HO.lst l)≠ .frz x u) (ha:0≤a) (hb:0≤b) (hb2:b<2147483647):
    R p H (upd H p (.lst [.int a,.int b])):=by
  have far: ∀c u,(∀xs,u≠ .lst xs)→H c=some u→upd H p (.lst [.int a,.int b]) c=some u:=fun c u n e=>by
    by_cases z:c=p
    · subst z
      rw[h] at e
      exact absurd (Option.some.inj e).symm (n l)
    · rw[upd_ne z]
      exact e
  exact⟨fun c u n e=>(by rw[upd_ne n];exact e),fun c x u e=>far c _ (fun xs z=>nomatch z) e,
    fun _=>(by rw[upd_same];exact fun w=>nomatch w),fun _=>⟨a,b,upd_same,ha,hb,hb2⟩,fun c u n _=>far c u n⟩
theorem R.over {p D:Addr} {H H':Hp} {o:HO} (r:R p H H') (hD:H D=none) (hp:D≠p):R p H (upd H' D o):=
  ⟨fun b u n e=>by rw[upd_ne (ne_of_none e hD)];exact r.keep b u n e,fun b x u e=>by rw[upd_ne (ne_of_none e hD)];exact r.frz b x u e,
   fun z=>by rw[upd_ne hp.symm];exact r.occ z,fun z=>by
    obtain⟨a,b,e,q⟩:=r.pot z
    exact⟨a,b,by rw[upd_ne hp.symm];exact e,q⟩,fun b u n m e=>by rw[upd_ne (ne_of_none e hD)];exact r.stay b u n m e⟩
theorem R.one {p:Addr} {H H':Hp} (r:R p H H') (h:One H):One H':=by
  obtain⟨o,u,e⟩:=h
  exact⟨o,u,r.frz _ _ _ e⟩
theorem R.free {p a:Addr} {H H':Hp} (r:R p H H') (n:a≠p) (h:H' a=none):H a=none:=by
  cases e:H a with
  | none=>rfl
  | some o=>rw[r.keep a o n e] at h;cases h
def keyD:Key→PyData
  | .inl i=> .int i
  | .inr x=> .str x
mutual
/-- v shows the data d; none of its own objects stands at a place of Z -/
def Dat (K:PySem.W.Frag) (Z:List Addr) (H:Hp):PyData→V→Prop
  | .none,v=>v= .non
  | .bool b,v=>v= .bl b
  | .int i,v=>v= .int i
  | .str x,v=>v= .str x
  | .list ds,v=> ∃a xs,v= .ref a∧a ∉ Z∧Rd H a (.lst xs)∧DatL K Z H ds xs
  | .tuple ds,v=> ∃a xs,v= .ref a∧(a ∉ Z∨SqT K (fun _=>none) a xs)∧SqT K H a xs∧DatL K Z H ds xs
  | .dict kvs,v=> ∃a es,v= .ref a∧a ∉ Z∧H a=some (.dK es)∧DatK K Z H kvs es
def DatL (K:PySem.W.Frag) (Z:List Addr) (H:Hp):List PyData→List V→Prop
  | [],vs=>vs= []
  | d::ds,vs=> ∃v r,vs=v::r∧Dat K Z H d v∧DatL K Z H ds r
def DatK (K:PySem.W.Frag) (Z:List Addr) (H:Hp):List (PyData×PyData)→List (Key×V)→Prop
  | [],es=>es= []
  | (k,d)::r,es=> ∃kk v t,es=(kk,v)::t∧keyD kk=k∧Dat K Z H d v∧DatK K Z H r t
end
section
variable {K : PySem.W.Frag} {p : Addr} {Z Z' : List Addr} {H H' : Hp}
theorem _root_.L2.Rd.up {a:Addr} {u:HO} (r:R p H H') (n:a≠p) (h:Rd H a u):Rd H' a u:=by
  rcases h with h | ⟨o,h⟩
  · exact .inl (r.keep _ _ n h)
  · exact .inr ⟨o,r.frz _ _ _ h⟩
theorem SqL.up {a:Addr} {xs:List V} (r:R p H H') (n:a≠p) (h:SqL K H a xs):SqL K H' a xs:=by
  rcases h with h | h
  · exact .inl (Rd.up r n h)
  · exact .inr h
theorem SqT.up {a:Addr} {xs:List V} (r:R p H H') (hp:p∈Z) (n:a ∉ Z∨SqT K (fun _=>none) a xs) (h:SqT K H a xs):SqT K H' a xs:=by
  rcases h with h | h
  · rcases n with n | n
    · exact .inl (Rd.up r (fun z=>n (z ▸ hp)) h)
    · rcases n with (n | ⟨o,n⟩) | n
      · cases n
      · cases n
      · exact .inr n
  · exact .inr h
mutual
theorem Dat.up (r:R p H H') (hp:p∈Z): ∀(d:PyData) (v:V),Dat K Z H d v→Dat K Z H' d v
  | .none,v,h=>h
  | .bool _,v,h=>h
  | .int _,v,h=>h
  | .str _,v,h=>h
  | .list ds,v,h=>by
    simp only[Dat] at h ⊢
    obtain⟨a,xs,e,n,s,l⟩:=h
    exact⟨a,xs,e,n,s.up r (fun z=>n (z ▸ hp)),DatL.up r hp ds xs l⟩
  | .tuple ds,v,h=>by
    simp only[Dat] at h ⊢
    obtain⟨a,xs,e,n,s,l⟩:=h
    exact⟨a,xs,e,n,SqT.up r hp n s,DatL.up r hp ds xs l⟩
  | .dict kvs,v,h=>by
    simp only[Dat] at h ⊢
    obtain⟨a,es,e,n,s,l⟩:=h
    exact⟨a,es,e,n,r.keep _ _ (fun z=>n (z ▸ hp)) s,DatK.up r hp kvs es l⟩
theorem DatL.up (r:R p H H') (hp:p∈Z): ∀(ds:List PyData) (vs:List V),DatL K Z H ds vs→DatL K Z H' ds vs
  | [],vs,h=>h
  | d::ds,vs,h=>by
    simp only[DatL] at h ⊢
    obtain⟨v,q,e,h1,h2⟩:=h
    exact⟨v,q,e,Dat.up r hp d v h1,DatL.up r hp ds q h2⟩
theorem DatK.up (r:R p H H') (hp:p∈Z): ∀(ds:List (PyData×PyData)) (es:List (Key×V)),DatK K Z H ds es→DatK K Z H' ds es
  | [],vs,h=>h
  | (k,d)::ds,vs,h=>by
    simp only[DatK] at h ⊢
    obtain⟨kk,v,q,e,hk,h1,h2⟩:=h
    exact⟨kk,v,q,e,hk,Dat.up r hp d v h1,DatK.up r hp ds q h2⟩
end
mutual
/-- one place more -/
theorem Dat.more {D:Addr} (hD:H D=none): ∀(d:PyData) (v:V),Dat K Z H d v→Dat K (D::Z) H d v
  | .none,v,h=>h
  | .bool _,v,h=>h
  | .int _,v,h=>h
  | .str _,v,h=>h
  | .list ds,v,h=>by
    simp only[Dat] at h ⊢
    obtain⟨a,xs,e,n,s,l⟩:=h
    refine⟨a,xs,e,fun z=> ?_,s,DatL.more hD ds xs l⟩
    rcases List.mem_cons.mp z with z | z
    · subst z
      rcases s with s | ⟨o,s⟩ <;> (rw[hD] at s;cases s)
    · exact n z
  | .tuple ds,v,h=>by
    simp only[Dat] at h ⊢
    obtain⟨a,xs,e,n,s,l⟩:=h
    refine⟨a,xs,e,?_,s,DatL.more hD ds xs l⟩
    by_cases z:a=D
    · subst z
      rcases s with (s | ⟨o,s⟩) | s
      · rw[hD] at s;cases s
      · rw[hD] at s;cases s
      · exact .inr (.inr s)
    · rcases n with n | n
      · exact .inl fun q=>(List.mem_cons.mp q).elim z n
      · exact .inr n
  | .dict kvs,v,h=>by
    simp only[Dat] at h ⊢
    obtain⟨a,es,e,n,s,l⟩:=h
    refine⟨a,es,e,fun z=> ?_,s,DatK.more hD kvs es l⟩
    rcases List.mem_cons.mp z with z | z
    · subst z
      rw[hD] at s;cases s
    · exact n z
theorem DatL.more {D:Addr} (hD:H D=none): ∀(ds:List PyData) (vs:List V),DatL K Z H ds vs→DatL K (D::Z) H ds vs
  | [],vs,h=>h
  | d::ds,vs,h=>by
    simp only[DatL] at h ⊢
    obtain⟨v,q,e,h1,h2⟩:=h
    exact⟨v,q,e,Dat.more hD d v h1,DatL.more hD ds q h2⟩
theorem DatK.more {D:Addr} (hD:H D=none): ∀(ds:List (PyData×PyData)) (es:List (Key×V)),DatK K Z H ds es→DatK K (D::Z) H ds es
  | [],vs,h=>h
  | (k,d)::ds,vs,h=>by
    simp only[DatK] at h ⊢
    obtain⟨kk,v,q,e,hk,h1,h2⟩:=h
    exact⟨kk,v,q,e,hk,Dat.more hD d v h1,DatK.more hD ds q h2⟩
end
mutual
/-- fewer places -/
theorem Dat.less (hz: ∀a,a∈Z'→a∈Z): ∀(d:PyData) (v:V),Dat K Z H d v→Dat K Z' H d v
  | .none,v,h=>h
  | .bool _,v,h=>h
  | .int _,v,h=>h
  | .str _,v,h=>h
  | .list ds,v,h=>by
    simp only[Dat] at h ⊢
    obtain⟨a,xs,e,n,s,l⟩:=h
    exact⟨a,xs,e,fun z=>n (hz _ z),s,DatL.less hz ds xs l⟩
  | .tuple ds,v,h=>by
    simp only[Dat] at h ⊢
    obtain⟨a,xs,e,n,s,l⟩:=h
    exact⟨a,xs,e,n.imp (fun n z=>n (hz _ z)) id,s,DatL.less hz ds xs l⟩
  | .dict kvs,v,h=>by
    simp only[Dat] at h ⊢
    obtain⟨a,es,e,n,s,l⟩:=h
    exact⟨a,es,e,fun z=>n (hz _ z),s,DatK.less hz kvs es l⟩
theorem DatL.less (hz: ∀a,a∈Z'→a∈Z): ∀(ds:List PyData) (vs:List V),DatL K Z H ds vs→DatL K Z' H ds vs
  | [],vs,h=>h
  | d::ds,vs,h=>by
    simp only[DatL] at h ⊢
    obtain⟨v,q,e,h1,h2⟩:=h
    exact⟨v,q,e,Dat.less hz d v h1,DatL.less hz ds q h2⟩
theorem DatK.less (hz: ∀a,a∈Z'→a∈Z): ∀(ds:List (PyData×PyData)) (es:List (Key×V)),DatK K Z H ds es→DatK K Z' H ds es
  | [],vs,h=>h
  | (k,d)::ds,vs,h=>by
    simp only[DatK] at h ⊢
    obtain⟨kk,v,q,e,hk,h1,h2⟩:=h
    exact⟨kk,v,q,e,hk,Dat.less hz d v h1,DatK.less hz ds q h2⟩
end
mutual
/-- a place that is no data's, changed -/
theorem Dat.put {D:Addr} {o:HO} (hd:D∈Z): ∀(d:PyData) (v:V),Dat K Z H d v→Dat K Z (upd H D o) d v
  | .none,v,h=>h
  | .bool _,v,h=>h
  | .int _,v,h=>h
  | .str _,v,h=>h
  | .list ds,v,h=>by
    simp only[Dat] at h ⊢
    obtain⟨a,xs,e,n,s,l⟩:=h
    have nz:a≠D:=fun z=>n (z ▸ hd)
    refine⟨a,xs,e,n,?_,DatL.put hd ds xs l⟩
    rcases s with s | ⟨u,s⟩
    · exact .inl (by rw[upd_ne nz];exact s)
    · exact .inr ⟨u,by rw[upd_ne nz];exact s⟩
  | .tuple ds,v,h=>by
    simp only[Dat] at h ⊢
    obtain⟨a,xs,e,n,s,l⟩:=h
    refine⟨a,xs,e,n,?_,DatL.put hd ds xs l⟩
    rcases n with n | ((n | ⟨u,n⟩) | n)
    · have nz:a≠D:=fun z=>n (z ▸ hd)
      rcases s with (s | ⟨u,s⟩) | s
      · exact .inl (.inl (by rw[upd_ne nz];exact s))
      · exact .inl (.inr ⟨u,by rw[upd_ne nz];exact s⟩)
      · exact .inr s
    · cases n
    · cases n
    · exact .inr n
  | .dict kvs,v,h=>by
    simp only[Dat] at h ⊢
    obtain⟨a,es,e,n,s,l⟩:=h
    have nz:a≠D:=fun z=>n (z ▸ hd)
    exact⟨a,es,e,n,by rw[upd_ne nz];exact s,DatK.put hd kvs es l⟩
theorem DatL.put {D:Addr} {o:HO} (hd:D∈Z): ∀(ds:List PyData) (vs:List V),DatL K Z H ds vs→DatL K Z (upd H D o) ds vs
  | [],vs,h=>h
  | d::ds,vs,h=>by
    simp only[DatL] at h ⊢
    obtain⟨v,q,e,h1,h2⟩:=h
    exact⟨v,q,e,Dat.put hd d v h1,DatL.put hd ds q h2⟩
theorem DatK.put {D:Addr} {o:HO} (hd:D∈Z): ∀(ds:List (PyData×PyData)) (es:List (Key×V)),DatK K Z H ds es→DatK K Z (upd H D o) ds es
  | [],vs,h=>h
  | (k,d)::ds,vs,h=>by
    simp only[DatK] at h ⊢
    obtain⟨kk,v,q,e,hk,h1,h2⟩:=h
    exact⟨kk,v,q,e,hk,Dat.put hd d v h1,DatK.put hd ds q h2⟩
end
theorem Dat.lst {v:V} {ds:List PyData} (h:Dat K Z H (.list ds) v): ∃a xs,v= .ref a∧a ∉ Z∧Rd H a (.lst xs)∧DatL K Z H ds xs:=by
  simpa only[Dat] using h
theorem Dat.tup {v:V} {ds:List PyData} (h:Dat K Z H (.tuple ds) v): ∃a xs,v= .ref a∧(a ∉ Z∨SqT K (fun _=>none) a xs)∧SqT K H a xs∧DatL K Z H ds xs:=by
  simpa only[Dat] using h
theorem Dat.dct {v:V} {ds:List (PyData×PyData)} (h:Dat K Z H (.dict ds) v): ∃a es,v= .ref a∧a ∉ Z∧H a=some (.dK es)∧DatK K Z H ds es:=by
  simpa only[Dat] using h
theorem DatL.cons_inv {d:PyData} {ds:List PyData} {vs:List V} (h:DatL K Z H (d::ds) vs): ∃v r,vs=v::r∧Dat K Z H d v∧DatL K Z H ds r:=by
  simpa only[DatL] using h
theorem DatL.nil_inv {vs:List V} (h:DatL K Z H [] vs):vs= []:=by simpa only[DatL] using h
theorem datL_nil:DatL K Z H [] []:=by simp only[DatL]
theorem datL_cons {d:PyData} {ds:List PyData} {v:V} {vs:List V} (h:Dat K Z H d v) (l:DatL K Z H ds vs):DatL K Z H (d::ds) (v::vs):=by
  simp only[DatL];exact⟨v,vs,rfl,h,l⟩
theorem DatL.length: ∀ {ds:List PyData} {vs:List V},DatL K Z H ds vs→vs.length=ds.length
  | [],vs,h=>by rw[h.nil_inv];rfl
  | d::ds,vs,h=>by
    obtain⟨v,q,e,h1,h2⟩:=h.cons_inv
    rw[e,List.length_cons,List.length_cons,DatL.length h2]
theorem DatL.get: ∀ {ds:List PyData} {vs:List V} {i:Nat} {d:PyData},DatL K Z H ds vs→ds[i]?=some d→ ∃v,vs[i]?=some v∧Dat K Z H d v
  | [],_,_,_,_,e=>by simp at e
  | d::ds,vs,i,x,h,e=>by
    obtain⟨v,q,rfl,h1,h2⟩:=h.cons_inv
    cases i with
    | zero=>simp at e;subst e;exact⟨v,rfl,h1⟩
    | succ i=>exact DatL.get (i:=i) h2 (by simpa using e)
theorem DatL.append: ∀ {ds es:List PyData} {vs ws:List V},DatL K Z H ds vs→DatL K Z H es ws→DatL K Z H (ds++es) (vs++ws)
  | [],es,vs,ws,h,g=>by
    have e:=h.nil_inv
    subst e;exact g
  | d::ds,es,vs,ws,h,g=>by
    obtain⟨v,q,rfl,h1,h2⟩:=h.cons_inv
    exact datL_cons h1 (DatL.append h2 g)
theorem DatL.drop: ∀ {ds:List PyData} {vs:List V} (n:Nat),DatL K Z H ds vs→DatL K Z H (ds.drop n) (vs.drop n)
  | _,_,0,h=>h
  | [],vs,n+1,h=>by
    have e:=h.nil_inv
    subst e;exact datL_nil
  | d::ds,vs,n+1,h=>by
    obtain⟨v,q,rfl,h1,h2⟩:=h.cons_inv
    exact DatL.drop n h2
theorem DatL.take: ∀ {ds:List PyData} {vs:List V} (n:Nat),DatL K Z H ds vs→DatL K Z H (ds.take n) (vs.take n)
  | _,_,0,h=>by rw[List.take_zero,List.take_zero];exact datL_nil
  | [],vs,n+1,h=>by
    have e:=h.nil_inv
    subst e;exact datL_nil
  | d::ds,vs,n+1,h=>by
    obtain⟨v,q,rfl,h1,h2⟩:=h.cons_inv
    exact datL_cons h1 (DatL.take n h2)
theorem DatL.ints: ∀ {ns:List Int} {vs:List V},DatL K Z H (ns.map .int) vs→vs=ns.map .int
  | [],vs,h=>h.nil_inv
  | n::ns,vs,h=>by
    obtain⟨v,q,rfl,h1,h2⟩:=DatL.cons_inv (d:= .int n) (ds:=ns.map .int) h
    simp only[Dat] at h1
    rw[h1,DatL.ints h2];rfl
theorem DatL.bls: ∀ {ns:List Bool} {vs:List V},DatL K Z H (ns.map .bool) vs→vs=ns.map .bl
  | [],vs,h=>h.nil_inv
  | n::ns,vs,h=>by
    obtain⟨v,q,rfl,h1,h2⟩:=DatL.cons_inv (d:= .bool n) (ds:=ns.map .bool) h
    simp only[Dat] at h1
    rw[h1,DatL.bls h2];rfl
theorem DatL.strs: ∀ {ns:List Str} {vs:List V},DatL K Z H (ns.map .str) vs→vs=ns.map .str
  | [],vs,h=>h.nil_inv
  | n::ns,vs,h=>by
    obtain⟨v,q,rfl,h1,h2⟩:=DatL.cons_inv (d:= .str n) (ds:=ns.map .str) h
    simp only[Dat] at h1
    rw[h1,DatL.strs h2];rfl
end

section
variable {X : Cx} {pins : List (Addr × Obj)} {σ : L2.St} {H : Hp} {s : Shared} {Z : List Addr}
theorem keyD_reads {k:Key} {u:Value} {h:Heap} (e:keyIs k u=true):Reads h u (keyD k) []:=by
  rcases keyIs_shape e with ⟨i,t,rfl,rfl⟩ | ⟨x,t,rfl,rfl⟩
  · exact .int i t
  · exact .str x t
theorem notSys {a:Addr} {xs:List V} (I:Inv X pins σ H s) (o1:One H) (h:SqL X.K H a xs):a≠sysModules:=by
  obtain⟨o,u,e⟩:=o1
  intro z
  subst z
  rcases h with (h | ⟨o',h⟩) | ⟨o',_,_,h,_⟩
  · rw[e] at h;cases h
  · rw[e] at h;cases h
  · have q:=(I.bs _ _ (I.mod.kin _ _ h)).2
    rw[e] at q;cases q
theorem sqL_tr {a:Addr} {xs:List V} (h:SqL X.K H a xs):H a≠none∨X.K.lookup a≠none:=by
  rcases h with (h | ⟨_,h⟩) | ⟨_,_,_,h,_⟩
  · exact .inl (by rw[h];exact fun z=>nomatch z)
  · exact .inl (by rw[h];exact fun z=>nomatch z)
  · exact .inr (by rw[h];exact fun z=>nomatch z)
theorem sqT_tr {a:Addr} {xs:List V} (h:SqT X.K H a xs):H a≠none∨X.K.lookup a≠none:=by
  rcases h with (h | ⟨_,h⟩) | ⟨_,_,_,h,_⟩
  · exact .inl (by rw[h];exact fun z=>nomatch z)
  · exact .inl (by rw[h];exact fun z=>nomatch z)
  · exact .inr (by rw[h];exact fun z=>nomatch z)
mutual
theorem Dat.readsIn (I:Inv X pins σ H s) (o1:One H) {hp:Heap} (hk: ∀b o,s.heap.get? b=some o→(H b≠none∨X.K.lookup b≠none)→hp.get? b=some o): ∀(d:PyData) (v:V) (u:Value),Dat X.K Z H d v→RelV v u→
    ∃as,Reads hp u d as∧sysModules ∉ as
  | .none,_,_,h,r=>by
    simp only[Dat] at h
    subst h
    cases (show _=Value.none from r)
    exact⟨_,.none,by simp⟩
  | .bool b,_,_,h,r=>by
    simp only[Dat] at h
    subst h
    cases (show _=Value.bool b from r)
    exact⟨_,.bool b,by simp⟩
  | .int i,_,_,h,r=>by
    simp only[Dat] at h
    subst h
    obtain⟨t,rfl⟩:=(show ∃t,_=Value.int i t from r)
    exact⟨_,.int i t,by simp⟩
  | .str x,_,_,h,r=>by
    simp only[Dat] at h
    subst h
    obtain⟨t,rfl⟩:=(show ∃t,_=Value.str x t from r)
    exact⟨_,.str x t,by simp⟩
  | .list ds,_,_,h,r=>by
    obtain⟨a,xs,rfl,n,hs,hl⟩:=h.lst
    cases (show _=Value.ref a from r)
    obtain⟨its,rv,⟨o,k,ho,hc,_,hd⟩,_⟩:=I.list (.inl hs)
    obtain⟨as,hr,ns⟩:=DatL.readsIn I o1 hk ds xs its hl rv
    refine⟨_,.list (hk _ _ ho (sqL_tr (.inl hs))) hc hd hr,fun z=> ?_⟩
    rcases List.mem_cons.mp z with z | z
    · exact notSys I o1 (.inl hs) z.symm
    · exact ns z
  | .tuple ds,_,_,h,r=>by
    obtain⟨a,xs,rfl,n,hs,hl⟩:=h.tup
    cases (show _=Value.ref a from r)
    obtain⟨its,rv,⟨o,ho,hc,k,hd⟩,_⟩:=I.tuple hs
    obtain⟨as,hr,ns⟩:=DatL.readsIn I o1 hk ds xs its hl rv
    exact⟨_,.tuple (hk _ _ ho (sqT_tr hs)) hc hd hr,ns⟩
  | .dict kvs,_,_,h,r=>by
    obtain⟨a,es,rfl,n,hs,hl⟩:=h.dct
    cases (show _=Value.ref a from r)
    obtain⟨_,hsys,vs,rel,o,en,ep,ho,hx,hd,_,hp,_⟩:=(show ObjOk X.prog X.w H s.heap a (.dK es) from I.hok a _ hs)
    obtain⟨as,bs,r1,r2,n1,n2⟩:=DatK.readsIn I o1 hk kvs es vs en.toList hl rel hp
    refine⟨_,.dict (hk _ _ ho (.inl (by rw[hs];exact fun z=>nomatch z))) hx.1 hd r1 r2,fun z=> ?_⟩
    rcases List.mem_append.mp z with z | z
    · rcases List.mem_cons.mp z with z | z
      · rw[← z] at hsys;simp at hsys
      · exact n1 z
    · exact n2 z
theorem DatL.readsIn (I:Inv X pins σ H s) (o1:One H) {hp:Heap} (hk: ∀b o,s.heap.get? b=some o→(H b≠none∨X.K.lookup b≠none)→hp.get? b=some o): ∀(ds:List PyData) (vs:List V) (us:List Value),DatL X.K Z H ds vs→Vals vs us→
    ∃as,ReadsAll hp us ds as∧sysModules ∉ as
  | [],vs,us,h,r=>by
    simp only[DatL] at h
    subst h
    cases r
    exact⟨_,.nil,by simp⟩
  | d::ds,vs,us,h,r=>by
    simp only[DatL] at h
    obtain⟨v,q,rfl,h1,h2⟩:=h
    cases r with
    | cons r1 r2=>
      obtain⟨as,q1,n1⟩:=Dat.readsIn I o1 hk d v _ h1 r1
      obtain⟨bs,q2,n2⟩:=DatL.readsIn I o1 hk ds q _ h2 r2
      exact⟨_,.cons q1 q2,fun z=>(List.mem_append.mp z).elim n1 n2⟩
theorem DatK.readsIn (I:Inv X pins σ H s) (o1:One H) {hp:Heap} (hk: ∀b o,s.heap.get? b=some o→(H b≠none∨X.K.lookup b≠none)→hp.get? b=some o): ∀(ds:List (PyData×PyData)) (es:List (Key×V)) (vs:List (Key×Value)) (en:List DictEntry),
    DatK X.K Z H ds es→KV es vs→Pairs (mixKind X.prog X.w) en vs→
    ∃as bs,ReadsAll hp (en.map (·.key)) (ds.map (·.1)) as∧ReadsAll hp (en.map (·.val)) (ds.map (·.2)) bs∧sysModules ∉ as∧sysModules ∉ bs
  | [],es,vs,en,h,r,pr=>by
    simp only[DatK] at h
    subst h
    cases r
    cases pr
    exact⟨_,_,.nil,.nil,by simp,by simp⟩
  | (k,d)::ds,es,vs,en,h,r,pr=>by
    simp only[DatK] at h
    obtain⟨kk,v,q,rfl,hkk,h1,h2⟩:=h
    cases r with
    | cons r1 r2=>
      obtain⟨e1,e2⟩:=r1
      cases pr with
      | cons p1 p2 p3=>
        obtain⟨as,q1,n1⟩:=Dat.readsIn I o1 hk d v _ h1 e2
        obtain⟨bs,cs,q2,q3,n2,n3⟩:=DatK.readsIn I o1 hk ds q _ _ h2 r2 p3
        have kr:Reads hp _ (keyD _) []:=keyD_reads (h:=hp) p1
        rw[show keyD _=k from (congrArg keyD e1.symm).trans hkk] at kr
        rw[← p2] at q1
        exact⟨_,_,.cons kr q2,.cons q1 q3,fun z=>n2 (by simpa using z),fun z=>(List.mem_append.mp z).elim n1 n3⟩
end
theorem Dat.reads (I:Inv X pins σ H s) (o1:One H) (d:PyData) (v:V) (u:Value) (h:Dat X.K Z H d v) (r:RelV v u): ∃as,Reads s.heap u d as∧sysModules ∉ as:=Dat.readsIn I o1 (fun _ _ e _=>e) d v u h r
end

mutual
/-- its texts are made of code points -/
def lay:PyData→Bool
  | .none=>true
  | .bool _=>true
  | .int _=>true
  | .str x=>PyData.strOk x
  | .list xs=>layL xs
  | .tuple xs=>layL xs
  | .dict kvs=>layK kvs
def layL:List PyData→Bool
  | []=>true
  | x::xs=>lay x && layL xs
def layK:List (PyData×PyData)→Bool
  | []=>true
  | (k,v)::xs=>lay k && lay v && layK xs
end
mutual
theorem canLay_of: ∀d:PyData,lay d=true→d.hasDict=false→d.canLay0=true
  | .none,_,_=>rfl
  | .bool _,_,_=>rfl
  | .int _,_,_=>rfl
  | .str x,h,_=>by simpa only[lay,PyData.canLay0] using h
  | .list xs,h,g=>by
    simp only[lay] at h
    simp only[PyData.hasDict] at g
    simp only[PyData.canLay0]
    exact canLayAll_of xs h g
  | .tuple xs,h,g=>by
    simp only[lay] at h
    simp only[PyData.hasDict] at g
    simp only[PyData.canLay0]
    exact canLayAll_of xs h g
  | .dict kvs,_,g=>by simp only[PyData.hasDict] at g;cases g
theorem canLayAll_of: ∀d:List PyData,layL d=true→PyData.hasDictAll d=false→PyData.canLayAll0 d=true
  | [],_,_=>rfl
  | x::xs,h,g=>by
    simp only[layL,Bool.and_eq_true] at h
    simp only[PyData.hasDictAll,Bool.or_eq_false_iff] at g
    simp only[PyData.canLayAll0,canLay_of x h.1 g.1,canLayAll_of xs h.2 g.2,Bool.and_self]
end
structure Tame (d:PyData) (k n:Nat):Prop where
  show_:d.showable=true
  short:d.leavesShort 300=true
  lay:lay d=true
  depth:d.depth≤k
  bulk:d.bulk≤n
structure TameL (d:List PyData) (k n:Nat):Prop where
  show_:PyData.showableAll d=true
  short:PyData.leavesShortAll 300 d=true
  lay:layL d=true
  depth:PyData.depthAll d≤k
  bulk:PyData.bulkAll d≤n
section
variable {k n j m : Nat} {d : PyData} {ds : List PyData}
theorem Tame.mono (h:Tame d k n) (a:k≤j) (l:n≤m):Tame d j m:=⟨h.1,h.2,h.3,Nat.le_trans h.4 a,Nat.le_trans h.5 l⟩
theorem TameL.mono (h:TameL ds k n) (a:k≤j) (l:n≤m):TameL ds j m:=⟨h.1,h.2,h.3,Nat.le_trans h.4 a,Nat.le_trans h.5 l⟩
theorem Tame.len (h:Tame d k n) (hn:n≤50000):d.shown.length≤sizeLine:=by
  have:=PyData.shown_le_bulk 300 (by decide) d h.short
  have:=h.bulk
  rw[sizeLine_eq]
  omega
theorem log2_small {i:Int} {k:Nat} (hk:0<k) (h:i.natAbs<2 ^ k):i.natAbs.log2<k:=by
  by_cases z:i.natAbs=0
  · rw[z];simpa using hk
  · exact (Nat.log2_lt z).mpr h
theorem tame_int {i:Int} (h:i.natAbs<2 ^ 250):Tame (.int i) 1 0:=by
  have hl:=log2_small (by decide) h
  refine⟨?_,?_,rfl,by simp[PyData.depth],by simp[PyData.bulk]⟩
  · simp only[PyData.showable,decide_eq_true_eq]
    omega
  · simp only[PyData.leavesShort,decide_eq_true_eq,PyData.shown]
    have e:=int_text_length_le (a:=i) (k:=250) (by decide) hl
    have e2:=PySem.ofString_length (toString i)
    exact decide_eq_true (by omega)
theorem tame_str {x:Str} (h:x.length≤n) (hc:PyData.strOk x=true):Tame (.str x) 1 n:=by
  refine⟨rfl,?_,by simpa only[lay] using hc,by simp[PyData.depth],by simpa only[PyData.bulk] using (show x.cps.size≤n from h)⟩
  simp only[PyData.leavesShort,List.all_eq_true,decide_eq_true_eq]
  intro c hm
  have z:c<1114112:=by
    unfold PyData.strOk at hc
    rw[← Array.all_toList,List.all_eq_true] at hc
    exact of_decide_eq_true (hc c hm)
  exact Nat.lt_trans z (by decide)
theorem tameL_nil:TameL [] 0 0:=⟨rfl,rfl,rfl,by simp[PyData.depthAll],by simp[PyData.bulkAll]⟩
theorem tameL_cons (h:Tame d k m) (l:TameL ds k n):TameL (d::ds) k (m+n+1):=by
  refine⟨?_,?_,?_,?_,?_⟩
  · simp only[PyData.showableAll,h.1,l.1,Bool.and_self]
  · simp only[PyData.leavesShortAll,h.2,l.2,Bool.and_self]
  · simp only[layL,h.3,l.3,Bool.and_self]
  · have:=h.4;have:=l.4
    simp only[PyData.depthAll]
    omega
  · have:=h.5;have:=l.5
    simp only[PyData.bulkAll]
    omega
theorem tame_lst (l:TameL ds k n):Tame (.list ds) (k+1) n:=by
  have:=l.4;have:=l.5
  refine⟨by simpa only[PyData.showable] using l.1,by simpa only[PyData.leavesShort] using l.2,by simpa only[PC.lay] using l.3,?_,?_⟩
  · simp only[PyData.depth];omega
  · simp only[PyData.bulk];omega
theorem TameL.get (l:TameL ds k n) (h:d∈ds):Tame d k n:=by
  obtain⟨a,b,f,c,e⟩:=l
  induction ds with
  | nil=>cases h
  | cons x r ih=>
    simp only[PyData.showableAll,PyData.leavesShortAll,layL,Bool.and_eq_true] at a b f
    simp only[PyData.depthAll,PyData.bulkAll] at c e
    rcases List.mem_cons.mp h with z | z
    · subst z
      exact⟨a.1,b.1,f.1,by omega,by omega⟩
    · exact ih z a.2 b.2 f.2 (by omega) (by omega)
theorem Tame.shaped (t:Tame d k n) (hk:k≤64) (h:d.hasDict=false):SeqAt.shaped d=true:=by
  have:=t.depth
  unfold SeqAt.shaped
  rw[canLay_of d t.lay h,decide_eq_true (by omega)]
  rfl
theorem tameL_of: ∀ {ds:List PyData},(∀d∈ds,Tame d k m)→TameL ds k (ds.length * (m+1))
  | [],h=>tameL_nil.mono (by omega) (by omega)
  | d::ds,h=>by
    have z:=tameL_cons (h d (List.mem_cons_self ..)) (tameL_of fun x hx=>h x (List.mem_cons_of_mem _ hx))
    refine z.mono (Nat.le_refl _) ?_
    rw[List.length_cons,Nat.add_mul,Nat.one_mul]
    omega
end

section
variable {X : Cx}
end
end PC

set_option Elab.async false
set_option linter.all false
set_option maxRecDepth 100000
set_option maxHeartbeats 2000000
namespace PC
open PySem PySem.Spec PyProof.Rows L2

section
variable {X : Cx}
theorem call_divmodW:CallR X (.builtin "divmod") (fun xs H Q=> ∃i j,xs= [.int i,.int j]∧CDivW i j∧
    ∀p,H p=none→Q (.ref p) (upd H p (.tup [.int (i / j),.int (i % j)]))):=by
  intro pins s σ H xs us Q I r h
  obtain⟨i,j,rfl,⟨h1,h2⟩,q⟩:=h
  obtain⟨u,w',rfl,⟨t,rfl⟩,⟨t',rfl⟩⟩:=vals2 r
  refine divmod_int (by omega) ?_ (.inl (PyProof.noPylong_of_log2 h2))
  have e1:i.fdiv j=i / j:=Int.fdiv_eq_ediv_of_nonneg i (by omega)
  have e2:i.fmod j=i % j:=Int.fmod_eq_emod_of_nonneg i (by omega)
  rw[e1,e2]
  refine⟨.ref s.heap.objs.size,_,I.laid (o:= .tup [.int (i / j),.int (i % j)]) (fun b o e=>Heap.get?_push_of_some _ e) (Nat.le_refl _)
    ⟨by rw[sizeLine_eq];simp,[.int (i / j) s.toks,.int (i % j) (s.toks+1)],.cons ⟨_,rfl⟩ (.cons ⟨_,rfl⟩ .nil),?_⟩,
    rfl,q _ (I.hok.fresh (Nat.le_refl _))⟩
  exact⟨_,Heap.get?_push_size s.heap rfl,rfl,0,rfl⟩

theorem rd_lst {pins:List (Addr×Obj)} {σ:L2.St} {H:Hp} {s:Shared} {a:Addr} {xs:List V} (I:Inv X pins σ H s) (h:Rd H a (.lst xs)):
    ∃(its:List Value) (n:Nat),Vals xs its∧xs.length≤sizeLine∧
      s.heap.get? a=some { cls:= .type "list",data:= .seq its.toArray n }:=by
  obtain⟨z,its,n,r,e⟩:=(show ObjOk X.prog X.w H s.heap a (.lst xs) from h.ok I.hok)
  exact⟨its,n,r,z,e⟩
def rCatL:R2:=fun x y H Q=> ∃l b xs zs,x= .ref l∧y= .ref b∧Rd H l (.lst xs)∧Rd H b (.lst zs)∧
  xs.length+zs.length≤sizeLine∧ ∀p,H p=none→Q (.ref p) (upd H p (.lst (xs++zs)))
theorem op_catL:OpR X (binaryOp .Add) rCatL:=by
  intro pins s σ H x y v u Q I rx ry h
  obtain⟨l,b,xs,zs,rfl,rfl,hH,hB,hz,q⟩:=h
  cases (show v=Value.ref l from rx)
  cases (show u=Value.ref b from ry)
  obtain⟨its,n,r,hl,e⟩:=rd_lst I hH
  obtain⟨its2,n2,r2,hl2,e2⟩:=rd_lst I hB
  have le1:=r.length
  have le2:=r2.length
  refine PySem.P.add_list e e2 ?_ (by rw[List.size_toArray,List.size_toArray];omega)
  have ea:its.toArray++its2.toArray=(its++its2).toArray:=by simp
  rw[ea]
  exact⟨.ref _,_,I.lnew (t':=s.toks) (r.append r2) (by rw[List.length_append];omega),rfl,q _ I.fresh⟩
def rCatT0 (K:PySem.W.Frag):R2:=fun x y H Q=> ∃a b ys,x= .ref a∧y= .ref b∧SqT K H a []∧SqT K H b ys∧Q (.ref b) H
theorem op_catT0:OpR X (binaryOp .Add) (rCatT0 X.K):=by
  intro pins s σ H x y v u Q I rx ry h
  obtain⟨a,b,ys,rfl,rfl,ha,hb,q⟩:=h
  cases (show v=Value.ref a from rx)
  cases (show u=Value.ref b from ry)
  obtain⟨its,r1,p1,_⟩:=I.tuple ha
  obtain⟨its2,r2,p2,_⟩:=I.tuple hb
  obtain⟨⟨cls,dd,data,sl⟩,ho,hc,n,hd⟩:=id p1
  obtain⟨⟨cls2,dd2,data2,sl2⟩,ho2,hc2,n2,hd2⟩:=id p2
  simp only at hc hd hc2 hd2
  subst hc hd hc2 hd2
  cases r1
  exact concat_meets ⟨_,ho,rfl⟩ ⟨_,ho2,rfl⟩ noFill_tuple_add seq_tuple_add PySem.F.slot_tuple_add PySem.F.entry_tuple_add
    (PySem.F.args_tuple_add_2 _ _) (tuple_addW0 a b _ _ n n2 dd dd2 sl sl2 rfl) ⟨ho,ho2,⟨.ref b,H,I,rfl,q⟩⟩
def rAddI:R2:=rI0 fun i j=> .int (i+j)
def rAddS:R2:=fun x y H Q=> ∃i j,x= .str i∧y= .str j∧i.length+j.length≤sizeLine∧Q (.str (i++j)) H
def rAdd (K:PySem.W.Frag):R2:=fun x y H Q=>rAddI x y H Q∨rAddS x y H Q∨rCatL x y H Q∨rCatT0 K x y H Q∨rCatT K x y H Q
theorem op_addA:OpR X (binaryOp .Add) (rAdd X.K):=OpR.or op_add (OpR.or op_add_str (OpR.or op_catL (OpR.or op_catT0 op_catT)))

theorem getItem_whole {prog:Program} {w:World} {A:Around} {E:Value→Shared→Prop} {s:Shared} {t sl:Addr} {items:Array Value} {vl vu:Value}
    {lo hi:Option Int} {Q:Value→Shared→Prop} (ht:IsTup s.heap t items) (hs:s.heap.IsSliceOf sl vl vu .none)
    (pl:IsPart vl lo) (pu:IsPart vu hi) (hw:HT.sIx items.size 0 lo=0∧HT.sIx items.size items.size hi=items.size)
    (h:Q (.ref t) s) (hsz:items.size≤sizeLine):wpAny (model prog w) A (getItem (.ref t) (.ref sl)) Q E s:=by
  obtain⟨os,hos,hcs,hds⟩:=id hs
  have hTs:s.TypeIs (.ref sl) "slice" :=⟨os,hos,hcs⟩
  unfold getItem
  try with_reducible refine wpAny_holding ?_
  first | refine wpAny_bind (wpAny_pure ?_) | skip
  refine wpAny_bind (wpAny_sequenceKey ht.typeIs (by decide) ?_)
  refine wpAny_bind (wpAny_callSpecial?_slot (name:=Str.ofString "__getitem__") ht.typeIs PyProof.Rows.slot_tuple_getitem
    (wpAny_call_entry PyProof.Rows.slot_tuple_getitem ht.typeIs entry_tuple_getitem ?_ (args_tuple_getitem _ _)))
  show wpAny _ _ (Builtin.Tuple.tupleItemsOf (.ref t) >>= _) _ _ s
  refine wpAny_bind (tupleItemsOf_ ht ?_)
  refine wpAny_bind (wpAny_typeOf hTs ?_)
  rw[if_pos (by decide)]
  refine wpAny_bind (HT.sliceApplied_gen hs pl pu ?_)
  have hyes:((((HT.sIx items.size 0 lo:Nat):Int) == 0 && (1:Int) == 1 &&
      (HT.sIx items.size items.size hi - HT.sIx items.size 0 lo) == items.size)=true):=by
    rw[hw.1,hw.2];simp
  show wpAny _ _ (if (((HT.sIx items.size 0 lo:Nat):Int) == 0 && (1:Int) == 1 &&
      (HT.sIx items.size items.size hi - HT.sIx items.size 0 lo) == items.size)=true then _ else _) _ _ s
  rw[if_pos hyes]
  show wpAny _ _ (Builtin.Tuple.tupleIsExact (.ref t) >>= _) _ _ s
  unfold Builtin.Tuple.tupleIsExact
  refine wpAny_bind (wpAny_bind (wpAny_typeOf ht.typeIs (wpAny_pure ?_)))
  rw[if_pos (by decide)]
  first
    | exact⟨_,rfl,wpAny_pure h⟩
    | exact wpAny_bind (wpAny_pure ⟨_,rfl,wpAny_pure h⟩)
    | exact wpAny_pure ⟨_,rfl,wpAny_pure h⟩
    | (wp_walk;exact⟨_,rfl,wpAny_pure h⟩)
def rSlT0 (K:PySem.W.Frag):V→Option Int→Option Int→Hp→VK→Prop:=fun x lo hi H Q=> ∃a xs,x= .ref a∧SqT K H a xs∧
  (HT.sIx xs.length 0 lo=0∧HT.sIx xs.length xs.length hi=xs.length)∧Q (.ref a) H
theorem sl_tup0:SlR X (rSlT0 X.K):=by
  intro pins s σ H x v vl vu lo hi sl Q I rx hs pl pu h
  obtain⟨a,xs,rfl,hx,hw,q⟩:=h
  cases (show v=Value.ref a from rx)
  obtain⟨its,r,ht,hz⟩:=I.tuple hx
  have hlen:its.toArray.size=xs.length:=by rw[List.size_toArray];exact r.length.symm
  exact⟨"tuple",_,PyProof.Rows.slot_tuple_getitem.lookup,ht.typeIs,
    getItem_whole ht hs pl pu (by rw[hlen];exact hw) ⟨.ref a,H,I,rfl,q⟩ (by rw[hlen];exact hz)⟩
def rSl (K:PySem.W.Frag):V→Option Int→Option Int→Hp→VK→Prop:=fun x lo hi H Q=>
  rSlL K x lo hi H Q∨rSlT0 K x lo hi H Q∨rSlT K x lo hi H Q∨rSlS x lo hi H Q
theorem sl_any:SlR X (rSl X.K):=SlR.or sl_list (SlR.or sl_tup0 (SlR.or sl_tup sl_str))

def rLen (K:PySem.W.Frag):List V→Hp→VK→Prop:=fun xs H Q=>
  (∃p ys,xs= [.ref p]∧(SqL K H p ys∨SqT K H p ys)∧Q (.int ys.length) H)∨(∃z,xs= [.str z]∧z.length≤sizeLine∧Q (.int z.length) H)
theorem call_lenA:CallR X (.builtin "len") (rLen X.K):=CallR.or call_len_seq call_len_str
def rTuple (K:PySem.W.Frag):List V→Hp→VK→Prop:=fun xs H Q=> ∃p ys,xs= [.ref p]∧
  ((SqL K H p ys∧ ∀l,H l=none→Q (.ref l) (upd H l (.tup ys)))∨(SqT K H p ys∧Q (.ref p) H))
theorem call_tupleA:CallR X (.type "tuple") (rTuple X.K):=call_tuple_of
def rEqDat (K:PySem.W.Frag):R2:=fun x y H Q=> ∃Z d e,One H∧Dat K Z H d x∧Dat K Z H e y∧SeqAt.shaped d=true∧SeqAt.shaped e=true∧Q (.bl (PyData.eqv d e)) H
theorem op_eqDatU (hu:X.A.units+64<cLine):OpR X (compareOp .Eq) (rEqDat X.K):=by
  intro pins s σ H x y v u Q I rx ry h
  obtain⟨Z,d,e,o1,hd,he,sd,se,q⟩:=h
  obtain⟨as,r1,_⟩:=Dat.reads I o1 d x v hd rx
  obtain⟨bs,r2,_⟩:=Dat.reads I o1 e y u he ry
  exact SeqAt.compareEq_shaped r1 r2 sd se hu ⟨.bl _,H,I,rfl,q⟩
def rNeDat (K:PySem.W.Frag):R2:=fun x y H Q=> ∃Z d e,One H∧Dat K Z H d x∧Dat K Z H e y∧SeqAt.shaped d=true∧SeqAt.shaped e=true∧Q (.bl (!PyData.eqv d e)) H
theorem op_neDatU (hu:X.A.units+64<cLine):OpR X (compareOp .NotEq) (rNeDat X.K):=by
  intro pins s σ H x y v u Q I rx ry h
  obtain⟨Z,d,e,o1,hd,he,sd,se,q⟩:=h
  obtain⟨as,r1,_⟩:=Dat.reads I o1 d x v hd rx
  obtain⟨bs,r2,_⟩:=Dat.reads I o1 e y u he ry
  exact SeqAt.compareNe_shaped r1 r2 sd se hu ⟨.bl _,H,I,rfl,q⟩
def rEqA (K:PySem.W.Frag):R2:=fun x y H Q=>rEq x y H Q∨rEqDat K x y H Q
def rNeA (K:PySem.W.Frag):R2:=fun x y H Q=>rNe x y H Q∨rNeDat K x y H Q
theorem op_eqAU (hu:X.A.units+64<cLine):OpR X (compareOp .Eq) (rEqA X.K):=OpR.or op_eq (op_eqDatU hu)
theorem op_eqA {k:Nat} (hr:Room k X.A):OpR X (compareOp .Eq) (rEqA X.K):=op_eqAU hr.units
theorem op_neAU (hu:X.A.units+64<cLine):OpR X (compareOp .NotEq) (rNeA X.K):=OpR.or op_ne (op_neDatU hu)
theorem op_neA {k:Nat} (hr:Room k X.A):OpR X (compareOp .NotEq) (rNeA X.K):=op_neAU hr.units
def rInC:R2:=fun x y H Q=> ∃(c:Nat) (z:Str),x= .str ⟨#[c]⟩∧y= .str z∧Q (.bl (decide (c∈z.cps.toList))) H
def rNotInC:R2:=fun x y H Q=> ∃(c:Nat) (z:Str),x= .str ⟨#[c]⟩∧y= .str z∧Q (.bl (!decide (c∈z.cps.toList))) H
def rInA (K:PySem.W.Frag):R2:=fun x y H Q=>rInC x y H Q∨rIn K false x y H Q
def rNotInA (K:PySem.W.Frag):R2:=fun x y H Q=>rNotInC x y H Q∨rIn K true x y H Q
theorem op_inA:OpR X (compareOp .In) (rInA X.K):=OpR.or op_in_sign op_in_seq
theorem op_notInA:OpR X (compareOp .NotIn) (rNotInA X.K):=OpR.or op_notIn_sign op_notIn_seq
end

section
variable {K : PySem.W.Frag} {p : Addr} {Z : List Addr} {H H' : Hp} {Q : VK} {x y : V} {d e : PyData} {ds es : List PyData}
structure Wd (p:Addr) (Z:List Addr) (H:Hp):Prop where
  one:One H
  occ: ∀b∈Z,H b≠none
  mem:p∈Z
theorem Wd.ne {n:Addr} (h:Wd p Z H) (hn:H n=none):n ∉ Z:=fun z=>h.occ n z hn
theorem Wd.up (h:Wd p Z H) (r:R p H H'):Wd p Z H':=by
  refine⟨r.one h.one,fun b hb=> ?_,h.mem⟩
  by_cases z:b=p
  · subst z
    exact r.occ (h.occ _ hb)
  · cases e:H b with
    | none=>exact absurd e (h.occ b hb)
    | some o=>
      rw[r.keep b o z e]
      exact fun w=>nomatch w
theorem Dat.to {v:V} (h:Dat K Z H d v) (w:Wd p Z H) (r:R p H H'):Dat K Z H' d v:=Dat.up r w.mem d v h
theorem DatL.to {v:List V} (h:DatL K Z H ds v) (w:Wd p Z H) (r:R p H H'):DatL K Z H' ds v:=DatL.up r w.mem ds v h
theorem s_add_int {i j:Int} (q:Q (.int (i+j)) H):rAdd K (.int i) (.int j) H Q:= .inl ⟨i,j,rfl,rfl,q⟩
theorem s_add_str {i j:Str} (h:i.length+j.length≤sizeLine) (q:Q (.str (i++j)) H):rAdd K (.str i) (.str j) H Q:= .inr (.inl ⟨i,j,rfl,rfl,h,q⟩)
def sliD (xs:List PyData) (lo hi:Option Int):List PyData:=(xs.drop (HT.sIx xs.length 0 lo)).take (HT.sIx xs.length xs.length hi - HT.sIx xs.length 0 lo)
theorem DatL.cut {vs:List V} {lo hi:Option Int} (l:DatL K Z H ds vs):DatL K Z H (sliD ds lo hi) (cutV vs lo hi):=by
  unfold sliD cutV
  rw[l.length]
  exact (l.drop _).take _
theorem s_sl_str {z:Str} {lo hi:Option Int} (h:z.length≤sizeLine) (q:Q (.str (cutS z lo hi)) H):rSl K (.str z) lo hi H Q:= .inr (.inr (.inr ⟨z,rfl,h,q⟩))
theorem s_len_str {z:Str} (h:z.length≤sizeLine) (q:Q (.int z.length) H):rLen K [.str z] H Q:= .inr ⟨z,rfl,h,q⟩
def tyD:PyData→String
  | .none=> "NoneType" | .bool _=> "bool" | .int _=> "int" | .str _=> "str" | .list _=> "list" | .tuple _=> "tuple" | .dict _=> "dict"
theorem Dat.ty (h:Dat K Z H d x):TyX K H x (.type (tyD d)):=by
  cases d with
  | none=>simp only[Dat] at h;subst h;exact .base .non
  | bool b=>simp only[Dat] at h;subst h;exact .base (.bl b)
  | int b=>simp only[Dat] at h;subst h;exact .base (.int b)
  | str b=>simp only[Dat] at h;subst h;exact .base (.str b)
  | list ds=>
    obtain⟨a,xs,rfl,_,h,_⟩:=h.lst
    rcases h with h | ⟨o,h⟩
    · exact .base (.lst h)
    · exact .base (.frz h)
  | tuple ds=>
    obtain⟨a,xs,rfl,_,h,_⟩:=h.tup
    rcases h with (h | ⟨o,h⟩) | ⟨o,_,_,h,c,_⟩
    · exact .base (.tup h)
    · exact .fTuple h
    · exact .kTuple h c
  | dict ds=>
    obtain⟨a,xs,rfl,_,h,_⟩:=h.dct
    exact .base (.dK h)
def isD (d:PyData) (T:String):Bool:=tyD d == T || (T == "int" && tyD d == "bool")
theorem kit_table: ∀a∈ ["NoneType","bool","int","str","list","tuple","dict"],∀T∈ ["int","bool","str","list","tuple","dict"],
    kitB a T=some (a == T || (T == "int" && a == "bool")):=by decide +kernel
theorem kit_isD (d:PyData) {T:String} (hT:T= "int" ∨T= "bool" ∨T= "str" ∨T= "list" ∨T= "tuple" ∨T= "dict"):kitB (tyD d) T=some (isD d T):=by
  refine kit_table _ ?_ T ?_
  · cases d <;> simp[tyD]
  · rcases hT with rfl | rfl | rfl | rfl | rfl | rfl <;> simp
theorem s_isi {T:String} (hx:Dat K Z H d x) (hT:T= "int" ∨T= "bool" ∨T= "str" ∨T= "list" ∨T= "tuple" ∨T= "dict") (q:Q (.bl (isD d T)) H):rIsi K [x,.ty T] H Q:=
  ⟨x,.ty T,_,_,isD d T,rfl,.ty T,hx.ty,kit_ty (kit_isD d hT),q⟩
theorem s_eq_int {i j:Int} (q:Q (.bl (decide (i=j))) H):rEqA K (.int i) (.int j) H Q:= .inl ⟨rfl,by
  have e:decide (V.int i=V.int j)=decide (i=j):=by simp
  rw[e];exact q⟩
theorem s_ne_int {i j:Int} (q:Q (.bl (!decide (i=j))) H):rNeA K (.int i) (.int j) H Q:= .inl ⟨rfl,by
  have e:decide (V.int i=V.int j)=decide (i=j):=by simp
  rw[e];exact q⟩
theorem s_eq_str {i j:Str} (q:Q (.bl (decide (i=j))) H):rEqA K (.str i) (.str j) H Q:= .inl ⟨rfl,by
  have e:decide (V.str i=V.str j)=decide (i=j):=by simp
  rw[e];exact q⟩
theorem s_ne_str {i j:Str} (q:Q (.bl (!decide (i=j))) H):rNeA K (.str i) (.str j) H Q:= .inl ⟨rfl,by
  have e:decide (V.str i=V.str j)=decide (i=j):=by simp
  rw[e];exact q⟩
theorem s_in_c {c:Nat} {z:Str} (q:Q (.bl (decide (c∈z.cps.toList))) H):rInA K (.str ⟨#[c]⟩) (.str z) H Q:= .inl ⟨c,z,rfl,rfl,q⟩
theorem s_notIn_c {c:Nat} {z:Str} (q:Q (.bl (!decide (c∈z.cps.toList))) H):rNotInA K (.str ⟨#[c]⟩) (.str z) H Q:= .inl ⟨c,z,rfl,rfl,q⟩
end
end PC

set_option Elab.async false
set_option linter.all false
set_option maxRecDepth 100000
set_option maxHeartbeats 2000000
namespace PC
open PySem PySem.Spec PyProof.Rows L2

def LcG (J:It) (g:TG) (tt:TT) (te:TE) (vs:List Nat) (σ:L2.St) (H1:Hp) (Q:VK):Prop:=
  ∀ D, H1 D = none → ∃ W : Nat → Nat → Hp → Prop, (∃ m, W 0 m (upd H1 D (.lst []))) ∧ ∀ i m H, W i m H →
        (J.stop i H∧Q (.ref D) H)∨(J.go i H∧ ∃Nx:Hp→Prop,(∀H',Nx H'→ ∃m',m'<m∧W (i+1) m' H')∧
          ∀x H',J.yld i H x H'→g x (wipe σ vs) H' fun σ2 H2=>wipe σ2 vs=wipe σ vs∧tt σ2 H2 fun b H3=>
            if b=true then te σ2 H3 fun y H4=> ∃acc,H4 D=some (.lst acc)∧acc.length<sizeLine∧Nx (upd H4 D (.lst (acc++ [y]))) else Nx H3)
def ForG (J:It) (g:TG) (tb:TS) (D:Ends) (σ:L2.St) (H1:Hp):Prop:= ∃W:Nat→Nat→L2.St→Hp→Prop,(∃m,W 0 m σ H1)∧ ∀i m σ H,W i m σ H→
    (J.stop i H∧D.nx σ H)∨(J.go i H∧ ∃N:L2.St→Hp→Prop,(∀σ' H',N σ' H'→ ∃m',m'<m∧W (i+1) m' σ' H')∧
      ∀x H',J.yld i H x H'→g x σ H' fun σ2 H2=>tb { D with nx:=N,ct:=N,bk:=D.nx } σ2 H2)
def NewL (xs:List V) (H:Hp) (Q:VK):Prop:=xs.length≤sizeLine∧ ∀p,H p=none→Q (.ref p) (upd H p (.lst xs))
def NewT (xs:List V) (H:Hp) (Q:VK):Prop:=xs.length≤sizeLine∧ ∀p,H p=none→Q (.ref p) (upd H p (.tup xs))
section
variable {σ : L2.St} {H : Hp} {Q : VK} {D : Ends} {v : V} {te ta tb tc : TE} {t u : TS} {tt t1 t2 : TT} {tr : TA} {QA : List V → Hp → Prop} {QT : Bool → Hp → Prop}
theorem s_var {i:Nat} (h:σ[i]?=some (some v)) (q:Q v H):tVar i σ H Q:=⟨v,h,q⟩
theorem s_c (q:Q v H):tC v σ H Q:=q
theorem s_op {r:R2} (q:ta σ H fun x H1=>tb σ H1 fun y H2=>r x y H2 Q):tOp r ta tb σ H Q:=q
theorem s_un {r:V→Hp→VK→Prop} (q:ta σ H fun x H1=>r x H1 Q):tUn r ta σ H Q:=q
theorem s_rI0 {g:Int→Int→V} {i j:Int} (q:Q (g i j) H):rI0 g (.int i) (.int j) H Q:=⟨i,j,rfl,rfl,q⟩
theorem s_rI {C:Int→Int→Prop} {g:Int→Int→V} {i j:Int} (c:C i j) (q:Q (g i j) H):rI C g (.int i) (.int j) H Q:=⟨i,j,rfl,rfl,c,q⟩
theorem s_rU {g:Int→V} {i:Int} (q:Q (g i) H):rU g (.int i) H Q:=⟨i,rfl,q⟩
theorem s_nil (q:QA [] H):tNil σ H QA:=q
theorem s_cons (q:te σ H fun x H1=>tr σ H1 fun xs H2=>QA (x::xs) H2):tCons te tr σ H QA:=q
theorem s_cb {r:List V→Hp→VK→Prop} (q:tr σ H fun vs H1=>r vs H1 Q):tCB r tr σ H Q:=q
theorem s_ck {r:List V→List V→Hp→VK→Prop} {tk:TA} (q:tr σ H fun vs H1=>tk σ H1 fun zs H2=>r vs zs H2 Q):tCK r tr tk σ H Q:=q
theorem s_if (q:tt σ H fun c H1=>if c=true then ta σ H1 Q else tb σ H1 Q):tIf tt ta tb σ H Q:=q
theorem s_andV (q:ta σ H fun x H1=> ∃c,x= .bl c∧if c=true then tb σ H1 Q else Q (.bl false) H1):tAndV ta tb σ H Q:=q
theorem s_orV (q:ta σ H fun x H1=> ∃c,x= .bl c∧if c=true then Q (.bl true) H1 else tb σ H1 Q):tOrV ta tb σ H Q:=q
theorem s_notV (q:ta σ H fun x H1=> ∃c,x= .bl c∧Q (.bl (!c)) H1):tNotV ta σ H Q:=q
theorem s_chain {r r':R2} (q:ta σ H fun x H1=>tb σ H1 fun y H2=>r x y H2 fun z H3=> ∃k,z= .bl k∧
    (if k=true then tc σ H3 fun w' H4=>r' y w' H4 Q else Q (.bl false) H3)):tChain r r' ta tb tc σ H Q:=q
theorem s_lst (q:tr σ H fun xs H1=>NewL xs H1 Q):tLst tr σ H Q:=q
theorem s_tup (q:tr σ H fun xs H1=>NewT xs H1 Q):tTup tr σ H Q:=q
theorem s_slice {r:V→Option Int→Option Int→Hp→VK→Prop} {tl th:TO} (q:te σ H fun x H1=>tl σ H1 fun l H2=>th σ H2 fun u H3=>r x l u H3 Q):tSl r te tl th σ H Q:=q
theorem s_part {Qo:Option Int→Hp→Prop} (q:te σ H fun x H1=> ∃i,x= .int i∧Qo (some i) H1):tPart te σ H Qo:=q
theorem s_noPart {Qo:Option Int→Hp→Prop} (q:Qo none H):tNoPart σ H Qo:=q
theorem s_test (q:te σ H fun x H'=> ∃k,x= .bl k∧QT k H'):tTest te σ H QT:=q
theorem s_tB (q:te σ H fun x H'=> ∃k,x= .bl k∧QT k H'):tB te σ H QT:=q
theorem s_not (q:tt σ H fun c H1=>QT (!c) H1):tNot tt σ H QT:=q
theorem s_and (q:t1 σ H fun c H1=>if c=true then t2 σ H1 QT else QT false H1):tAnd t1 t2 σ H QT:=q
theorem s_or (q:t1 σ H fun c H1=>if c=true then QT true H1 else t2 σ H1 QT):tOr t1 t2 σ H QT:=q
theorem s_seq (q:t { D with nx:=u D } σ H):tSeq t u D σ H:=q
theorem s_next (q:D.nx σ H):tNext D σ H:=q
theorem s_ret (q:te σ H D.rt):tRet te D σ H:=q
theorem s_retN (q:D.rt .non H):tRetN D σ H:=q
theorem s_drop (q:te σ H fun _ H1=>D.nx σ H1):tDrop te D σ H:=q
theorem s_ifS (q:tt σ H fun b H1=>if b=true then t D σ H1 else u D σ H1):tIfS tt t u D σ H:=q
theorem s_asg {g:TG} (q:te σ H fun x H1=>g x σ H1 D.nx):tAsg te g D σ H:=q
theorem s_par {i j:Nat} (q:tr σ H fun vs H1=> ∃v w,vs= [v,w]∧D.nx ((σ.set i (some v)).set j (some w)) H1):tPar i j tr D σ H:=q
theorem s_gname {i:Nat} {N:L2.St→Hp→Prop} (q:N (σ.set i (some v)) H):gName i v σ H N:=q
end

section
variable {J : It} {n : Nat} {G : Hp → Prop} {Y : Nat → Hp → V → Hp → Prop} {K : PySem.W.Frag} {p : Addr} {Z : List Addr}
theorem Wd.more {D:Addr} {H:Hp} (w:Wd p Z H) (hD:H D≠none):Wd p (D::Z) H:=
  ⟨w.one,fun b hb=>(List.mem_cons.mp hb).elim (fun z=>z ▸ hD) (w.occ b),List.mem_cons_of_mem _ w.mem⟩
theorem R.wd {D:Addr} {H H':Hp} (r:R p H H') (hD:H D≠none) (hp:D≠p):H' D=H D:=by
  cases e:H D with
  | none=>exact absurd e hD
  | some o=>exact r.keep D o hp e
end

theorem bt_max:bootBuiltins "max" =some (.builtin "max"):=by decide +kernel
theorem bt_min:bootBuiltins "min" =some (.builtin "min"):=by decide +kernel
theorem bt_abs:bootBuiltins "abs" =some (.builtin "abs"):=by decide +kernel
theorem bt_divmod:bootBuiltins "divmod" =some (.builtin "divmod"):=by decide +kernel
theorem bt_len:bootBuiltins "len" =some (.builtin "len"):=by decide +kernel
theorem bt_isinstance:bootBuiltins "isinstance" =some (.builtin "isinstance"):=by decide +kernel
theorem bt_sum:bootBuiltins "sum" =some (.builtin "sum"):=by decide +kernel
theorem bt_all:bootBuiltins "all" =some (.builtin "all"):=by decide +kernel
theorem bt_sorted:bootBuiltins "sorted" =some (.builtin "sorted"):=by decide +kernel
theorem bt_int:bootBuiltins "int" =some (.type "int"):=by decide +kernel
theorem bt_bool:bootBuiltins "bool" =some (.type "bool"):=by decide +kernel
theorem bt_str:bootBuiltins "str" =some (.type "str"):=by decide +kernel
theorem bt_list:bootBuiltins "list" =some (.type "list"):=by decide +kernel
theorem bt_tuple:bootBuiltins "tuple" =some (.type "tuple"):=by decide +kernel
theorem ite_b {b:Bool} {A B:Prop} (h1:b=true→A) (h0:b=false→B):if b=true then A else B:=by
  cases b with
  | true=>exact iteT (h1 rfl)
  | false=>exact iteF (h0 rfl)
theorem ite_d {c A B:Prop} [Decidable c] (h1:c→A) (h0: ¬ c→B):if decide c=true then A else B:=
  ite_b (fun h=>h1 (of_decide_eq_true h)) (fun h=>h0 (of_decide_eq_false h))
section
variable {X : Cx}
theorem ix_any:IxR X (rIx X.K):=ix_seq
theorem op_modA:OpR X (binaryOp .Mod) (rI (fun _ j=>0<j) fun i j=> .int (i % j)):=op_mod
theorem op_fdivA:OpR X (binaryOp .FloorDiv) (rI CDivW fun i j=> .int (i / j)):=op_fdivW
end
section
variable {K : PySem.W.Frag} {σ : L2.St} {H : Hp} {N : L2.St → Hp → Prop} {Q : VK} {p : Addr} {x y v : V} {a b : Int} {Z : List Addr}
theorem s_gcons {t:TG} {u:TGs} {r:List V} (q:t v σ H fun σ' H'=>u r σ' H' N):gCons t u (v::r) σ H N:=⟨v,r,rfl,q⟩
theorem s_gnil (q:N σ H):gNil [] σ H N:=⟨rfl,q⟩
theorem s_gsub {to ti:TE} {t:TSet} (q:to σ H fun o H1=>ti σ H1 fun i H2=>t o i v H2 fun H3=>N σ H3):gSub to ti t v σ H N:=q
theorem s_gtup {n:Nat} {t:TGs} {xs:List V} (h:SqT K H p xs) (hl:xs.length=n) (q:t xs σ H N):gTup K n t (.ref p) σ H N:=⟨p,xs,rfl,h,hl,q⟩
theorem s_pot0 (e:H p=some (.lst [x,y])) (q:Q x H):rIx K (.ref p) (.int 0) H Q:= .inl ⟨p,[x,y],0,x,rfl,rfl,.inl (.inl e),atI_nat (j:=0) rfl,q⟩
theorem s_pot1 (e:H p=some (.lst [x,y])) (q:Q y H):rIx K (.ref p) (.int 1) H Q:= .inl ⟨p,[x,y],1,y,rfl,rfl,.inl (.inl e),atI_nat (j:=1) rfl,q⟩
theorem s_pset0 {N:Hp→Prop} (e:H p=some (.lst [x,y])) (q:N (upd H p (.lst [v,y]))):rSetL (.ref p) (.int 0) v H N:=⟨p,[x,y],0,0,rfl,rfl,e,rfl,q⟩
theorem s_pset1 {N:Hp→Prop} (e:H p=some (.lst [x,y])) (q:N (upd H p (.lst [x,v]))):rSetL (.ref p) (.int 1) v H N:=⟨p,[x,y],1,1,rfl,rfl,e,rfl,q⟩
theorem s_script {ns:List Int} {i:Nat} (h:SqL K H p (ns.map V.int)) (hi:i<ns.length) (q: ∀z,ns[i]?=some z→Q (.int z) H):rIx K (.ref p) (.int i) H Q:=by
  refine .inl ⟨p,_,i,.int ns[i],rfl,rfl,h,atI_nat (j:=i) (by rw[List.getElem?_map,List.getElem?_eq_getElem hi];rfl),q _ (List.getElem?_eq_getElem hi)⟩
end
section
variable {K : PySem.W.Frag} {α β : Type}
def pick (perm:List Nat) (xs:List α):List α:=perm.filterMap (xs[·]?)
def kwg (a b:Nat) (perm:List Nat) (us ws:List α):List α:=if us.length=a∧ws.length=b then pick perm (us++ws) else []
theorem pick_vals {xs:List V} {us:List Value} (r:Vals xs us): ∀perm:List Nat,Vals (pick perm xs) (pick perm us)
  | []=> .nil
  | i::perm=>by
    have ih:=pick_vals r perm
    unfold pick at ih ⊢
    rw[List.filterMap_cons,List.filterMap_cons]
    cases e:xs[i]? with
    | none=>rw[r.none_of e];exact ih
    | some x=>
      obtain⟨u,hu,ru⟩:=r.get e
      rw[hu]
      exact .cons ru ih
theorem kb_of {x qual:Str} {st:Stmt} {f:Addr} {fd:FuncData} {ps ks:List Str} {a b:Nat} {perm:List Nat} (F:Fun K x qual st f fd) (h0:ps≠ [])
    (h: ∀(kV doc pm:Value) (an:Option Addr) (cdv ct:Value) (us ws:List Value),us.length=a→ws.length=b→
      bindArgs (PySem.W.fnOf x qual (defArgs st) (defBody st) (defScope st) .none kV doc pm an cdv ct) ⟨us,ks.zip ws⟩=pure (ps.zip (pick perm (us++ws)))):
    KBinds K fd ps ks (kwg a b perm) (kwg a b perm):=by
  obtain⟨oc,od,kV,doc,pm,an,cdv,ct,osl,rfl,lk,hcd⟩:=F.ex
  refine⟨fun s us ws _ hl=> ?_,fun {vs us zs ws} r z=> ?_⟩
  · by_cases c:us.length=a∧ws.length=b
    · unfold kwg
      rw[if_pos c]
      exact .of_eq (h kV doc pm an cdv ct us ws c.1 c.2)
    · unfold kwg at hl
      rw[if_neg c] at hl
      exact absurd (List.length_eq_zero_iff.mp hl.symm) h0
  · unfold kwg
    by_cases c:us.length=a∧ws.length=b
    · rw[if_pos c,if_pos ⟨by rw[r.length];exact c.1,by rw[z.length];exact c.2⟩]
      exact pick_vals (r.append z) perm
    · rw[if_neg c,if_neg (fun q=>c ⟨by rw[← r.length];exact q.1,by rw[← z.length];exact q.2⟩)]
      exact .nil
end

theorem cmul_r {i j:Int} (h: -18446744073709551616<j) (h':j<18446744073709551616):CMul i j:= .inr ⟨h,h'⟩
theorem cmul_l {i j:Int} (h: -18446744073709551616<i) (h':i<18446744073709551616):CMul i j:= .inl ⟨h,h'⟩
theorem cdw {i j:Int} (h:0<j) (h':j<18446744073709551616):CDivW i j:=wide_div h (b:=64) (by omega) (by decide) (by decide)
theorem cpow {i j:Int} (h:0≤j) (h':j≤1000000) (h'':i.natAbs<18446744073709551616):CPow i j:=⟨h,h',h''⟩
section
variable {K : PySem.W.Frag} {H : Hp} {Q : VK}
end

section
variable {J : It} {n : Nat} {G : Hp → Prop} {Y : Nat → Hp → V → Hp → Prop} {K : PySem.W.Frag} {p : Addr} {Z : List Addr} {gi : Nat} {te : TE} {vs : List Nat} {σ : L2.St} {H1 : Hp} {Q : VK}
theorem s_yes {σ:L2.St} {H:Hp} {QT:Bool→Hp→Prop} (q:QT true H):tYes σ H QT:=q
end
section
variable {K : PySem.W.Frag} {p : Addr} {Z : List Addr} {H : Hp} {Q : VK} {x : V} {d : PyData}
theorem Dat.str {z:Str} (h:Dat K Z H (.str z) x):x= .str z:=by simpa only[Dat] using h
theorem Dat.int {z:Int} (h:Dat K Z H (.int z) x):x= .int z:=by simpa only[Dat] using h
theorem Dat.bool {z:Bool} (h:Dat K Z H (.bool z) x):x= .bl z:=by simpa only[Dat] using h
end
theorem sl_of {n:Nat} (h:n≤50000):n≤sizeLine:=by rw[sizeLine_eq];omega
theorem sl_lt {n:Nat} (h:n≤50000):n<sizeLine:=by rw[sizeLine_eq];omega

section
variable {X : Cx} {K : PySem.W.Frag} {k : Nat}
theorem kx_add (h:X.K=K):OpR X (binaryOp .Add) (rAdd K):=by subst h;exact op_addA
theorem kx_ix (h:X.K=K):IxR X (rIx K):=by subst h;exact ix_any
theorem kx_sl (h:X.K=K):SlR X (rSl K):=by subst h;exact sl_any
theorem kx_len (h:X.K=K):CallR X (.builtin "len") (rLen K):=by subst h;exact call_lenA
theorem kx_tuple (h:X.K=K):CallR X (.type "tuple") (rTuple K):=by subst h;exact call_tupleA
theorem kx_eq (h:X.K=K) (hr:Room k X.A):OpR X (compareOp .Eq) (rEqA K):=by subst h;exact op_eqA hr
theorem kx_ne (h:X.K=K) (hr:Room k X.A):OpR X (compareOp .NotEq) (rNeA K):=by subst h;exact op_neA hr
theorem kx_in (h:X.K=K):OpR X (compareOp .In) (rInA K):=by subst h;exact op_inA
theorem kx_notIn (h:X.K=K):OpR X (compareOp .NotIn) (rNotInA K):=by subst h;exact op_notInA
theorem kx_isi (h:X.K=K):CallR X (.builtin "isinstance") (rIsi K):=by subst h;exact call_isi
theorem kx_isiT (h:X.K=K):CallR X (.builtin "isinstance") (rIsiT K):=by subst h;exact call_isiT
theorem kx_all (h:X.K=K) (hc:X.calm=true):CallR X (.builtin "all") (rAll K):=by subst h;exact cr_all hc
theorem kx_sum (h:X.K=K) (hc:X.calm=true):CallR X (.builtin "sum") (rSum K):=by subst h;exact cr_sum hc
end

theorem ite_nf {A B:Prop} (h:A):if (!false)=true then A else B:=iteT h
theorem ite_nt {A B:Prop} (h:B):if (!true)=true then A else B:=iteF h
section
variable {σ : L2.St} {H : Hp} {Q : VK} {D : Ends} {g : TG} {tt : TT} {te : TE} {ta : TA} {vs : List Nat} {K : PySem.W.Frag} {RI : It → Hp → Prop} {tb : TS} {wi : TI}
theorem s_tlc (q:wi σ H fun J H1=>LcG J g tt te vs σ H1 Q):tLc wi g tt te vs σ H Q:=q
theorem s_iStr (q:te σ H fun v H1=> ∃x,v= .str x∧RI (Its x) H1):iStr te σ H RI:=q
theorem s_iList (q:te σ H fun x H1=> ∃a,x= .ref a∧(∃xs,SqL K H1 a xs)∧RI (Itl K a) H1):iList K te σ H RI:=q
theorem s_iTup (q:te σ H fun x H1=> ∃a,x= .ref a∧(∃xs,SqT K H1 a xs)∧RI (Itt K a) H1):iTup K te σ H RI:=q
theorem s_iRng1 (q:ta σ H fun vs H1=> ∃j:Int,vs= [.int j]∧ -(2 ^ 62)≤j∧j<2 ^ 62∧RI (Itr 0 j.toNat) H1):iRng1 ta σ H RI:=q
theorem s_iRng2 (q:ta σ H fun vs H1=> ∃i j:Int,vs= [.int i,.int j]∧(-(2 ^ 62)≤i∧i<2 ^ 62∧ -(2 ^ 62)≤j∧j<2 ^ 62)∧RI (Itr i (j - i).toNat) H1):iRng2 ta σ H RI:=q
theorem s_for (q:wi σ H fun J H1=>ForG J g tb D σ H1):tFor wi g tb D σ H:=q
section
variable {p : Addr} {Z : List Addr} {ds : List PyData} {xs : List V}
end
end

section
variable {K : PySem.W.Frag} {p : Addr} {Z : List Addr} {H : Hp} {Q : VK} {x : V} {d : PyData} {ds : List PyData} {σ : L2.St}
theorem s_m1 {r:V→List V→Hp→VK→Prop} {to te:TE} (q:to σ H fun x H1=>(∃a,x= .str a)∧te σ H1 fun y H2=>r x [y] H2 Q):tM1 r to te σ H Q:=q
def rJoin (K:PySem.W.Frag):V→List V→Hp→VK→Prop:=fun x xs H Q=> ∃a p,∃ys:List Str,x= .str a∧xs= [.ref p]∧
  (SqL K H p (ys.map V.str)∨SqT K H p (ys.map V.str))∧(ys.map (·.length)).sum+ys.length * a.length≤16777216∧Q (.str (Txt.join a ys)) H
theorem pe_joinK {X:Cx} {o e:Expr} {to te:TE} {apos pos:Pos} (hK:X.K=K) (ho:PE X o to) (he:PE X e te) (hs:starEach [e] X.env= [(false,eval e X.env)]:=by rfl)
    (hbase:attributeBase o "join" X.env (eval o X.env)=eval o X.env:=by rfl) (hline:(apos.endLine == pos.line)=true:=by rfl):
    PE X (.Call (.Attribute o "join" apos) [e] [] pos) (tM1 (rJoin K) to te):=by
  subst hK
  exact pe_join ho he hs hbase hline
end
theorem cps_app (a b:Str):(a++b).cps.toList=a.cps.toList++b.cps.toList:=by
  show (a.cps++b.cps).toList=_
  simp
theorem ok_iff {x:Str}:PyData.strOk x=true↔ ∀c∈x.cps.toList,c<1114112:=by
  unfold PyData.strOk
  rw[← Array.all_toList,List.all_eq_true]
  constructor
  · intro h c hc;exact of_decide_eq_true (h c hc)
  · intro h c hc;exact decide_eq_true (h c hc)
theorem ok_app {a b:Str} (h:PyData.strOk a=true) (g:PyData.strOk b=true):PyData.strOk (a++b)=true:=by
  rw[ok_iff] at *
  intro c hc
  rw[cps_app] at hc
  exact (List.mem_append.mp hc).elim (h c) (g c)
theorem len_app (a b:Str):(a++b).length=a.length+b.length:=by
  show (a.cps++b.cps).size=_
  simp[Str.length]
theorem len_join: ∀(ys:List Str),(Txt.join "" ys).length=(ys.map (·.length)).sum:=by
  intro ys
  rw[TL.join_eq]
  induction ys with
  | nil=>rfl
  | cons y r ih=>
    cases r with
    | nil=>simp[Str.join]
    | cons u r=>
      show (y++("" :Str)++Str.join "" (u::r)).length=_
      rw[len_app,len_app,ih]
      simp
      rfl
theorem sum_ones: ∀ys:List Str,(∀y∈ys,y.length=1)→(ys.map (·.length)).sum=ys.length
  | [],_=>rfl
  | y::r,h=>by
    rw[List.map_cons,List.sum_cons,h y (by simp),sum_ones r fun z hz=>h z (List.mem_cons_of_mem _ hz),List.length_cons];omega

theorem char_lt (c:Char):c.toNat<1114112:=by
  have h:=c.valid
  show c.val.toNat<1114112
  rcases h with h | ⟨_,h⟩
  · have:c.val.toNat<0xd800:=h
    omega
  · exact h
theorem ok_ofString (s:String):PyData.strOk (Str.ofString s)=true:=by
  rw[ok_iff,signs_ofString]
  intro c hc
  obtain⟨ch,_,rfl⟩:=List.mem_map.mp hc
  exact char_lt ch
theorem reprChar_lt {q c x:Nat} (hq:c<1114112) (h:x∈Builtin.Str.reprChar q c):x<1114112:=by
  have hx: ∀w:Nat,x∈List.replicate (w - ((Nat.toDigits 16 c).map Char.toNat).length) 48++(Nat.toDigits 16 c).map Char.toNat→x<1114112:=by
    intro w h
    rcases List.mem_append.mp h with h | h
    · rw[List.eq_of_mem_replicate h];decide
    · obtain⟨ch,_,rfl⟩:=List.mem_map.mp h
      exact char_lt ch
  unfold Builtin.Str.reprChar at h
  simp only at h
  repeat' split at h
  all_goals first
    | (simp only[List.mem_cons,List.not_mem_nil,or_false] at h;omega)
    | (rcases List.mem_append.mp h with h | h
       · simp only[List.mem_cons,List.not_mem_nil,or_false] at h;omega
       · exact hx _ h)
theorem mem_fold (f:Nat→List Nat) (x:Nat): ∀(l:List Nat) (acc:Array Nat),x∈(l.foldl (fun out c=>out++(f c).toArray) acc).toList→x∈acc.toList∨ ∃c∈l,x∈f c
  | [],acc,h=> .inl h
  | c::l,acc,h=>by
    rcases mem_fold f x l _ h with h | ⟨d,hd,h⟩
    · have h':x∈acc.toList++f c:=by simpa using h
      rcases List.mem_append.mp h' with h | h
      · exact .inl h
      · exact .inr ⟨c,by simp,h⟩
    · exact .inr ⟨d,List.mem_cons_of_mem _ hd,h⟩
theorem quote_lt (x:Str):reprQuote x<1114112:=by
  unfold reprQuote
  split <;> decide
theorem ok_reprText {x:Str} (h:PyData.strOk x=true):PyData.strOk (reprText x)=true:=by
  rw[ok_iff] at *
  intro c hc
  unfold reprText at hc
  rw[Array.toList_push] at hc
  rcases List.mem_append.mp hc with hc | hc
  · rw[← Array.foldl_toList] at hc
    rcases mem_fold (Builtin.Str.reprChar (reprQuote x)) c _ _ hc with hc | ⟨d,hd,hc⟩
    · have:c=reprQuote x:=by simpa using hc
      rw[this];exact quote_lt x
    · exact reprChar_lt (h d hd) hc
  · rw[List.mem_singleton.mp hc];exact quote_lt x
theorem ok_sjoin (sep:Str) (hs:PyData.strOk sep=true) (ts:List Str) (h: ∀t∈ts,PyData.strOk t=true):PyData.strOk (Str.join sep ts)=true:=by
  rw[ok_iff]
  intro c hc
  rcases (mem_join sep c ts).mp hc with ⟨t,ht,hc⟩ | ⟨_,hc⟩
  · exact ok_iff.mp (h t ht) c hc
  · exact ok_iff.mp hs c hc
theorem ok_textFrom: ∀(ts:List Str) (k:Nat) (acc:Str),PyData.strOk acc=true→(∀t∈ts,PyData.strOk t=true)→PyData.strOk (textFrom k acc ts)=true
  | [],k,acc,h,_=>h
  | t::r,k,acc,h,g=>by
    show PyData.strOk (textFrom (k+1) _ r)=true
    exact ok_textFrom r (k+1) _ (ok_app (ok_app h (ok_ofString _)) (g t (by simp))) fun u hu=>g u (List.mem_cons_of_mem _ hu)
mutual
theorem ok_shown: ∀d:PyData,lay d=true→PyData.strOk d.shown=true
  | .none,_=>ok_ofString _
  | .bool b,_=>by cases b <;> exact ok_ofString _
  | .int i,_=>ok_ofString _
  | .str x,h=>by
    simp only[PyData.shown]
    exact ok_reprText (by simpa only[lay] using h)
  | .list xs,h=>by
    simp only[PyData.shown]
    exact ok_app (ok_textFrom _ _ _ (ok_ofString _) (ok_shownAll xs (by simpa only[lay] using h))) (ok_ofString _)
  | .tuple xs,h=>by
    simp only[PyData.shown]
    exact ok_app (ok_app (ok_ofString _) (ok_sjoin _ (ok_ofString _) _ (ok_shownAll xs (by simpa only[lay] using h)))) (ok_ofString _)
  | .dict kvs,h=>by
    simp only[PyData.shown]
    exact ok_app (ok_app (ok_ofString _) (ok_sjoin _ (ok_ofString _) _ (ok_shownKv kvs (by simpa only[lay] using h)))) (ok_ofString _)
theorem ok_shownAll: ∀xs:List PyData,layL xs=true→ ∀t∈PyData.shownAll xs,PyData.strOk t=true
  | [],_,t,ht=>by simp[PyData.shownAll] at ht
  | x::xs,h,t,ht=>by
    simp only[layL,Bool.and_eq_true] at h
    simp only[PyData.shownAll,List.mem_cons] at ht
    rcases ht with rfl | ht
    · exact ok_shown x h.1
    · exact ok_shownAll xs h.2 t ht
theorem ok_shownKv: ∀xs:List (PyData×PyData),layK xs=true→ ∀t∈PyData.shownKv xs,PyData.strOk t=true
  | [],_,t,ht=>by simp[PyData.shownKv] at ht
  | (k,v)::xs,h,t,ht=>by
    simp only[layK,Bool.and_eq_true] at h
    simp only[PyData.shownKv,List.mem_cons] at ht
    rcases ht with rfl | ht
    · exact ok_app (ok_app (ok_shown k h.1.1) (ok_ofString _)) (ok_shown v h.1.2)
    · exact ok_shownKv xs h.2 t ht
end
theorem Tame.text {d:PyData} {k n:Nat} (t:Tame d k n):Tame (.str d.shown) 1 (302 * n+300):=by
  have:=PyData.shown_le_bulk 300 (by decide) d t.short
  have:=t.bulk
  exact tame_str (by omega) (ok_shown d t.lay)
end PC

set_option Elab.async false
set_option linter.all false
set_option maxRecDepth 100000
set_option maxHeartbeats 2000000
namespace PC
open PySem PySem.Spec PySem.W PySem.Calls PyProof.Rows L2
open Builtin Builtin.ObjectAttr

structure ErrBase (B newId initId:String) (tl:List Value):Prop where
  f:ExcBaseFacts B newId initId tl
  pass: ∀x,refuseLoop x "__setattr__" tl=pure ()
  obj:tl.contains (.type "object")=true
  hand:handedIn (.builtin initId)=true
theorem eb_value:ErrBase "ValueError" "ValueError.__new__" "ValueError.__init__" [.type "ValueError",.type "Exception",.type "BaseException",.type "object"]:=
  ⟨F.excBase_ValueError,F.store_ValueError.passes,by decide +kernel,by first | rfl | decide +kernel⟩
theorem mro_has {C D:Addr} {tl:List Value} (T:String):(Value.ref C:: .ref D::tl).contains (.type T)=tl.contains (.type T):=by
  rw[List.contains_cons,List.contains_cons]
  rfl
theorem mro_has1 {D:Addr} {tl:List Value} (T:String):(Value.ref D::tl).contains (.type T)=tl.contains (.type T):=by
  rw[List.contains_cons]
  rfl

section
variable {prog : Program} {w : World} {A : Around} {R : Result → Shared → Prop}
  {u : Heap} {g : Array GenState} {dr : Drawn} {n : Nat} {os : OsState}
  {B newId initId : String} {tl : List Value}
theorem err_set {K:W.Frag} {f:Str} {tk:Tok} {v:Value} {x C D:Addr} {ox:Obj} {od:Option Obj} {cd:ClassData}
    (BB:ErrBase B newId initId tl) (X:K.In u) (J:W.InstAt u x ox C od)
    (hcd:W.clsIn K C=some cd) (hm:cd.mro= .ref C:: .ref D::tl) (hf:W.findIn K (.ref C) f=some none)
    (hq:wpAny (model prog w) A.in1 (storeInOwnDict (.ref x) (.ref C) (.str f tk) f v false)
      (fun fin s'=>match fin with
        | .done y=>R (.ok y) s'
        | .again c'=>c'.quiet=true∧codeAny (model prog w) A c' R s') (fun e s'=>R (.error e) s') ⟨u,g,dr,n,os⟩):
    codeAny (model prog w) A (.call (.builtin "object.__setattr__") ⟨[.ref x,.str f tk,v],[]⟩) R ⟨u,g,dr,n,os⟩:=by
  have S:=F.store_object
  have h1:cd.mro.contains (.type "object")=true:=by
    rw[hm,mro_has]
    exact BB.obj
  have h2:W.mroIn K C (.type "object")=some true:=by
    unfold W.mroIn
    rw[hcd,Option.bind_some,h1,hm]
    rfl
  have h3:W.Looks (model prog w) u (isInstance (.ref x) (.type "object")) true:=J.type.andThen (W.looks_mroIn X h2)
  have h4:W.Looks (model prog w) u (mroOf (.ref C)) cd.mro:=(W.looks_clsIn X hcd).andThen .now
  have h5:W.Looks (model prog w) u (storeTaker? none) none:= .now
  have h6:refuseLoop (.ref x) "__setattr__" cd.mro=pure ():=by
    rw[hm,refuseLoop_ref,refuseLoop_ref]
    exact BB.pass _
  refine codeAny_call_builtin S.slot.plain S.entry
    (@W.check_slot (model prog w) _ _ ⟨u,g,dr,n,os⟩ "object.__setattr__" "object" "__setattr__" (.ref x) [.str f tk,v] [] _
      S.kind S.split h3 (S.args (.ref x) (.str f tk) v) ?_)
  rw[W.osa_eq,refuse_eq]
  refine wpAny_bind (wpAny_bind (J.type.at (wpAny_bind (h4.at ?_))))
  rw[h6]
  exact wpAny_pure (wpAny_bind (J.type.at (wpAny_bind ((W.looks_findIn X hf).at (wpAny_bind (h5.at hq))))))
theorem err_set0 {K:W.Frag} {f:Str} {tk:Tok} {v:Value} {x C D:Addr} {fv:Array Value} {cd:ClassData}
    (BB:ErrBase B newId initId tl) (X:K.In u) (hx:u.get? x=some { cls:= .ref C,data:= .fields fv })
    (hcd:W.clsIn K C=some cd) (hm:cd.mro= .ref C:: .ref D::tl) (hd:cd.hasDict=true) (hf:W.findIn K (.ref C) f=some none)
    (hq: ∀u' n' dx,(∀b o,b≠x→u.get? b=some o→u'.get? b=some o)→u.objs.size≤dx→dx≠x→
      u'.get? x=some { cls:= .ref C,dict:=some dx,data:= .fields fv }→
      u'.Ns1 dx (fun y=>if y=f then some v else none)→R (.ok (.ret .none)) ⟨u',g,dr,n',os⟩):
    codeAny (model prog w) A (.call (.builtin "object.__setattr__") ⟨[.ref x,.str f tk,v],[]⟩) R ⟨u,g,dr,n,os⟩:=by
  have J:W.InstAt u x { cls:= .ref C,data:= .fields fv } C none:=⟨hx,rfl,rfl,trivial⟩
  have lt:x≠u.objs.size:=Nat.ne_of_lt (Heap.lt_size hx)
  refine err_set BB X J hcd hm hf ?_
  have hc:W.Looks (model prog w) u (classData C) cd:=W.looks_clsIn X hcd
  obtain⟨c1,c2,c3,c4,c5,c6,c7,c8,c9,c10,c11⟩:=cd
  dsimp only at hd
  subst hd
  unfold storeInOwnDict ownDictForStores
  repeat (first
    | with_reducible refine HandSPX.store_in_new ?_ ?_
    | with_reducible refine wpAny_loadPart_at hx ?_
    | with_reducible refine hc.at ?_
    | wp_step)
  · exact⟨_,#[],_,(Heap.get?_update_ne _ _ _ _ lt.symm).trans (Heap.get?_push_at rfl rfl),rfl,
      fun e he=>absurd he (by simp),fun _=>rfl⟩
  · intro u' n' hn hs
    have hx':(u.push { cls:= .type "dict",data:= .dict #[] }).get? x=some { cls:= .ref C,data:= .fields fv }:=
      Heap.get?_push_of_some _ hx
    refine hq u' n' u.objs.size (fun b o hb ho=> ?_) (Nat.le_refl _) lt.symm ?_ hn
    · exact (hs.2 b (Nat.ne_of_lt (Heap.lt_size ho))).trans
        ((Heap.get?_update_ne _ _ _ _ hb).trans (Heap.get?_push_of_some _ ho))
    · exact (hs.2 x lt).trans (Heap.get?_update_self _ hx' rfl)
theorem put_in {M:Model} {A:Around} {E:Value→Shared→Prop} {dx:Addr} {f:Str} {tk:Tok} {v:Value}
    {m0:Str→Option Value} {ns:List Str} {Q:Fin→Shared→Prop} (hn:u.Ns1 dx m0) (hw:Within m0 ns) (hz:ns.length≤1000)
    (hq: ∀u' n',u'.Ns1 dx (fun y=>if y=f then some v else m0 y)→Heap.SameBut dx u u'→Q (.done (.ret .none)) ⟨u',g,dr,n',os⟩):
    wpAny M A (storeInDict dx (.str f tk) f v) Q E ⟨u,g,dr,n,os⟩:=by
  unfold storeInDict newKeyGuard
  refine wpAny_bind (wpAny_pure (wpAny_bind (wpAny_nsSet1 hn fun u' hn' hs=> ?_)))
  obtain⟨o1,e1,p1,ho1,hd1,hc1⟩:=hn'.count (Within.cons f v hw)
  have few:e1.size≤sizeLine:=by
    refine Nat.le_trans hc1 ?_
    rw[List.length_cons,sizeLine_eq]
    omega
  refine wpAny_bind (wpAny_lookBehind ho1 (by rw[hd1];exact pastItsLine_dict (Nat.le_succ_of_le few)) ?_)
  wp_walk
  exact hq u' _ hn' hs
theorem err_set1 {K:W.Frag} {f:Str} {tk:Tok} {v:Value} {x C D dx:Addr} {fv:Array Value} {cd:ClassData}
    {m0:Str→Option Value} {ns:List Str}
    (BB:ErrBase B newId initId tl) (X:K.In u) (hx:u.get? x=some { cls:= .ref C,dict:=some dx,data:= .fields fv })
    (hn:u.Ns1 dx m0) (hw:Within m0 ns) (hz:ns.length≤1000)
    (hcd:W.clsIn K C=some cd) (hm:cd.mro= .ref C:: .ref D::tl) (hd:cd.hasDict=true) (hf:W.findIn K (.ref C) f=some none)
    (hq: ∀u' n',(∀b o,b≠dx→u.get? b=some o→u'.get? b=some o)→
      u'.Ns1 dx (fun y=>if y=f then some v else m0 y)→R (.ok (.ret .none)) ⟨u',g,dr,n',os⟩):
    codeAny (model prog w) A (.call (.builtin "object.__setattr__") ⟨[.ref x,.str f tk,v],[]⟩) R ⟨u,g,dr,n,os⟩:=by
  obtain⟨o1,e1,p1,ho1,hd1,hc1⟩:=hn.count hw
  have J:W.InstAt u x { cls:= .ref C,dict:=some dx,data:= .fields fv } C (some o1):=⟨hx,rfl,rfl,ho1⟩
  refine err_set BB X J hcd hm hf ?_
  have hc:W.Looks (model prog w) u (classData C) cd:=W.looks_clsIn X hcd
  obtain⟨c1,c2,c3,c4,c5,c6,c7,c8,c9,c10,c11⟩:=cd
  dsimp only at hd
  subst hd
  unfold storeInOwnDict ownDictForStores
  repeat (first
    | with_reducible refine put_in hn hw hz ?_
    | with_reducible refine wpAny_loadPart_at hx ?_
    | with_reducible refine hc.at ?_
    | wp_step)
  intro u' n' hn' hs
  exact hq u' n' (fun b o hb ho=>(hs.2 b hb).trans ho) hn'
end

abbrev P4:=Pos×Pos×Pos×Pos
def erSt (f:Str) (p:P4):Stmt:= .Assign [.Attribute (.Name "self" p.1) f p.2.1] (.Name f p.2.2.1) p.2.2.2
structure ErDef (st:Stmt) (qual base:Str) (f:Str) (fs:List Str):Prop where
  bind: ∀(kV doc pm:Value) (an:Option Addr) (cdv ct:Value) (us:List Value),us.length=(f::fs).length+1→
    bindArgs (fnOf "__init__" qual (defArgs st) (defBody st) (defScope st) .none kV doc pm an cdv ct) ⟨us,[]⟩=pure ((("self" :Str)::f::fs).zip us)
  co:(defScope st).isCoroutine=false
  gen:(defScope st).isGenerator=false
  kind:(defScope st).kind= .function
  loc: ∀y∈(("self" :Str)::f::fs),(defScope st).names.lookup y=some .local
  glo:(defScope st).names.lookup base=some .globalImplicit
  nd:(("self" :Str)::f::fs).Nodup
  few:fs.length≤100
  ndb:((f == ("__debug__" :Str))=false)∧(∀y∈fs,(y == ("__debug__" :Str))=false)∧(base == ("__debug__" :Str))=false
  hi: ∀(L a:Addr) (cd:Value),interactive (envOfC qual (defScope st) L a cd)=false
  body: ∃(text:Str) (j:Nat) (q1 q2 q3 q4 q5 q6:Pos) (r:P4) (rs:List P4) (pl:Addr→Addr→Value→Sem Bool),rs.length=fs.length∧
    (∀(L a:Addr) (cd:Value),eval (.Call (.Attribute (.Name base q1) "__init__" q2) [.Name "self" q3,.Constant (.str text) j q4] [] q5) (envOfC qual (defScope st) L a cd)=(do
      let ov ← eval (.Name base q1) (envOfC qual (defScope st) L a cd)
      standAt q2.atName
      let (m,first) ← holding [ov] (getMethod ov "__init__" (pl L a cd))
      callWith q5 m first (backTo q5 (starEach [.Name "self" q3,.Constant (.str text) j q4] (envOfC qual (defScope st) L a cd)))
        (backToKw q5 (keywordEach [] (envOfC qual (defScope st) L a cd)))))∧
    defBody st= .Expr (.Call (.Attribute (.Name base q1) "__init__" q2) [.Name "self" q3,.Constant (.str text) j q4] [] q5) q6::
      erSt f r::(fs.zip rs).map fun y=>erSt y.1 y.2
structure ErrT (K:Frag) (mg:Str→Option Value) (nm base:Str) (B newId initId:String) (tl:List Value) (f:Str) (fs:List Str)
    (C D fI:Addr) (st:Stmt):Prop where
  bb:ErrBase B newId initId tl
  gC:mg nm=some (.ref C)
  gD:mg base=some (.ref D)
  cls: ∃n1 q N bs sn sub ab col dd k0 k1 k2 k3 k5,
    K.lookup C=some (excClassObj n1 q C N bs (.ref D::tl) true sn sub ab col dd k0 k1 k2 k3 k5 newId)
  sa:findIn K (.ref C) "__setattr__" =some (some (.builtin "object.__setattr__"))
  noF: ∀y∈f::fs,findIn K (.ref C) y=some none
  iC:findIn K (.ref C) "__init__" =some (some (.ref fI))
  tI:typeIn K (.ref fI)=some (.type "function")
  kC:keepIn K (.ref C)=true
  eC:subIn K (.ref C) (.type "BaseException")=some true
  tC:typeIn K (.ref C)=some (.type "type")
  rD:readsIn K D (.type "type")=true
  gaD:specialIn K (.ref D) "__getattribute__" =some (some (.builtin "type.__getattribute__"))
  iD:findCls K (.ref D) (.type "type") "__init__" =some (.val (.builtin initId))
  fn: ∃(qual:Str) (oc:Value) (od:Option Addr) (kV doc pm:Value) (an:Option Addr) (cdv ct:Value) (osl:Array (Option Value)),
    K.lookup fI=some ⟨oc,od,.func (fnOf "__init__" qual (defArgs st) (defBody st) (defScope st) .none kV doc pm an cdv ct),osl⟩∧
    codeIn K cdv qual=true∧ErDef st qual base f fs

theorem bindL_get {k:Str→Option NameKind}: ∀(r:List (Str×Value)) (m:Str→Option Value),(∀y∈r,k y.1=some .local)→
    (r.map (·.1)).Nodup→ ∀n,(n ∉ r.map (·.1)→bindL k r m n=m n)∧ ∀v,(n,v)∈r→bindL k r m n=some v:=by
  intro r
  induction r with
  | nil=>exact fun m _ _ n=>⟨fun _=>rfl,fun v h=>by cases h⟩
  | cons y r ih=>
    obtain⟨x,u⟩:=y
    intro m hk hn n
    rw[List.map_cons,List.nodup_cons] at hn
    have hx:k x=some .local:=hk (x,u) List.mem_cons_self
    obtain⟨i1,i2⟩:=ih (fun y=>if y=x then some u else m y) (fun y hy=>hk y (List.mem_cons_of_mem _ hy)) hn.2 n
    have e:bindL k ((x,u)::r) m=bindL k r (fun y=>if y=x then some u else m y):=by
      show bindL k r (if k x=some .local then _ else m)=_
      rw[if_pos hx]
    rw[e]
    refine⟨fun h=> ?_,fun v h=> ?_⟩
    · rw[List.map_cons,List.mem_cons,not_or] at h
      rw[i1 h.2,if_neg h.1]
    · rcases List.mem_cons.mp h with q | q
      · cases q
        rw[i1 hn.1,if_pos rfl]
      · exact i2 v q
theorem ns1_put {u:Heap} {dx:Addr} {f:Str} {v:Value} {acc:List (Str×Value)}
    (h:u.Ns1 dx (fun y=>if y=f then some v else acc.lookup y)):u.Ns1 dx fun y=>((f,v)::acc).lookup y:=by
  have e:(fun y=>((f,v)::acc).lookup y)=fun y=>if y=f then some v else acc.lookup y:=by
    funext y
    by_cases c:y=f
    · subst c
      simp[List.lookup]
    · have c':(y == f)=false:=by simpa using c
      rw[if_neg c]
      simp[List.lookup,c']
  rw[e]
  exact h
theorem within_lk {acc:List (Str×Value)}:Within (fun y=>acc.lookup y) (acc.map (·.1)):=by
  intro y h
  induction acc with
  | nil=>exact absurd rfl h
  | cons p r ih=>
    obtain⟨f,v⟩:=p
    by_cases c:y=f
    · subst c
      exact List.mem_cons_self
    · have c':(y == f)=false:=by simpa using c
      refine List.mem_cons_of_mem _ (ih ?_)
      have e:((f,v)::r).lookup y=r.lookup y:=by simp[List.lookup,c']
      exact fun z=>h (e.trans z)
theorem zip3 {α β γ δ:Type} (g:α×β→δ): ∀(fs:List α) (rs:List β) (vs:List γ),rs.length=fs.length→vs.length=fs.length→
    (fs.zip rs).map g=((fs.zip rs).zip vs).map (fun y=>g y.1)∧((fs.zip rs).zip vs).map (fun y=>(y.1.1,y.2))=fs.zip vs∧
    ∀y∈(fs.zip rs).zip vs,y.1.1∈fs∧(y.1.1,y.2)∈fs.zip vs
  | [],_,_,_,_=>⟨rfl,rfl,fun _ h=>by cases h⟩
  | a::fs,b::rs,c::vs,h1,h2=>by
    obtain⟨i1,i2,i3⟩:=zip3 g fs rs vs (Nat.succ.inj h1) (Nat.succ.inj h2)
    refine⟨?_,?_,fun y hy=> ?_⟩
    · show g (a,b)::(fs.zip rs).map g=g (a,b)::((fs.zip rs).zip vs).map (fun y=>g y.1)
      rw[i1]
    · show (a,c)::((fs.zip rs).zip vs).map (fun y=>(y.1.1,y.2))=(a,c)::fs.zip vs
      rw[i2]
    · rcases List.mem_cons.mp (show y∈((a,b),c)::(fs.zip rs).zip vs from hy) with e | e
      · subst e
        exact⟨List.mem_cons_self,List.mem_cons_self⟩
      · exact⟨List.mem_cons_of_mem _ (i3 y e).1,List.mem_cons_of_mem _ (i3 y e).2⟩
theorem kin_but {K:Frag} {u u':Heap} {x:Addr} (X:K.In u) (hx:K.lookup x=none)
    (k: ∀b o,b≠x→u.get? b=some o→u'.get? b=some o):K.In u':=fun b o e=>
  k b o (fun z=>by rw[z,hx] at e;cases e) (X b o e)
theorem ns_but {u u':Heap} {x L:Addr} {m:Str→Option Value} (h:u.Ns L m) (hx:L≠x)
    (k: ∀b o,b≠x→u.get? b=some o→u'.get? b=some o):u'.Ns L m:=h.at fun o e=>k L o hx e

section
variable {prog : Program} {w : World} {A : Around} {E : Value → Shared → Prop} {s : Shared} {K : Frag} {mg : Str → Option Value}
  {nm base : Str} {B newId initId : String} {tl : List Value} {f : Str} {fs : List Str} {C D fI : Addr} {st : Stmt}
theorem ld_l {M:Model} {env:Env} {m:Str→Option Value} {x:Str} {pos:Pos} {v:Value} {Q:Value→Shared→Prop}
    (hn:s.heap.Ns env.locals m) (hv:m x=some v) (hk:env.scope.kind= .function) (hl:env.kindOf x=some .local)
    (hd:(x == ("__debug__" :Str))=false) (h:Q v s):wpAny M A (eval (.Name x pos) env) Q E s:=
  wpAny_Name (wpAny_loadName_local hk hl hn hv h) hd
structure ErMade (h h':Heap) (e C d:Addr) (acc:List (Str×Value)):Prop where
  keep: ∀b o,h.get? b=some o→h'.get? b=some o
  new:h.objs.size≤e
  obj: ∃t,h'.get? e=some { cls:= .ref C,dict:=some d,data:= .fields #[.ref t,.none,.none,.none,.bool false,.none] }
  dbig:h.objs.size≤d
  dne:d≠e
  ns:h'.Ns1 d fun y=>acc.lookup y
theorem er_stores (T:ErrT K mg nm base B newId initId tl f fs C D fI st) {env:Env} {x dx:Addr} {m:Str→Option Value} {fv:Array Value}
    (hkd:env.scope.kind= .function) (hs:m "self" =some (.ref x)) (hks:env.kindOf "self" =some .local)
    (hLx:env.locals≠dx) (hKd:K.lookup dx=none) (hxd:x≠dx):
    ∀(ys:List ((Str×P4)×Value)) (acc:List (Str×Value)) (s:Shared) (Q:Flow→Shared→Prop),
      K.In s.heap→s.heap.Ns env.locals m→(∀y∈ys,m y.1.1=some y.2∧env.kindOf y.1.1=some .local∧
        findIn K (.ref C) y.1.1=some none∧(y.1.1 == ("__debug__" :Str))=false)→
      s.heap.get? x=some { cls:= .ref C,dict:=some dx,data:= .fields fv }→(s.heap.Ns1 dx fun y=>acc.lookup y)→
      acc.length+ys.length≤1000→
      (∀h' tk,(∀b o,b≠dx→s.heap.get? b=some o→h'.get? b=some o)→
        (h'.Ns1 dx fun y=>((ys.map fun y=>(y.1.1,y.2)).reverse++acc).lookup y)→Q .next { s with heap:=h',toks:=tk })→
      wpAny (model prog w) A (execs (ys.map fun y=>erSt y.1.1 y.1.2) env) Q E s
  | [],acc,s,Q,X,hn,hy,hx,h1,hz,hq=>wpAny_execs_nil (hq s.heap s.toks (fun _ _ _ e=>e) (by simpa using h1))
  | y::ys,acc,s,Q,X,hn,hy,hx,h1,hz,hq=>by
    obtain⟨n1,q,N,bs,sn,sub,ab,col,dd,k0,k1,k2,k3,k5,hC⟩:=T.cls
    have hcl:clsIn K C=some { name:=n1,bases:=bs,mro:= .ref C:: .ref D::tl,ns:=N,qualname:=q,hasDict:=true,slotNames:=sn,subclasses:=sub,abstract:=ab,collection:=col,hasDel:=false }:=by
      unfold clsIn
      rw[hC] <;> rfl
    obtain⟨y1,y2,y3,y4⟩:=hy y List.mem_cons_self
    obtain⟨o1,e1,p1,ho1,_,_⟩:=h1.count within_lk
    show wpAny _ _ (execs (erSt y.1.1 y.1.2::_) env) _ _ _
    refine wpAny_execs_cons (plainObj_wpAny_Assign_Attribute ?_ (by rfl))
    refine ld_l hn y1 hkd y2 y4 (ld_l hn hs hkd hks (by decide) ?_)
    refine set_plain X (ox:= { cls:= .ref C,dict:=some dx,data:= .fields fv }) (od:=some o1) ⟨hx,rfl,rfl,ho1⟩ T.sa ?_
    refine err_set1 T.bb X hx h1 within_lk (by rw[List.length_map];omega) hcl rfl rfl y3 (fun u' n' k hn'=> ?_)
    show wpAny _ _ (execs _ _) _ _ _
    refine er_stores T hkd hs hks hLx hKd hxd ys ((y.1.1,y.2)::acc) { s with heap:=u',toks:=n' } Q (kin_but X hKd k)
      (ns_but hn hLx k) (fun z hz=>hy z (List.mem_cons_of_mem _ hz)) (k _ _ hxd hx) (ns1_put hn')
      (by rw[List.length_cons] at hz ⊢;omega) (fun h' tk k' hn2=> ?_)
    refine hq h' tk (fun b o hb e=>k' b o hb (k b o hb e)) ?_
    have e:((y::ys).map fun y=>(y.1.1,y.2)).reverse++acc=((ys.map fun y=>(y.1.1,y.2)).reverse)++(y.1.1,y.2)::acc:=by
      rw[List.map_cons,List.reverse_cons,List.append_assoc]
      rfl
    rw[e]
    exact hn2
theorem er_init (T:ErrT K mg nm base B newId initId tl f fs C D fI st) {R:Result→Shared→Prop} {x t0:Addr} {v:Value} {vs:List Value}
    (X:K.In s.heap) (hg:s.heap.Ns mainGlobals mg) (hgx:mainGlobals≠x) (hlim:s.heap.NoLimit) (hx:s.heap.get? x=some (HandSPX.excO C t0))
    (hnx:K.lookup x=none) (hroom:A.depth<recursionLimit) (hl:vs.length=fs.length)
    (hq: ∀h' tk dx t1,(∀b o,b≠x→s.heap.get? b=some o→h'.get? b=some o)→
      h'.get? x=some { cls:= .ref C,dict:=some dx,data:= .fields #[.ref t1,.none,.none,.none,.bool false,.none] }→
      s.heap.objs.size≤dx→dx≠x→(h'.Ns1 dx fun y=>((fs.zip vs).reverse++ [(f,v)]).lookup y)→R (.ok (.ret .none)) { s with heap:=h',toks:=tk }):
    codeAny (model prog w) A (.call (.ref fI) ⟨.ref x::v::vs,[]⟩) R s:=by
  obtain⟨qual,oc,od,kV,doc,pm,an,cdv,ct,osl,ho,hcd,df⟩:=T.fn
  obtain⟨n1,q,N,bs,sn,sub,ab,col,dd,k0,k1,k2,k3,k5,hC⟩:=T.cls
  have hcl:clsIn K C=some { name:=n1,bases:=bs,mro:= .ref C:: .ref D::tl,ns:=N,qualname:=q,hasDict:=true,slotNames:=sn,subclasses:=sub,abstract:=ab,collection:=col,hasDel:=false }:=by
    unfold clsIn
    rw[hC] <;> rfl
  obtain⟨text,j,q1,q2,q3,q4,q5,q6,r,rs,pl,hrs,hev,hbd⟩:=df.body
  have hzl:(("self" :Str)::f::fs).length=(Value.ref x::v::vs).length:=by simp[hl]
  have all: ∀y∈(("self" :Str)::f::fs).zip (Value.ref x::v::vs),(defScope st).names.lookup y.1=some .local:=by
    rintro ⟨y1,y2⟩ hy
    exact df.loc y1 (List.of_mem_zip hy).1
  refine Att.call_fn (binds:=(("self" :Str)::f::fs).zip (.ref x::v::vs)) X hlim ho hcd hroom
    (BindsTo.of_eq (df.bind _ _ _ _ _ _ _ (by simp[hl]))) (List.all_eq_true.mpr fun y hy=> ?_) (fun s₁ IC=> ?_) df.co df.gen df.kind
  · rw[all y hy]
    rfl
  obtain⟨h₁,tk₁,rfl⟩:=IC.toInCall.same
  have k: ∀b o,s.heap.get? b=some o→h₁.get? b=some o:=IC.toInCall.keep
  have hn:=IC.toInCall.ns
  have hxL:s.heap.objs.size≠x:=Nat.ne_of_gt (Heap.lt_size hx)
  have X₁:K.In h₁:=X.keeps k
  have hx₁:=k _ _ hx
  have hg₁:h₁.Ns mainGlobals mg:=hg.keeps k
  have hmk:((("self" :Str)::f::fs).zip (Value.ref x::v::vs)).map (·.1)=("self" :Str)::f::fs:=List.map_fst_zip (Nat.le_of_eq hzl)
  have get: ∀n u,(n,u)∈(("self" :Str)::f::fs).zip (Value.ref x::v::vs)→bindL (envOfC qual (defScope st) s.heap.objs.size fI cdv).kindOf
      ((("self" :Str)::f::fs).zip (Value.ref x::v::vs)) (fun _=>none) n=some u:=fun n u h=>
    (bindL_get _ _ all (by rw[hmk];exact df.nd) n).2 u h
  have hself:=get "self" (.ref x) List.mem_cons_self
  have hf:=get f v (List.mem_cons_of_mem _ List.mem_cons_self)
  have kl: ∀y∈(("self" :Str)::f::fs),(envOfC qual (defScope st) s.heap.objs.size fI cdv).kindOf y=some .local:=df.loc
  rw[hbd]
  show wpAny _ _ (execs _ _) _ _ _
  -- Base.__init__(self,text)
  refine wpAny_execs_cons (wpAny_Expr_any (methodCall_KW ?_ (hev _ _ _)) (df.hi _ _ _) (by rfl))
  refine Name_function_global (env:=envOfC qual (defScope st) s.heap.objs.size fI cdv) df.kind df.glo
    (loadGlobal_global (s:= { s with heap:=h₁,toks:=tk₁ }) (env:=envOfC qual (defScope st) s.heap.objs.size fI cdv) hg₁ T.gD ?_) df.ndb.2.2
  refine method_cls X₁ T.gaD (cls_value X₁ T.rD T.iD T.bb.hand ?_)
  refine callWith_method1 (spliced_more (ld_l hn hself df.kind (kl _ List.mem_cons_self) (by decide) (spliced_more (Constant_str (spliced_none ?_))))) (by rfl) (by rfl)
  refine wpAny_call (HandSPX.init_base T.bb.f (fun Y=>mro_has1 Y) (X₁ _ _ hC) hx₁ ?_ fun h₂ t2 k2 hx₂=> ?_)
  · rw[sizeLine_eq]
    exact (by decide:1≤16777216)
  have X₂:K.In h₂:=kin_but X₁ hnx k2
  have hn₂:=ns_but hn hxL k2
  -- the first field
  show wpAny _ _ (execs (erSt f r::_) _) _ _ _
  refine wpAny_execs_cons (plainObj_wpAny_Assign_Attribute ?_ (by rfl))
  refine ld_l hn₂ hf df.kind (kl _ (List.mem_cons_of_mem _ List.mem_cons_self)) df.ndb.1 (ld_l hn₂ hself df.kind (kl _ List.mem_cons_self) (by decide) ?_)
  refine set_plain X₂ (ox:=HandSPX.excO C t2) (od:=none) ⟨hx₂,rfl,rfl,trivial⟩ T.sa ?_
  refine err_set0 T.bb X₂ hx₂ hcl rfl rfl (T.noF f List.mem_cons_self) (fun h₃ tk₃ dx k₃ dn dne hx₃ hn₃=> ?_)
  show wpAny _ _ (execs _ _) _ _ _
  have keep2: ∀b o,b≠x→s.heap.get? b=some o→h₂.get? b=some o:=fun b o hb e=>k2 b o hb (k b o e)
  have L2:s.heap.objs.size<h₂.objs.size:=hn₂.lt
  have big:s.heap.objs.size≤dx:=Nat.le_trans (Nat.le_of_lt L2) dn
  have hKd:K.lookup dx=none:=by
    cases e:K.lookup dx with
    | none=>rfl
    | some o=>exact absurd (Heap.lt_size (X _ _ e)) (Nat.not_lt.mpr big)
  obtain⟨eqs,eqn,eqm⟩:=zip3 (fun y:Str×P4=>erSt y.1 y.2) fs rs vs hrs hl
  rw[eqs]
  refine er_stores T (x:=x) (dx:=dx) df.kind hself (kl _ List.mem_cons_self) (Nat.ne_of_lt (Nat.lt_of_lt_of_le L2 dn)) hKd (Ne.symm dne) _ [(f,v)] _ _ (kin_but X₂ hnx k₃) (ns_but hn₂ hxL k₃)
    (fun y hy=> ?_) hx₃ (ns1_put hn₃) (by have:=df.few;simp[List.length_zip];omega) (fun h' tk k4 hn4=> ?_)
  · obtain⟨m1,m2⟩:=eqm y hy
    exact⟨get _ _ (List.mem_cons_of_mem _ (List.mem_cons_of_mem _ m2)),kl _ (List.mem_cons_of_mem _ (List.mem_cons_of_mem _ m1)),
      T.noF _ (List.mem_cons_of_mem _ m1),df.ndb.2.1 _ m1⟩
  · refine hq h' tk dx t2 (fun b o hb e=>k4 b o ?_ (k₃ b o hb (keep2 b o hb e))) (k4 _ _ (Ne.symm dne) hx₃) big dne ?_
    · exact Nat.ne_of_lt (Nat.lt_of_lt_of_le (Heap.lt_size e) big)
    · rw[← eqn]
      exact hn4
end
section
variable {prog : Program} {w : World} {A : Around} {E : Value → Shared → Prop} {s : Shared} {K : Frag} {mg : Str → Option Value}
  {nm base : Str} {B newId initId : String} {tl : List Value} {f : Str} {fs : List Str} {C D fI : Addr} {st : Stmt}
theorem er_made (T:ErrT K mg nm base B newId initId tl f fs C D fI st) {R:Result→Shared→Prop} {v:Value} {vs:List Value}
    (X:K.In s.heap) (hg:s.heap.Ns mainGlobals mg) (hlim:s.heap.NoLimit) (hroom:A.depth+1<recursionLimit) (hl:vs.length=fs.length)
    (hq: ∀h' tk e d,ErMade s.heap h' e C d ((fs.zip vs).reverse++ [(f,v)])→R (.ok (.ret (.ref e))) { s with heap:=h',toks:=tk }):
    codeAny (model prog w) A (.call (.ref C) ⟨v::vs,[]⟩) R s:=by
  obtain⟨n1,q,N,bs,sn,sub,ab,col,dd,k0,k1,k2,k3,k5,hC⟩:=T.cls
  obtain⟨_,_,_,_,_,_,_,_,_,_,_,_,df⟩:=T.fn
  obtain⟨u,g,dr,tk,os⟩:=s
  have old: ∀b o,u.get? b=some o→((u.push (kdv_tup (v::vs))).push (HandSPX.excO C u.objs.size)).get? b=some o:=
    fun b o e=>Heap.get?_push_of_some _ (Heap.get?_push_of_some _ e)
  have hget:((u.push (kdv_tup (v::vs))).push (HandSPX.excO C u.objs.size)).get? (u.objs.size+1)=some (HandSPX.excO C u.objs.size):=by
    heap_get
  have fresh: ∀ {b:Addr} {o:Obj},u.get? b=some o→b≠u.objs.size+1:=fun e=>
    Nat.ne_of_lt (Nat.lt_succ_of_lt (Heap.lt_size e))
  have hnx:K.lookup (u.objs.size+1)=none:=by
    cases e:K.lookup (u.objs.size+1) with
    | none=>rfl
    | some o=>exact absurd rfl (fresh (X _ _ e))
  have few:(v::vs).length≤sizeLine:=by
    have:=df.few
    rw[List.length_cons,hl,sizeLine_eq]
    omega
  refine HandSPX.call_own T.bb.f (fun Y=>mro_has1 Y) (X _ _ hC) (looks_findIn X T.iC) (fun self=>bind_fn X self T.tI) few ?_
  refine er_init (s:=⟨(u.push (kdv_tup (v::vs))).push (HandSPX.excO C u.objs.size),g,dr,tk,os⟩) T (X.keeps old) (hg.keeps old) ?_
    (hlim.keeps old) hget hnx ?_ hl fun h' tk' dx t1 k' hx dn dne hns=> ?_
  · obtain⟨o,_,_,e,_⟩:=hg
    exact fresh e
  · show A.depth+1<recursionLimit
    exact hroom
  · have z:u.objs.size+1+1≤dx:=by
      have q:=dn
      simp only[Heap.size_push] at q
      exact q
    exact⟨rfl,hq h' tk' (u.objs.size+1) dx ⟨fun b o e=>k' b o (fresh e) (old b o e),Nat.le_succ _,⟨t1,hx⟩,Nat.le_of_succ_le (Nat.le_of_succ_le z),dne,hns⟩⟩
end

theorem rel_nil (y:Str):RelO (([]:List (Str×V)).lookup y) (([]:List (Str×Value)).lookup y):=trivial
theorem rel_cons {a:List (Str×V)} {b:List (Str×Value)} {f:Str} {v:V} {u:Value} (r:RelV v u)
    (h: ∀y,RelO (a.lookup y) (b.lookup y)) (y:Str):RelO (((f,v)::a).lookup y) (((f,u)::b).lookup y):=by
  by_cases c:y=f
  · subst c
    have e1:((y,v)::a).lookup y=some v:=by simp[List.lookup]
    have e2:((y,u)::b).lookup y=some u:=by simp[List.lookup]
    rw[e1,e2]
    exact r
  · have c':(y == f)=false:=by simpa using c
    have q:=h y
    simpa [List.lookup,c'] using q
def ErRel (f:Str) (fs:List Str):Prop:= ∀(v:V) (u:Value) (ws:List V) (us:List Value),RelV v u→Vals ws us→ws.length=fs.length→
  ∀y,RelO (((fs.zip ws).reverse++ [(f,v)]).lookup y) (((fs.zip us).reverse++ [(f,u)]).lookup y)
theorem er_rel1 {f:Str}:ErRel f []:=fun v u ws us r _ _=>rel_cons r rel_nil
def tErr (C:Addr) (f:Str) (fs:List Str) (ta:TA):L2.St→Hp→XK→Prop:=fun σ H Q=>ta σ H fun vs H1=>
  ∃v ws,vs=v::ws∧ws.length=fs.length∧ ∀d,H1 d=none→Q (.ref C) (some d) (upd H1 d (.xd ((fs.zip ws).reverse++ [(f,v)])))
section
variable {X : Cx} {nm base : Str} {B newId initId : String} {tl : List Value} {f : Str} {fs : List Str} {C D fI : Addr} {st : Stmt}
theorem pmk_err {e:Expr} {es:List Expr} {ta:TA} {p pos:Pos} {k:Nat} (T:ErrT X.K X.mg nm base B newId initId tl f fs C D fI st)
    (rel:ErRel f fs) (hr:Room (k+1) X.A) (ha:PA X (e::es) ta) (hg:Gl X nm) (hdb:(nm == ("__debug__" :Str))=false:=by decide)
    (he:starEach (e::es) X.env=(false,eval e X.env)::starEach es X.env:=by rfl)
    (hpl:(backTo pos (starEach es X.env)).any (·.1)=false:=by rfl):
    PMk X (.Call (.Name nm p) (e::es) [] pos) (tErr C f fs ta):=by
  intro pins s σ H Q I h
  refine wpAny_Call_Name_kw (ld_glob I hg T.gC ?_ hdb)
  refine callWith_K (h₀:=X.base) I.ok.mod.kin T.kC (thn (ha.run pos pins s σ H _ I h) fun us s1 hh=> ?_) he hpl
  obtain⟨vs,H1,I1,r1,v,ws,ev,hl,q1⟩:=hh
  subst ev
  refine⟨I1.kIn,?_⟩
  cases r1 with
  | @cons _ u0 _ ur rv rw=>
    have hlu:ur.length=fs.length:=(Paired.length rw).symm.trans hl
    have hlim:=I1.nolimit
    have hgl:s1.heap.Ns mainGlobals X.mg:=I1.mod.glob.keeps I1.bk
    obtain⟨u,g,dr,tk,os⟩:=s1
    refine wpAny_call (er_made T I1.kIn hgl hlim (by have:=hr.dp;omega) hlu fun h' tk' a d M=> ?_)
    show MkP X pins σ Q (.ref a) ⟨h',g,dr,tk',os⟩
    obtain⟨t1,hoe⟩:=M.obj
    obtain⟨G,g1,g2⟩:=restrict h' fun b=>decide (b≠a)
    have ga: ∀b,b≠a→G.get? b=h'.get? b:=fun b hb=>g1 b (decide_eq_true hb)
    have gn:G.get? a=none:=g2 a (by simp)
    have old: ∀b o,u.get? b=some o→G.get? b=some o:=fun b o z=>
      (ga b (Nat.ne_of_lt (Nat.lt_of_lt_of_le (Heap.lt_size z) M.new))).trans (M.keep b o z)
    have ob:ObjOk X.prog X.w (upd H1 d (.xd ((fs.zip ws).reverse++ [(f,v)]))) G d (.xd ((fs.zip ws).reverse++ [(f,v)])):=
      ⟨_,M.ns.at (fun o z=>(ga d M.dne).trans z),rel v u0 ws ur rv rw hl⟩
    have J:Inv X pins σ (upd H1 d (.xd ((fs.zip ws).reverse++ [(f,v)]))) ⟨G,g,dr,tk',os⟩:=I1.laid (t':=tk') old M.dbig ob
    refine⟨a,_,_,⟨G,g,dr,tk',os⟩,_,.ref C,some d,rfl,J,fun b o z=> ?_,gn,hoe,⟨rfl,rfl⟩,rfl,rfl,?_,rfl,I1.bare,
      raises_own T.eC T.tC,q1 d (I1.hok.fresh M.dbig)⟩
    · by_cases hb:b=a
      · subst hb
        have z':G.get? b=some o:=z
        rw[gn] at z'
        cases z'
      · exact (ga b hb).symm.trans z
    · rw[upd_ne (Ne.symm M.dne)]
      exact I1.hok.fresh M.new
theorem ps_err {e:Expr} {es:List Expr} {ta:TA} {W:WX} {p pos pos2:Pos} {k:Nat} (hc:X.calm=true)
    (T:ErrT X.K X.mg nm base B newId initId tl f fs C D fI st) (rel:ErRel f fs) (hr:Room (k+1) X.A) (tk:Takes X W)
    (ha:PA X (e::es) ta) (hg:Gl X nm) (hdb:(nm == ("__debug__" :Str))=false:=by decide)
    (he:starEach (e::es) X.env=(false,eval e X.env)::starEach es X.env:=by rfl)
    (hpl:(backTo pos (starEach es X.env)).any (·.1)=false:=by rfl):
    PS X (.Raise (some (.Call (.Name nm p) (e::es) [] pos)) none pos2) (fun _ σ H=>tErr C f fs ta σ H fun cls d H'=>W cls d σ H'):=
  ps_raise hc tk (pmk_err T rel hr ha hg hdb he hpl)
end

structure ErrQ (K:Frag) (C:Addr):Prop where
  ga:findIn K (.ref C) "__getattribute__" =some (some (.builtin "BaseException.__getattribute__"))
  gg:findIn K (.ref C) "__getattr__" =some none
  eC:subIn K (.ref C) (.type "BaseException")=some true
  hd:hasDictIn K C=true
  ic:isClsIn K C=true
  tC:typeIn K (.ref C)=some (.type "type")
  ca:findIn K (.ref C) "__class__" =some (some (.builtin "object.__class__"))
  ob:mroIn K C (.type "object")=some true
  me:subIn K (.ref C) (.ref C)=some true
structure ClsQ (K:Frag):Prop where
  get:specialIn K (.builtin "object.__class__") "__get__" =some (some (.builtin "getset_descriptor.__get__"))
  tk:takesIn K (.builtin "object.__class__")=some true
theorem ErrQ.xf {K:Frag} {C:Addr} (q:ErrQ K C):XfC K C:=⟨q.ga,q.gg,q.eC,q.hd⟩
theorem ErrQ.exm {K:Frag} {C C':Addr} {b:Bool} (q:ErrQ K C') (h:subIn K (.ref C) (.ref C')=some b):exmOne K (.ref C) (.ref C')=some b:=by
  have e1:(subIn K (.ref C') (.type "BaseException") == some true)=true:=by rw[q.eC] <;> rfl
  have ic:(clsIn K C').isSome=true:=q.ic
  have e2:((clsIn K C').isSome && typeIn K (.ref C') == some (.type "type"))=true:=by rw[ic,q.tC] <;> rfl
  show (if _ then (if _ then subIn K (.ref C) (.ref C') else none) else none)=some b
  rw[if_pos e1,if_pos e2]
  exact h
theorem ErrQ.kit {K:Frag} {C C':Addr} {b:Bool} (q:ErrQ K C') (h:subIn K (.ref C) (.ref C')=some b):kitOne K (.ref C) (.ref C')=some b:=by
  have ic:(clsIn K C').isSome=true:=q.ic
  have e2:((clsIn K C').isSome && typeIn K (.ref C') == some (.type "type"))=true:=by rw[ic,q.tC] <;> rfl
  unfold kitOne
  by_cases c:((Value.ref C == Value.ref C')=true)
  · have e:C=C':=Value.ref.inj (beq_iff_eq.mp c)
    subst e
    rw[q.me] at h
    rw[if_pos c]
    exact h
  · rw[if_neg c]
    show (if _ then subIn K (.ref C) (.ref C') else none)=some b
    rw[if_pos e2]
    exact h
theorem kit_bt {K:Frag} {C:Addr} {T:String} {b:Bool} (hm:kitMeta T=true) (h:subIn K (.ref C) (.type T)=some b):kitOne K (.ref C) (.type T)=some b:=by
  unfold kitOne
  rw[if_neg (by simp)]
  show (if _ then subIn K (.ref C) (.type T) else none)=some b
  rw[if_pos hm]
  exact h
def rIsErr (K:Frag) (a:Addr) (cls:Value) (d:Option Addr):List V→Hp→VK→Prop:=fun xs H Q=> ∃(C:Addr) (c:V) (b:Bool) (dd:Addr) (fs:List (Str×V)),
  xs= [.ref a,c]∧cls= .ref C∧d=some dd∧H dd=some (.xd fs)∧ErrQ K C∧ClsQ K∧
  ((∃u,ClsV c u∧kitOne K (.ref C) u=some b)∨ ∃tp cs us,c= .ref tp∧H tp=some (.tup cs)∧Paired ClsV cs us∧kitAny K (.ref C) us=some b)∧Q (.bl b) H
section
variable {X : Cx} {a : Addr} {oe : Obj} {cls : Value} {d : Option Addr} {pn : List (Addr × Obj)}
theorem inst_err {pins:List (Addr×Obj)} {σ:L2.St} {H:Hp} {s:Shared} {C:Addr} (I:Inv (X.suite a ((a,oe)::pn)) pins σ H s)
    (hz:Zc (.ref C) d oe) (hf: ∃vs,oe.data= .fields vs) (dd:Addr) (ed:d=some dd) (fs:List (Str×V)) (h:H dd=some (.xd fs)):
    ∃od,InstAt s.heap a oe C (some od):=by
  subst ed
  obtain⟨ha,_⟩:=I.pin (a,oe) (List.mem_append_left _ List.mem_cons_self)
  obtain⟨vs,hv⟩:=hf
  have hx:ObjOk X.prog X.w H s.heap dd (.xd fs):=I.hok dd _ h
  obtain⟨mA,⟨od,_,_,ho,_⟩,_⟩:=hx
  exact⟨od,ha,hz.1,by unfold notCls;rw[hv] <;> rfl,by rw[hz.2];exact ho⟩
theorem call_isErr (hz:Zc cls d oe) (hf: ∃vs,oe.data= .fields vs):CallR (X.suite a ((a,oe)::pn)) (.builtin "isinstance") (rIsErr X.K a cls d):=by
  intro pins s σ H xs us Q I r h
  obtain⟨C,c,b,dd,fs,rfl,rfl,ed,eh,q,k,hc,hQ⟩:=h
  obtain⟨od,J⟩:=inst_err I hz hf dd ed fs eh
  obtain⟨u1,u2,rfl,r1,r2⟩:=vals2 r
  cases (show u1=Value.ref a from r1)
  have Z:=kitx_exc (K:=X.K) (x:=a) (ox:=oe) (od:=some od) (C:=C) q.ic q.ga q.gg q.eC q.ca k.get k.tk q.ob
  rcases hc with ⟨u,hu,e⟩ | ⟨tp,cs,ws,rfl,hT,hp,e⟩
  · have e2:=hu.eq r2
    subst e2
    exact kia_one Z I.kIn J e (fun z=>nomatch z) fun tk=>⟨.bl b,H,I.tok tk,rfl,hQ⟩
  · cases (show u2=Value.ref tp from r2)
    obtain⟨_,its,rv,o,h1,h2,n,h3⟩:=(show ObjOk X.prog X.w H s.heap tp (.tup cs) from I.hok tp _ hT)
    have e3:=ClsV.all hp rv
    subst e3
    obtain⟨oc,od',dt,sl⟩:=o
    simp only at h2 h3
    subst h2 h3
    exact kia_tup Z I.kIn J h1 e (fun z=>nomatch z) fun tk=>⟨.bl b,H,I.tok tk,rfl,hQ⟩
end
theorem bt_ValueError:bootBuiltins "ValueError" =some (.type "ValueError"):=by decide +kernel
theorem km_ValueError:kitMeta "ValueError" =true:=by decide +kernel
theorem kita_nil {K:Frag} {t:Value}:kitAny K t []=some false:=rfl
theorem kita_no {K:Frag} {t c:Value} {cs:List Value} {b:Bool} (h:kitOne K t c=some false) (hr:kitAny K t cs=some b):kitAny K t (c::cs)=some b:=by
  unfold kitAny
  rw[h]
  exact hr
theorem kita_yes {K:Frag} {t c:Value} {cs:List Value} (h:kitOne K t c=some true):kitAny K t (c::cs)=some true:=by
  unfold kitAny
  rw[h]

def CallS (X:Cx) (f:Value) (r:L2.St→List V→Hp→VK→Prop):Prop:=
  ∀(pins:List (Addr×Obj)) (s:Shared) (σ:L2.St) (H:Hp) (vs:List V) (us:List Value) (Q:VK),
    Inv X pins σ H s→Vals vs us→r σ vs H Q→wpAny (model X.prog X.w) X.A (call f us) (EP X pins σ Q) X.xe s
def CallKS (X:Cx) (f:Value) (ks:List Str) (r:L2.St→List V→List V→Hp→VK→Prop):Prop:=
  ∀(pins:List (Addr×Obj)) (s:Shared) (σ:L2.St) (H:Hp) (xs zs:List V) (us ws:List Value) (Q:VK),
    Inv X pins σ H s→Vals xs us→Vals zs ws→r σ xs zs H Q→
    wpAny (model X.prog X.w) X.A (call f us (ks.zip ws)) (EP X pins σ Q) X.xe s
def tCS (r:L2.St→List V→Hp→VK→Prop) (t:TA):TE:=fun σ H Q=>t σ H fun vs H1=>r σ vs H1 Q
def tCKS (r:L2.St→List V→List V→Hp→VK→Prop) (t tk:TA):TE:=fun σ H Q=>t σ H fun vs H1=>tk σ H1 fun zs H2=>r σ vs zs H2 Q
section
variable {X : Cx} {k : Nat} {f : Addr} {fd : FuncData} {ps ks : List Str} {sp : Sp} {dvs : List V} {ds : List Value} {W : WX}
theorem FnG.atS (F:FnG X.prog X.w X.K X.mg X.base k f fd ps sp) (hg:GOk X) (hr:Room k X.A)
    (hb:Binds X.K fd ps ds) (hd:Vals dvs ds) (tk:Takes X W):
    CallS X (.ref f) (fun σ vs H Q=>sp (vs++dvs) H Q (fun cls d H=>W cls d σ H)):=by
  intro pins s σ H vs us Q I rv h
  have r2:Vals (vs++dvs) (us++ds):=rv.append hd
  have hl:(us++ds).length=ps.length:=by rw[← r2.length];exact F.len _ _ _ _ h
  refine wpAny_call (codeAny_mono (F.run X.A X.stack s H ⟨us,[]⟩ (us++ds) (vs++dvs) Q _ hg hr I.env0
    (hb s us I.kIn hl) r2 h) fun r s' hq=> ?_)
  match r,hq with
  | .error e,hq=>exact tk e s' (XE.of_call I (fun _ _ _ h=>h) hq)
  | .ok (.ret u),hq=>exact I.after hq
  | .ok .next,hq=>exact hq.elim
  | .ok .brk,hq=>exact hq.elim
  | .ok .cont,hq=>exact hq.elim
theorem FnG.atKS {g:List Value→List Value→List Value} {gV:List V→List V→List V}
    (F:FnG X.prog X.w X.K X.mg X.base k f fd ps sp) (hg:GOk X) (hr:Room k X.A)
    (hb:KBinds X.K fd ps ks g gV) (tk:Takes X W):
    CallKS X (.ref f) ks (fun σ vs zs H Q=>sp (gV vs zs) H Q (fun cls d H=>W cls d σ H)):=by
  intro pins s σ H vs zs us ws Q I rv rz h
  have r2:=hb.rel rv rz
  have hl:(g us ws).length=ps.length:=by rw[← r2.length];exact F.len _ _ _ _ h
  refine wpAny_call (codeAny_mono (F.run X.A X.stack s H ⟨us,ks.zip ws⟩ (g us ws) (gV vs zs) Q _ hg hr I.env0
    (hb.to s us ws I.kIn hl) r2 h) fun r s' hq=> ?_)
  match r,hq with
  | .error e,hq=>exact tk e s' (XE.of_call I (fun _ _ _ h=>h) hq)
  | .ok (.ret u),hq=>exact I.after hq
  | .ok .next,hq=>exact hq.elim
  | .ok .brk,hq=>exact hq.elim
  | .ok .cont,hq=>exact hq.elim
variable {x : Str} {p pos : Pos} {e : Expr} {es : List Expr} {kws : List Keyword} {t tk : TA}
    {r : L2.St → List V → Hp → VK → Prop} {rk : L2.St → List V → List V → Hp → VK → Prop}
theorem pe_fnS (c:CallS X (.ref f) r) (hg:Gl X x) (hm:X.mg x=some (.ref f)) (hk:keepIn X.K (.ref f)=true)
    (ha:PA X (e::es) t) (hdb:(x == ("__debug__" :Str))=false:=by decide)
    (he:starEach (e::es) X.env=(false,eval e X.env)::starEach es X.env:=by rfl)
    (hpl:(backTo pos (starEach es X.env)).any (·.1)=false:=by rfl):PE X (.Call (.Name x p) (e::es) [] pos) (tCS r t):=by
  refine⟨fun pins s σ H Q I h=>wpAny_Call_Name_kw (ld_glob I hg hm ?_ hdb)⟩
  refine callWith_K (h₀:=X.base) I.ok.mod.kin hk (thn (ha.run pos pins s σ H _ I h) fun us s1 hh=> ?_) he hpl
  obtain⟨vs,H1,I1,rv,q⟩:=hh
  exact⟨I1.kIn,c pins s1 σ H1 vs us Q I1 rv q⟩
theorem pe_fnKS (c:CallKS X (.ref f) ks rk) (hg:Gl X x) (hm:X.mg x=some (.ref f)) (hk:keepIn X.K (.ref f)=true)
    (ha:PA X (e::es) t) (hkw:PK X kws tk) (hall:(backToKw pos (keywordEach kws X.env)).all (·.1.isSome)=true:=by rfl)
    (hks:(backToKw pos (keywordEach kws X.env)).filterMap (·.1)=ks:=by rfl) (hdb:(x == ("__debug__" :Str))=false:=by decide)
    (he:starEach (e::es) X.env=(false,eval e X.env)::starEach es X.env:=by rfl)
    (hpl:((backTo pos (starEach (e::es) X.env)).any (·.1) || (backToKw pos (keywordEach kws X.env)).any (·.1.isNone))=false:=by rfl):
    PE X (.Call (.Name x p) (e::es) kws pos) (tCKS rk t tk):=by
  refine⟨fun pins s σ H Q I h=>wpAny_Call_Name_kw (ld_glob I hg hm ?_ hdb)⟩
  refine callWith_KW (h₀:=X.base) I.ok.mod.kin hk hall (thn (ha.run pos pins s σ H _ I h) fun us s1 hh=> ?_) hpl he
  obtain⟨vs,H1,I1,rv,q⟩:=hh
  refine thn (hkw.run pos pins s1 σ H1 _ I1 q) fun ws s2 hh2=> ?_
  obtain⟨zs,H2,I2,rz,q2⟩:=hh2
  refine⟨I2.kIn,?_⟩
  rw[hks]
  exact c pins s2 σ H2 vs zs us ws Q I2 rv rz q2
end
section
variable {σ : L2.St} {H : Hp} {Q : VK} {tr tk : TA}
theorem s_cs {r:L2.St→List V→Hp→VK→Prop} (q:tr σ H fun vs H1=>r σ vs H1 Q):tCS r tr σ H Q:=q
theorem s_cks {r:L2.St→List V→List V→Hp→VK→Prop} (q:tr σ H fun vs H1=>tk σ H1 fun zs H2=>r σ vs zs H2 Q):tCKS r tr tk σ H Q:=q
end

theorem funD_of {K:Frag} {x qual:Str} {st:Stmt} {f D:Addr} {oc:Value} {od an:Option Addr} {osl:Array (Option Value)} {doc pm cdv ct:Value} {kws:List (Str×V)}
    (l:K.lookup f=some ⟨oc,od,.func (fnOf x qual (defArgs st) (defBody st) (defScope st) .none (.ref D) doc pm an cdv ct),osl⟩)
    (c:codeIn K cdv qual=true) (k:keepIn K (.ref f)=true) (hk: ∀q∈kws,∃u,nsIn K D q.1=some (some u)∧RelV q.2 u):
    FunD K x qual (defArgs st) (defBody st) (defScope st) [] kws f (fnOf x qual (defArgs st) (defBody st) (defScope st) .none (.ref D) doc pm an cdv ct):=
  ⟨⟨oc,od,.none,.ref D,doc,pm,an,cdv,ct,osl,rfl,l,c,.inl ⟨rfl,rfl⟩,.inr ⟨D,rfl,hk⟩⟩,k⟩
end PC

set_option Elab.async false
set_option linter.all false
set_option maxRecDepth 100000
set_option maxHeartbeats 2000000
namespace PC
open PySem PySem.Spec PyProof.Rows L2

section
variable {prog : Program} {w : World} {A : Around} {E : Value → Shared → Prop} {s : Shared}
theorem collect_tup {l:Addr} {vs:List Value} {Q:List Value→Shared→Prop} (ht:s.heap.IsTuple l vs.toArray) (few:vs.length≤sizeLine)
    (q:Q vs { s with heap:=(s.heap.push (seqObj "list" #[] 0)).update s.heap.objs.size (Obj.mapSeq (· ++vs.toArray)) }):
    wpAny (model prog w) A (collect (.ref l)) Q E s:=by
  obtain⟨o,ho,hc,n,hd⟩:=id ht
  unfold collect
  refine wpAny_bind (wpAny_runValue (codeAny_builtin entry_proto_collect' ?_))
  show wpAny _ _ (do again (.builtin "list.__iadd__" ⟨[← newList [],.ref l],[]⟩)) _ _ s
  refine wpAny_bind (wpAny_newList
    (wpAny_pure ⟨Code.quiet_builtin _ (by decide +kernel),codeAny_builtin entry_list_iadd' ?_⟩))
  show wpAny _ _ (Builtin.List.listExtendWith _ _ _) _ _ { s with heap:=s.heap.push (seqObj "list" #[] 0) }
  unfold Builtin.List.listExtendWith
  have ho2:(s.heap.push (seqObj "list" #[] 0)).get? l=some o:=Heap.get?_push_of_some _ ho
  refine wpAny_bind (wpAny_typeOf (T:= "tuple") ⟨o,ho2,hc⟩ ?_)
  have yes:(Value.type "tuple" == Value.type "tuple")=true:=by rfl
  rw[if_pos (by rw[yes];simp)]
  refine wpAny_bind (listItems_at ho2 hd ?_)
  refine wpAny_bind (listItems_at (n:=0) (xs:= #[]) (Heap.get?_push_size _ rfl) rfl ?_)
  rw[if_neg (by simp)]
  have few2:((#[]:Array Value)++vs.toArray).size≤sizeLine+1:=by
    simp only[Array.size_append,List.size_toArray,List.length_nil]
    omega
  refine wpAny_bind (listUpdate_at (n:=0) (xs:= #[]) (Heap.get?_push_size _ rfl) rfl ?_ (Nat.zero_le _) few2)
  refine wpAny_pure ?_
  refine wpAny_bind (wpAny_load (get?_update_seq (Heap.get?_push_size _ rfl) _) ?_)
  show wpAny _ _ (pure ((#[]:Array Value)++vs.toArray).toList) Q E _
  rw[show ((#[]:Array Value)++vs.toArray).toList=vs by simp]
  exact wpAny_pure q
theorem sorted_tup {l:Addr} {vs:List Value} {ltv:Value→Value→Bool} {Q:Value→Shared→Prop} (O:SrtO.Swo ltv)
    (ht:s.heap.IsTuple l vs.toArray) (few:vs.length≤sizeLine)
    (hS:2≤vs.length→ ∀(u:Heap) (a:Addr),SrtO.SortableO prog w A.in1.in1 { s with heap:=u } a vs ltv)
    (q: ∀out:List Value,SrtO.Srtd ltv out→SrtO.Stb ltv out vs→
      Q (.ref (s.heap.objs.size+1)) { s with heap:=sortedAll s.heap vs out.toArray }):
    wpAny (model prog w) A (call (.builtin "sorted") [.ref l]) Q E s:=by
  refine Calls.call_function_entry kind_sorted plain_sorted entry_sorted (args_sorted1 _) ?_
  unfold Builtin.«sorted»
  refine wpAny_bind (m:=checkCount "sorted" 1 1 _) (wpAny_pure ?_)
  refine wpAny_bind (collect_tup ht few (wpAny_bind (wpAny_newList ?_ few)))
  have one:((s.heap.push (seqObj "list" #[] 0)).update s.heap.objs.size (Obj.mapSeq (· ++vs.toArray))).objs.size=s.heap.objs.size+1:=by
    rw[Heap.size_update]
    exact Heap.size_push ..
  have new:(((s.heap.push (seqObj "list" #[] 0)).update s.heap.objs.size (Obj.mapSeq (· ++vs.toArray))).push
      (seqObj "list" vs.toArray 0)).get? (s.heap.objs.size+1)=some (seqObj "list" vs.toArray 0):=by
    rw[← one]
    exact Heap.get?_push_size _ rfl
  show wpAny _ _ _ _ _ { s with heap:=((s.heap.push (seqObj "list" #[] 0)).update s.heap.objs.size
    (Obj.mapSeq (· ++vs.toArray))).push (seqObj "list" vs.toArray 0) }
  rw[one]
  refine wpAny_bind (wpAny_holding (wpAny_call_entry slot_list_sort ⟨_,new,rfl⟩ entry_list_sort
    (SrtO.list_sort_ord O new few (fun h2=>hS h2 _ _) fun out hs hb=>⟨_,rfl,wpAny_pure ⟨_,rfl,q out hs hb⟩⟩) (args_list_sort _)))
end
def rSorted (K:PySem.W.Frag):List V→Hp→VK→Prop:=fun vs H Q=> ∃(a:Addr) (ns:List Int),vs= [V.ref a]∧
  (SqL K H a (ns.map V.int)∨SqT K H a (ns.map V.int))∧
  ∀(ms:List Int) (p:Addr),ms.Perm ns→ms.Pairwise (· ≤ ·)→H p=none→Q (.ref p) (upd H p (.lst (ms.map V.int)))
section
variable {X : Cx} {K : PySem.W.Frag}
theorem cr_sortedT {pins:List (Addr×Obj)} {σ:L2.St} {H:Hp} {s:Shared} {a:Addr} {ns:List Int} {Q:VK} (I:Inv X pins σ H s)
    (hs:SqT X.K H a (ns.map V.int))
    (q: ∀(ms:List Int) (p:Addr),ms.Perm ns→ms.Pairwise (· ≤ ·)→H p=none→Q (.ref p) (upd H p (.lst (ms.map V.int)))):
    wpAny (model X.prog X.w) X.A (call (.builtin "sorted") [.ref a]) (EP X pins σ Q) X.xe s:=by
  obtain⟨its,rv,hl,hz⟩:=I.tuple hs
  have hi:=rv.ints
  refine sorted_tup SrtO.swo_int (show s.heap.IsTuple a its.toArray from hl) (by rw[← rv.length];exact hz)
    (fun h2 u b=>SrtO.ints_sortable hi h2) fun out h1 h2=> ?_
  obtain⟨k1,k2,k3⟩:=SrtO.ints_out hi h1 h2
  obtain⟨ep,e⟩:=sortedAll_at s.heap its out.toArray
  have few:((out.map SrtO.iv).map V.int).length≤sizeLine:=by
    rw[List.length_map,k2.length_eq]
    simpa using hz
  have big:s.heap.objs.size≤s.heap.objs.size+1:=Nat.le_succ _
  exact⟨.ref _,upd H (s.heap.objs.size+1) (.lst ((out.map SrtO.iv).map V.int)),
    I.laid (t':=s.toks) (fun _ _=>sortedAll_old) big ⟨few,out,ep,vals_of_ints k1,e⟩,rfl,q _ _ k2 k3 (I.hok.fresh big)⟩
theorem call_sortedA:CallR X (.builtin "sorted") (rSorted X.K):=by
  intro pins s σ H vs us Q I r h
  obtain⟨a,ns,rfl,hs | hs,q⟩:=h
  · exact cr_sortedI pins s σ H _ us Q I r ⟨a,ns,rfl,hs,q⟩
  · rw[Vals.ref1 r]
    exact cr_sortedT I hs q
theorem kx_sorted (h:X.K=K):CallR X (.builtin "sorted") (rSorted K):=by subst h;exact call_sortedA
end

theorem Draws.tup {prog:Program} {w:World} {A:Around} (hh:A.handled=none) (it l:Addr) (hne:l≠it) (xs:Array Value):
    Draws prog w A it [it,l] xs.size (fun i v=>xs[i]?=some v) (fun i h=>h.IsTupleIter it l i∧h.IsTuple l xs) where
  live:=fun _ _ st=>let ⟨o,ho,_⟩:=st.1;⟨o,ho⟩
  frame:=fun _ _ _ st hk=>⟨st.1.at fun o e=>hk it (by simp) o e,let ⟨o,e,q⟩:=st.2;⟨o,hk l (by simp) o e,q⟩⟩
  item:=fun i s Q E hi st hQ=>by
    refine RZ.nextOf_tuple_item st.1 st.2 (x:=xs[i]) (by simp[hi]) fun h' hit hs=> ?_
    obtain⟨o,e,q⟩:=st.2
    exact hQ _ h' s.toks (by simp[hi]) ⟨hit,o,(hs.2 l hne).trans e,q⟩ hs
  done:=fun s Q E st hE=>RZ.nextOf_tuple_end hh st.1 st.2 (by simp) hE
section
open AutoSeq1 (wpAny_loadPart')
end
section
variable {prog : Program} {w : World} {A : Around} {E : Value → Shared → Prop} {s : Shared}
end
section
variable {prog : Program} {w : World} {A : Around} {E : Value → Shared → Prop} {s : Shared}
end
section
variable {K : PySem.W.Frag} {a b : Addr} {xs ys : List V}
end
def iOr (w1 w2:TI):TI:=fun σ H R=>w1 σ H R∨w2 σ H R
theorem PI.or {X:Cx} {tg e:Expr} {w1 w2:TI} (h1:PI X tg e w1) (h2:PI X tg e w2):PI X tg e (iOr w1 w2):=
  ⟨fun pins s σ H R I h=>h.elim (h1.run pins s σ H R I) (h2.run pins s σ H R I)⟩
theorem pi_seq {X:Cx} {K:PySem.W.Frag} {tg e:Expr} {te:TE} (hK:X.K=K) (he:PE X e te):PI X tg e (iOr (iList K te) (iTup K te)):=by
  subst hK
  exact PI.or (pi_list he) (pi_tup he)
theorem pi_listK {X:Cx} {K:PySem.W.Frag} {tg e:Expr} {te:TE} (hK:X.K=K) (he:PE X e te):PI X tg e (iList K te):=by subst hK;exact pi_list he
theorem pi_tupK {X:Cx} {K:PySem.W.Frag} {tg e:Expr} {te:TE} (hK:X.K=K) (he:PE X e te):PI X tg e (iTup K te):=by subst hK;exact pi_tup he
theorem pi_zipK {X:Cx} {K:PySem.W.Frag} {e e2:Expr} {ta:TA} {p pos tpos:Pos} {elts:List Expr} {kk:Nat} (hK:X.K=K) (hg:Gl X "zip") (hm:X.mg "zip" =none) (ha:PA X [e,e2] ta)
    (hs:starEach [e,e2] X.env=(false,eval e X.env)::starEach [e2] X.env:=by rfl) (hpl:(backTo pos (starEach [e2] X.env)).any (·.1)=false:=by rfl):
    PI X (.Tuple elts kk tpos) (.Call (.Name "zip" p) [e,e2] [] pos) (RZ.iZipA K ta):=by
  subst hK
  exact RZ.pi_zipA hg hm ha hs hpl
theorem pg_tupK {X:Cx} {K:PySem.W.Frag} {pos:Pos} {es:List Expr} {k:Nat} {t:TGs} {n:Nat} (hK:X.K=K) (hc:X.calm=true) (h:PGs X es t)
    (hn:(assignEach es X.env).length=n:=by rfl) (hst:(assignEach es X.env).findIdx? (·.1)=none:=by rfl):PG X (.Tuple es k pos) (gTup K n t):=by
  subst hK
  exact pg_tup hc h hn hst
end PC

set_option Elab.async false
set_option linter.all false
set_option maxRecDepth 100000
set_option maxHeartbeats 2000000
namespace PC
open PySem PySem.Spec PyProof.Rows L2

section
variable {X : Cx} {K : PySem.W.Frag} {o e : Expr} {es : List Expr} {to : TE} {t : TA} {name : Str} {apos cpos : Pos} {T id : String} {r : V → List V → Hp → VK → Prop}
end
section
variable {σ : L2.St} {H : Hp} {Q : VK} {D : Ends} {K : PySem.W.Frag} {p a : Addr} {Z : List Addr} {x v : V} {d : PyData} {xs : List V} {to te : TE} {t : TA} {T : String} {r : V → List V → Hp → VK → Prop}
theorem s_bm (q:to σ H fun x H1=>tyV K T x H1∧t σ H1 fun xs H2=>r x xs H2 Q):tBM K T r to t σ H Q:=q
theorem s_bm0 (q:to σ H fun x H1=>tyV K T x H1∧r x [] H1 Q):tBM0 K T r to σ H Q:=q
theorem s_isiLT (hx:Dat K Z H d x) (hT:H a=some (.tup [.ty "list",.ty "tuple"])) (q:Q (.bl (isD d "list" || isD d "tuple")) H):rIsiT K [x,.ref a] H Q:=by
  refine⟨x,a,_,_,[.type "list",.type "tuple"],_,rfl,hT,.cons (.ty _) (.cons (.ty _) .nil),hx.ty,?_,q⟩
  have k1:=kit_ty (K:=K) (kit_isD d (T:= "list") (by simp))
  have k2:=kit_ty (K:=K) (kit_isD d (T:= "tuple") (by simp))
  unfold PySem.W.kitAny
  rw[k1]
  cases isD d "list" with
  | true=>rfl
  | false=>
    show PySem.W.kitAny K _ _=_
    unfold PySem.W.kitAny
    rw[k2]
    cases isD d "tuple" <;> rfl
theorem s_iZip {ta:TA} {RI:It→Hp→Prop} (q:ta σ H fun vs H1=> ∃a b xs ys,vs= [.ref a,.ref b]∧((SqL K H1 a xs∧SqL K H1 b ys∧RI (Itz K a b) H1)∨(SqT K H1 a xs∧SqT K H1 b ys∧RI (RZ.ItzT K a b) H1))):RZ.iZipA K ta σ H RI:=q
theorem s_lstRg {tr:L2.St→Hp→(Int→Int→Hp→Prop)→Prop} (q:tr σ H fun a b H1=>RgOk a b∧ ∀q,H1 q=none→Q (.ref q) (upd H1 q (.lst (rgV a b)))):tLstRg tr σ H Q:=q
theorem s_rg1 {ta:TE} {QR:Int→Int→Hp→Prop} (q:ta σ H fun x H1=> ∃n,x= .int n∧QR 0 n H1):tRg1 ta σ H QR:=q
theorem s_rg2 {ta tb:TE} {QR:Int→Int→Hp→Prop} (q:ta σ H fun x H1=>tb σ H1 fun y H2=> ∃i j,x= .int i∧y= .int j∧QR i j H2):tRg2 ta tb σ H QR:=q
theorem s_raise {C:Addr} {f:Str} {fs:List Str} {ta:TA} {QX:XK} (q:ta σ H fun vs H1=> ∃v ws,vs=v::ws∧ws.length=fs.length∧
    ∀d,H1 d=none→QX (.ref C) (some d) (upd H1 d (.xd ((fs.zip ws).reverse++ [(f,v)])))):tErr C f fs ta σ H QX:=q
theorem s_xf {cls:Value} {dd:Option Addr} {C:Addr} {f:Str} (q:te σ H fun x H1=>x= .ref a∧cls= .ref C∧
    ∃(b:Addr) (fs:List (Str×V)) (v:V),dd=some b∧H1 b=some (.xd fs)∧fs.lookup f=some v∧Q v H1):tXf a cls dd C f te σ H Q:=q
end

def seqD:PyData→Option (List PyData)
  | .list ds=>some ds
  | .tuple ds=>some ds
  | _=>none
section
variable {σ : L2.St} {H : Hp} {Q : VK} {K : PySem.W.Frag} {p a : Addr} {Z : List Addr} {x v : V} {d : PyData} {ds : List PyData} {xs : List V} {RI : It → Hp → Prop}
theorem Dat.seq (h:Dat K Z H d x) (hs:seqD d=some ds): ∃a xs,x= .ref a∧DatL K Z H ds xs∧
    ((SqL K H a xs∧ ∀p H',p∈Z→R p H H'→SqL K H' a xs)∨(SqT K H a xs∧ ∀p H',p∈Z→R p H H'→SqT K H' a xs)):=by
  cases d with
  | list es=>
    cases hs
    simp only[Dat] at h
    obtain⟨a,xs,e,n,s,l⟩:=h
    exact⟨a,xs,e,l,.inl ⟨.inl s,fun p H' hp r=>SqL.up r (fun z=>n (z ▸ hp)) (.inl s)⟩⟩
  | tuple es=>
    cases hs
    simp only[Dat] at h
    obtain⟨a,xs,e,n,s,l⟩:=h
    exact⟨a,xs,e,l,.inr ⟨s,fun p H' hp r=>SqT.up r hp n s⟩⟩
  | _=>cases hs
end

section
variable {J : It} {n : Nat} {G : Hp → Prop} {Y : Nat → Hp → V → Hp → Prop} {K : PySem.W.Frag} {p : Addr} {Z : List Addr} {H : Hp} {Q : VK}
theorem flat_ints (ns:List Int):(ns.map V.int).all flatV=true:=by
  rw[List.all_map,List.all_eq_true]
  exact fun _ _=>rfl
theorem inV_ints (n:Int): ∀ns:List Int,inV (.int n) (ns.map V.int)=decide (n∈ns)
  | []=>rfl
  | m::ns=>by
    have ih:=inV_ints n ns
    unfold inV at ih ⊢
    rw[List.map_cons,List.any_cons,ih]
    have e:eqV (.int m) (.int n)=decide (n=m):=by
      show (m == n)=_
      rw[Bool.eq_iff_iff,beq_iff_eq,decide_eq_true_eq]
      exact eq_comm
    rw[e]
    simp
end
structure Mix (p L D:Addr) (xs:List V) (H H':Hp) (i:Nat):Prop where
  step:R p H H'
  ex: ∃left acc,H' L=some (.lst left)∧H' D=some (.lst acc)∧acc.length=i∧left.length+i=xs.length∧(acc++left).Perm xs
end PC

set_option Elab.async false
set_option linter.all false
set_option maxRecDepth 100000
set_option maxHeartbeats 2000000
namespace PC
open PySem PySem.Spec PyProof.Rows L2

theorem under_guards {K:PySem.W.Frag} {base:Heap} {A:Around} {C:Addr} {us:List Value} {kw:List (Str×Value)} (hg:GOkA K A base):
    GOkA K (A.under (.builtin "type.__call__" ⟨.ref C::us,kw⟩)) base:=by
  obtain⟨gs,e,h⟩:=hg
  refine⟨gs,?_,h⟩
  first
  | exact e
  | simp[Around.under,Code.weight,Code.isCreation,Code.isGuard,Code.isCaller,Code.frames,Code.isFrame,guardIds,e]

section
variable {X : Cx} {k : Nat} {f C : Addr} {fd : FuncData} {ps ks : List Str} {sp : Sp} {dvs : List V} {ds : List Value} {W : WX}
def OutP (X:Cx) (pins:List (Addr×Obj)) (σ:L2.St) (Q:VK):Result→Shared→Prop
  | .ok (.ret v),s'=>EP X pins σ Q v s'
  | .ok _,_=>False
  | .error e,s'=>X.xe e s'
theorem out_of {pins:List (Addr×Obj)} {σ:L2.St} {H:Hp} {s:Shared} {Q:VK} (I:Inv X pins σ H s) (tk:Takes X W) {r:Result} {s':Shared}
    (hq:CR (L2.CX X.prog X.w) X.stack X.prog X.w H s Q (fun cls d H=>W cls d σ H) r s'):
    OutP X pins σ Q r s':=by
  match r,hq with
  | .error e,hq=>exact tk e s' (XE.of_call I (fun _ _ _ h=>h) hq)
  | .ok (.ret u),hq=>exact I.after hq
  | .ok .next,hq=>exact hq.elim
  | .ok .brk,hq=>exact hq.elim
  | .ok .cont,hq=>exact hq.elim
def mkSp (C:Addr) (sp:Sp) (dvs:List V) (W:WX):L2.St→List V→Hp→VK→Prop:=fun σ vs H Q=> ∀x dx,H x=none→H dx=none→dx≠x→
  sp (.ref x::(vs++dvs)) (upd (upd H dx (.own x)) x (.ins C dx [])) (fun v H2=>v= .non∧Q (.ref x) H2) (fun cls d H=>W cls d σ H)
theorem FnG.make (F:FnG X.prog X.w X.K X.mg X.base k f fd ps sp) (M:Mk X.K C f) (hg:GOk X) (hr:Room (k+1) X.A)
    (hb:Binds X.K fd ps ds) (hd:Vals dvs ds) (tk:Takes X W):CallS X (.ref C) (mkSp C sp dvs W):=by
  intro pins s σ H vs us Q I r h
  have hq:=h (s.heap.objs.size+1) s.heap.objs.size (I.hok.fresh (Nat.le_succ _)) (I.hok.fresh (Nat.le_refl _)) (Nat.ne_of_lt (Nat.lt_succ_self _))
  have I2:=Inv.made (C:=C) I
  have r2:Vals (V.ref (s.heap.objs.size+1)::(vs++dvs)) (Value.ref (s.heap.objs.size+1)::(us++ds)):= .cons rfl (r.append hd)
  have hl:(Value.ref (s.heap.objs.size+1)::us++ds).length=ps.length:=by
    have e:=r2.length
    rw[F.len _ _ _ _ hq] at e
    exact e.symm
  refine wpAny_call (make_map (f:=f) I.kIn M.makes M.init (beq_iff_eq.mp M.fn) (codeAny_mono
    (F.run _ X.stack _ _ ⟨Value.ref (s.heap.objs.size+1)::us,[]⟩ _ _ _ _ (under_guards hg) (hr.make C us []) (I2.env0.make C us [])
      (hb _ (Value.ref (s.heap.objs.size+1)::us) I2.kIn hl) r2 hq) fun r s' hq'=> ?_))
  have o:=out_of I2 tk hq'
  clear hq'
  match r,o with
  | .error e,o=>exact o
  | .ok (.ret u),o=>
    obtain⟨v,H',I3,rv,ev,q3⟩:=o
    subst ev
    exact⟨rv,⟨V.ref (s.heap.objs.size+1),H',I3,rfl,q3⟩⟩
  | .ok .next,o=>exact o.elim
  | .ok .brk,o=>exact o.elim
  | .ok .cont,o=>exact o.elim
def mkSpK (C:Addr) (sp:Sp) (gV:List V→List V→List V) (W:WX):L2.St→List V→List V→Hp→VK→Prop:=fun σ vs zs H Q=> ∀x dx,H x=none→H dx=none→dx≠x→
  sp (gV (.ref x::vs) zs) (upd (upd H dx (.own x)) x (.ins C dx [])) (fun v H2=>v= .non∧Q (.ref x) H2) (fun cls d H=>W cls d σ H)
theorem FnG.makeK {g:List Value→List Value→List Value} {gV:List V→List V→List V}
    (F:FnG X.prog X.w X.K X.mg X.base k f fd ps sp) (M:Mk X.K C f) (hg:GOk X) (hr:Room (k+1) X.A)
    (hb:KBinds X.K fd ps ks g gV) (tk:Takes X W):CallKS X (.ref C) ks (mkSpK C sp gV W):=by
  intro pins s σ H vs zs us ws Q I r rz h
  have hq:=h (s.heap.objs.size+1) s.heap.objs.size (I.hok.fresh (Nat.le_succ _)) (I.hok.fresh (Nat.le_refl _)) (Nat.ne_of_lt (Nat.lt_succ_self _))
  have I2:=Inv.made (C:=C) I
  have r2:=hb.rel (vs:= .ref (s.heap.objs.size+1)::vs) (us:= .ref (s.heap.objs.size+1)::us) (.cons rfl r) rz
  have hl:(g (Value.ref (s.heap.objs.size+1)::us) ws).length=ps.length:=by
    rw[← r2.length]
    exact F.len _ _ _ _ hq
  refine wpAny_call (make_map (f:=f) I.kIn M.makes M.init (beq_iff_eq.mp M.fn) (codeAny_mono
    (F.run _ X.stack _ _ ⟨Value.ref (s.heap.objs.size+1)::us,ks.zip ws⟩ _ _ _ _ (under_guards hg) (hr.make C us (ks.zip ws))
      (I2.env0.make C us (ks.zip ws)) (hb.to _ (Value.ref (s.heap.objs.size+1)::us) ws I2.kIn hl) r2 hq) fun r s' hq'=> ?_))
  have o:=out_of I2 tk hq'
  clear hq'
  match r,o with
  | .error e,o=>exact o
  | .ok (.ret u),o=>
    obtain⟨v,H',I3,rv,ev,q3⟩:=o
    subst ev
    exact⟨rv,⟨V.ref (s.heap.objs.size+1),H',I3,rfl,q3⟩⟩
  | .ok .next,o=>exact o.elim
  | .ok .brk,o=>exact o.elim
  | .ok .cont,o=>exact o.elim
variable {x m : Str} {p pos apos : Pos} {o e : Expr} {es : List Expr} {kws : List Keyword} {to : TE} {t tk : TA}
    {r : L2.St → List V → Hp → VK → Prop} {rk : L2.St → List V → List V → Hp → VK → Prop} {pl : Sem Bool}
def tMS (m:Str) (C:Addr) (r:L2.St→List V→Hp→VK→Prop) (to:TE) (t:TA):TE:=fun σ H Q=>to σ H fun x H1=>
  ∃a dx fs,x= .ref a∧H1 a=some (.ins C dx fs)∧fs.lookup m=none∧t σ H1 fun vs H2=>r σ (x::vs) H2 Q
def tMKS (m:Str) (C:Addr) (r:L2.St→List V→List V→Hp→VK→Prop) (to:TE) (t tk:TA):TE:=fun σ H Q=>to σ H fun x H1=>
  ∃a dx fs,x= .ref a∧H1 a=some (.ins C dx fs)∧fs.lookup m=none∧t σ H1 fun vs H2=>tk σ H2 fun zs H3=>r σ (x::vs) zs H3 Q
end

section
variable {X : Cx} {k : Nat} {f C : Addr} {fd : FuncData} {ps : List Str} {sp : Sp}
theorem inst_of {pins:List (Addr×Obj)} {σ:L2.St} {H:Hp} {s:Shared} {a C dx:Addr} {fs:List (Str×V)} (I:Inv X pins σ H s) (e:H a=some (.ins C dx fs)):
    ∃ox od,PySem.W.InstAt s.heap a ox C (some od):=by
  obtain⟨d,z,ne,ob,mA,⟨od,_,_,ho,_⟩,_⟩:=(show ObjOk X.prog X.w H s.heap a (.ins C dx fs) from I.hok a _ e)
  exact⟨_,od,ob,rfl,rfl,ho⟩
theorem FnG.own (F:FnG X.prog X.w X.K X.mg X.base k f fd ps sp) (hg:GOk X) {A:Around} (hgA:GOkA X.K A X.base) (hr:Room k A)
    (hb:Binds X.K fd ps []) {pins:List (Addr×Obj)} {σ:L2.St} {H:Hp} {s:Shared} {a:Addr} {Q:VK} (I:Inv X pins σ H s)
    (he:Env0 X.prog X.w X.K X.mg X.base A X.stack s H) (h:sp [.ref a] H Q E0):
    wpAny (model X.prog X.w) A (call (.ref f) [.ref a]) (EP X pins σ Q) X.xe s:=by
  have hl:([Value.ref a]++ []).length=ps.length:=by
    rw[F.len _ _ _ _ h |>.symm]
    rfl
  refine wpAny_call (codeAny_mono (F.run A X.stack s H ⟨[.ref a],[]⟩ [.ref a] [.ref a] Q E0 hgA hr he (hb s [.ref a] I.kIn hl) (.cons rfl .nil) h) fun r s' hq=> ?_)
  match r,hq with
  | .error e,hq=>exact passN pins σ H s e s' I hq
  | .ok (.ret u),hq=>exact I.after hq
  | .ok .next,hq=>exact hq.elim
  | .ok .brk,hq=>exact hq.elim
  | .ok .cont,hq=>exact hq.elim
def rStrI (C:Addr) (sp:Sp):List V→Hp→VK→Prop:=fun xs H Q=> ∃a dx fs,xs= [.ref a]∧H a=some (.ins C dx fs)∧
  sp [.ref a] H (fun v H'=> ∃z:Str,v= .str z∧Q (.str z) H') E0
theorem call_strI (F:FnG X.prog X.w X.K X.mg X.base k f fd ps sp) (hs:PySem.W.findIn X.K (.ref C) "__str__" =some (some (.ref f)))
    (hf:PySem.W.isFn X.K (.ref f)=true) (hg:GOk X) (hr:Room (k+2) X.A) (hb:Binds X.K fd ps []):CallR X (.type "str") (rStrI C sp):=by
  intro pins s σ H xs us Q I r h
  obtain⟨a,dx,fs,rfl,ea,h⟩:=h
  rw[Vals.ref1 r]
  obtain⟨ox,od,J⟩:=inst_of I ea
  refine PySem.W.kso_call hr.in1.in1.units0 I.kIn J hs hf (wpAny_mono (F.own hg (A:=X.A.in1.in1) hg hr.in1.in1 hb I I.env0.in1.in1 h) (fun v s' hv=> ?_) fun _ _ e=>e)
  obtain⟨v',H',I',rv,z,rfl,q⟩:=hv
  obtain⟨t,rfl⟩:=rv
  exact⟨.str z,H',I',⟨t,rfl⟩,q⟩
end

section
variable {X : Cx} {K : PySem.W.Frag} {f : Value} {ks : List Str}
theorem CallR.S {r:List V→Hp→VK→Prop} (c:CallR X f r):CallS X f (fun _=>r):=fun pins s σ H vs us Q I rv h=>c pins s σ H vs us Q I rv h
theorem CallKR.S {r:List V→List V→Hp→VK→Prop} (c:CallKR X f ks r):CallKS X f ks (fun _=>r):=
  fun pins s σ H vs zs us ws Q I rv rz h=>c pins s σ H vs zs us ws Q I rv rz h
variable {o e value : Expr} {g : Str} {pos pos' : Pos} {ta tv : TE}
theorem pe_fldK (hK:X.K=K) (he:PE X e ta) (hb:attributeBase e g X.env (eval e X.env)=eval e X.env:=by rfl):PE X (.Attribute e g pos) (tFld K ta g):=by
  subst hK
  exact pe_fld he hb
theorem ps_fldK (hK:X.K=K) (ha:PE X o ta) (hv:PE X value tv) (hs:swapsWith value (some (.Attribute o g pos')) pos.line X.env=pure false:=by rfl):
    PS X (.Assign [.Attribute o g pos'] value pos) (sFld K ta tv g):=by
  subst hK
  exact ps_fld ha hv hs
end
section
variable {σ : L2.St} {H : Hp} {Q : VK} {D : Ends} {K : PySem.W.Frag} {a C dx : Addr} {fs : List (Str × V)} {v : V} {m f : Str} {to te ta tv : TE} {t tk : TA}
theorem s_ms {r:L2.St→List V→Hp→VK→Prop} (q:to σ H fun x H1=> ∃a dx fs,x= .ref a∧H1 a=some (.ins C dx fs)∧fs.lookup m=none∧t σ H1 fun vs H2=>r σ (x::vs) H2 Q):
    tMS m C r to t σ H Q:=q
theorem s_mks {r:L2.St→List V→List V→Hp→VK→Prop} (q:to σ H fun x H1=> ∃a dx fs,x= .ref a∧H1 a=some (.ins C dx fs)∧fs.lookup m=none∧
    t σ H1 fun vs H2=>tk σ H2 fun zs H3=>r σ (x::vs) zs H3 Q):tMKS m C r to t tk σ H Q:=q
theorem s_fld (q:ta σ H fun x H1=> ∃a C dx fs v,x= .ref a∧H1 a=some (.ins C dx fs)∧Cls K C∧NoAttr K C f∧fs.lookup f=some v∧Q v H1):tFld K ta f σ H Q:=q
theorem s_sfld (q:tv σ H fun y H1=>ta σ H1 fun x H2=> ∃a C dx fs,x= .ref a∧H2 a=some (.ins C dx fs)∧Cls K C∧NoAttr K C f∧fs.length<1000∧D.nx σ (upd H2 a (.ins C dx (putF f y fs)))):
    sFld K ta tv f D σ H:=q
end
end PC

set_option Elab.async false
set_option linter.all false
set_option maxRecDepth 100000
set_option maxHeartbeats 2000000
namespace PC
open PySem PySem.Spec PyProof.Rows L2

section
variable {K : PySem.W.Frag} {p a D : Addr} {Z : List Addr} {H H1 H' : Hp} {d : PyData} {v : V} {xs : List V}
theorem Dat.lift (r:R p H H') (m:p∈Z) (h:Dat K Z H d v):Dat K Z H' d v:=Dat.up r m d v h
theorem R.ins {C dx:Addr} {fs:List (Str×V)} (r:R p H H') (e:H a=some (.ins C dx fs)):H' a=some (.ins C dx fs):=
  r.stay a _ (fun _ z=>nomatch z) (fun _ z=>nomatch z) e
theorem R.xd {fs:List (Str×V)} (r:R p H H') (e:H a=some (.xd fs)):H' a=some (.xd fs):=
  r.stay a _ (fun _ z=>nomatch z) (fun _ z=>nomatch z) e
theorem R.tup (r:R p H H') (e:H a=some (.tup xs)):H' a=some (.tup xs):=
  r.stay a _ (fun _ z=>nomatch z) (fun _ z=>nomatch z) e
theorem R.lst (r:R p H H') (n:a≠p) (e:H a=some (.lst xs)):H' a=some (.lst xs):=r.keep a _ n e
theorem Wd.neq (w:Wd p Z H) (h:H a=none):a≠p:=fun z=>w.occ p w.mem (z ▸ h)
theorem Wd.old (w:Wd p Z H) (r:R p H H') (h:H' a=none):H a=none:=R.free r ((w.up r).neq h) h
end
section
variable {K : PySem.W.Frag} {p a b : Addr} {Z : List Addr} {H : Hp} {d : PyData} {v : V} {xs ys : List V}
theorem put_ne (h:H a=some (.lst xs)) {o:HO} (e:H b=some o) (n: ∀zs,o≠ .lst zs) {o':HO}:upd H a o' b=some o:=by
  by_cases z:b=a
  · subst z
    rw[h] at e
    exact absurd (Option.some.inj e).symm (n xs)
  · rw[upd_ne z]
    exact e
theorem Wd.put (w:Wd p Z H) (h:H a=some (.lst xs)):Wd p Z (upd H a (.lst ys)):=by
  refine⟨?_,fun c hc=> ?_,w.mem⟩
  · obtain⟨o,u,e⟩:=w.one
    exact⟨o,u,put_ne h e fun _ z=>nomatch z⟩
  · by_cases z:c=a
    · subst z
      rw[upd_same]
      exact fun z=>nomatch z
    · rw[upd_ne z]
      exact w.occ c hc
theorem Pot.put (h:Pot p H) (n:a≠p) {o':HO}:Pot p (upd H a o'):=by
  obtain⟨x,y,e,q⟩:=h
  exact⟨x,y,by rw[upd_ne n.symm];exact e,q⟩
end
section
variable {J : It} {n : Nat} {G : Hp → Prop} {K : PySem.W.Frag} {p : Addr} {Z : List Addr} {Q : VK} {fx fy : Nat → Option V} {gi gj : Nat} {te : TE} {tt : TT} {vs : List Nat} {σ : L2.St} {H1 : Hp}
end
section
variable {X : Cx} {c a b e : Expr} {pos : Pos} {tA : TT} {ta tb te : TE} {st : Stmt} {rest : List Stmt} {t u : TS} {σ : L2.St} {H : Hp} {Q : VK} {D : Ends}
end
section
variable {X : Cx} {σ : L2.St} {H : Hp} {Q : VK} {te : TE} {ts : List TE} {acc : Str}
end
end PC

set_option Elab.async false
set_option linter.all false
set_option maxRecDepth 100000
set_option maxHeartbeats 2000000
namespace PC
open PySem PySem.Spec PyProof.Rows L2

abbrev Clause:=Value×Nat×(Addr→Value→Option Addr→TS)
abbrev goneE (i:Nat) (D:Ends):Ends:=⟨fun τ G=>D.nx (τ.set i none) G,D.rt,fun τ G=>D.bk (τ.set i none) G,fun τ G=>D.ct (τ.set i none) G⟩
def wCl (K:PySem.W.Frag) (W:WX) (D:Ends):List Clause→WX
  | []=>W
  | (c,i,t)::r=>fun k d σ H=> ∃b,PySem.W.exmOne K k c=some b∧
      (b=true→ ∀a,H a=none→t a k d (goneE i D) (σ.set i (some (.ref a))) H)∧(b=false→wCl K W D r k d σ H)
inductive ClOk (X:Cx):List ExceptHandler→List Clause→Prop
  | nil:ClOk X [] []
  | cons {x n:Str} {c:Value} {i:Nat} {t:Addr→Value→Option Addr→TS} {s1:Stmt} {ss:List Stmt} {p q:Pos} {hs:List ExceptHandler} {l:List Clause}
      (hi:X.N[i]?=some n) (hl:X.env.kindOf n=some .local) (hc:Names X x c)
      (body: ∀(a:Addr) (o:Obj) (k:Value) (d:Option Addr) (pn:List (Addr×Obj)),Zc k d o→(∃vs,o.data= .fields vs)→PSs (X.suite a ((a,o)::pn)) (s1::ss) (t a k d))
      (rest:ClOk X hs l):ClOk X (.ExceptHandler (some (.Name x p)) (some n) (s1::ss) q::hs) ((c,i,t)::l)
section
variable {X : Cx} {W : WX} {D : Ends}
theorem far_of {B:Heap} {h:Heap} {st:List Env} {a:Addr} {o:Obj} {vs:Array Value} (ff:h.FunFrames B st) (e:h.get? a=some o) (dd:o.data= .fields vs):a ∉ frs st:=by
  intro m
  obtain⟨_,o2,e2,bad⟩:=ff.mem m
  rw[e] at e2
  cases e2
  exact bad _ dd
theorem clauses_run (hst:X.stack=X.env::X.outer) (hfr:X.env.frame=some X.env.locals) (nd:X.N.Nodup) (out:Takes X W)
    {B:Heap} {s0 s1:Shared} {pins:List (Addr×Obj)} {σ:L2.St} {H:Hp} {a:Addr} {k:Value} {d:Option Addr} (ok:X.Ok) (I:Inv X pins σ H s0)
    (nb: ∀b o,s0.heap.get? b=some o→b ∉ frs X.stack→B.get? b=some o) (fl:HandSPX.FlyingZ B (X.env::X.outer) a (Zc k d) s1.heap) (up:s0.heap.UpToSlots s1.heap)
    (na:H a=none) (os:s1.os=s0.os) (ag:AllBare s1.gens):
    ∀ {hs:List ExceptHandler} {l:List Clause},ClOk X hs l→wCl X.K W D l k d σ H→wpAny (model X.prog X.w) X.A (handleBy (.ref a) X.env hs) (SP X pins D) X.xe s1:=by
  have J:Inv X pins σ H s1:=I.landed nb fl.1 up os ag
  obtain⟨o1,_,e1,z1,dd1⟩:=fl.there
  have apart:=far_of fl.2.2.1 e1 dd1
  have a1:a≠X.env.locals:=fun z=>apart (List.mem_filterMap.mpr ⟨_,List.mem_cons_self,z ▸ hfr⟩)
  have a2:a ∉ X.fs:=fun m=>by
    obtain⟨y,hy,ey⟩:=List.mem_filterMap.mp m
    exact apart (List.mem_filterMap.mpr ⟨y,.tail _ hy,ey⟩)
  intro hs l ck
  induction ck with
  | nil=>
    intro wish
    obtain⟨_,_,_,o2,us,T,_,_,e2,_,dd2,u1,_⟩:=id fl
    refine wpAny_handleBy_nil ?_
    unfold PySem.passOn
    refine wpAny_bind (wpAny_field e2 dd2 u1 ?_)
    rw[if_neg (by simp)]
    have leave:wpAny (model X.prog X.w) X.A (setFlight (.ref a) X.env.frame) (fun _ t=>wpAny (model X.prog X.w) X.A (throw (.ref a):Sem Flow) (SP X pins D) X.xe t) X.xe s1:=by
      rw[hfr]
      refine HandSPX.setFlight_upZ fl fun g held up2=>wpAny_throw (out _ _ ⟨a,B,s0,pins,σ,H,k,d,rfl,I,nb,up.trans up2,?_,na,os,ag,wish⟩)
      rw[hst]
      exact .inr (.inr held)
    first
      | exact wpAny_bind (wpAny_pure (wpAny_bind leave))
      | exact wpAny_bind leave
  | @cons x n c i t y1 ys p q hs l hi hl hc body _ ih=>
    rintro ⟨b,eb,yes,no⟩
    have V1:=J.suite e1 dd1 na a1 a2
    have known:PySem.W.Looks (model X.prog X.w) s1.heap (typeOf (.ref a)) k:=fun A Q E st kp qq=>wpAny_typeOf_ref (kp _ _ e1) (by rw[z1.1];exact qq)
    have asked:=PySem.W.exm_one (M:=model X.prog X.w) J.kIn known eb
    have named:wpAny (model X.prog X.w) (X.A.mark (some (.ref a))) (eval (.Name x p) X.env) (fun u st=>u=c∧s1=st) (fun _ _=>False) s1:=by
      rcases hc with ⟨g,ndb,m | ⟨m,bv,nn⟩⟩
      · exact ld_glob (X:=X.suite a ((a,o1)::(X.pn++pins))) V1 g m ⟨rfl,rfl⟩ ndb
      · exact ld_blt (X:=X.suite a ((a,o1)::(X.pn++pins))) V1 g m bv ⟨rfl,rfl⟩ nn ndb
    refine wpAny_handleBy_cons (codeAny_handlers_test ?_) (fun w=>nomatch w)
    refine wpAny_mono named ?_ fun _ _ w=>w.elim
    rintro _ _ ⟨rfl,rfl⟩
    refine asked.here ?_
    cases b with
    | false=>exact ih (no rfl)
    | true=>
      refine codeAny_handlers_suite_as (HandSPX.lands_againZ fl fun g fl2 up2=> ?_)
      have J2:Inv X pins σ H { s1 with heap:=g }:=I.landed nb fl2.1 (up.trans up2) os ag
      obtain⟨o2,_,e2,z2,dd2⟩:=fl2.there
      refine store_ok (X:=X.suite a ((a,o2)::(X.pn++pins))) (v:= .ref a) (J2.suite e2 dd2 na a1 a2) nd hi (.inl hl) rfl (fun t2 S2=> ?_) (.inr hl)
      have drop: ∀ {τ:L2.St} {G:Hp} {t3:Shared} {R:Shared→Prop},Inv (X.suite a ((a,o2)::(X.pn++pins))) [] τ G t3→(∀t4,Inv X pins (τ.set i none) G t4→R t4)→
          wpAny (model X.prog X.w) X.A (do bindName X.env n .none;unbindBehindTheSuite X.env n q) (fun _ t4=>R t4) X.xe t3:=fun S hR=>gone_ok (S.unsuite ok) nd hi hl hR
      refine wpAny_mono ((body a o2 k d (X.pn++pins) z2 ⟨_,dd2⟩).run [] t2 _ H _ S2 (yes rfl a na)) (fun f t3 hf=> ?_) fun _ _ w=>w.elim
      cases f with
      | next=>exact drop hf.choose_spec.choose_spec.1 fun t4 S4=>⟨_,_,S4,hf.choose_spec.choose_spec.2⟩
      | brk=>exact drop hf.choose_spec.choose_spec.1 fun t4 S4=>⟨_,_,S4,hf.choose_spec.choose_spec.2⟩
      | cont=>exact drop hf.choose_spec.choose_spec.1 fun t4 S4=>⟨_,_,S4,hf.choose_spec.choose_spec.2⟩
      | ret u=>
        obtain⟨v,τ,G,S3,rv,qq⟩:=hf
        exact drop S3 fun t4 S4=>⟨v,_,G,S4,rv,qq⟩
theorem ps_try_clauses {body:List Stmt} {h0:ExceptHandler} {hs:List ExceptHandler} {l:List Clause} {pos:Pos} {tb:WX→TS}
    (hst:X.stack=X.env::X.outer) (hfr:X.env.frame=some X.env.locals) (nd:X.N.Nodup) (out:Takes X W)
    (hb: ∀(V:WX) (pn:List (Addr×Obj)) (xe:Value→Shared→Prop),Takes (X.tr pn xe) V→PassesOwn (model X.prog X.w) X.A X.env xe→PSs (X.tr pn xe) body (tb V))
    (ck:ClOk X (h0::hs) l):PS X (.Try body (h0::hs) [] [] pos) (fun D σ H=>tb (wCl X.K W D l) D σ H):=by
  constructor
  intro pins s σ H D I h
  have ok:=I.ok
  refine wpAny_Try_except (wpAny_mono ((hb (wCl X.K W D l) (X.pn++pins) _ (fun u t fly=> ?_) PassesOwn.looking).run [] s σ H D (I.toTry _) h) (fun f t done=> ?_) fun _ _ w=>w)
  · obtain⟨a,B,s0,pins0,τ,G,k,d,rfl,I0,nb,up,sky,na,os,ag,wish⟩:=fly
    have sky2:Sky B (X.env::X.outer) a (Zc k d) X.env.locals t.heap:=hst ▸ sky
    refine Sky.land Zc.steady (ok.frames.trans (by rw[hst])) hfr sky2 fun g fl up2=> ?_
    exact clauses_run hst hfr nd out (B:=B) (s0:=s0) (s1:= { t with heap:=g }) ok (I0.ofTry ok) nb fl (up.trans up2) na os ag ck wish
  · cases f with
    | next=>exact wpAny_execs_nil ⟨_,_,done.choose_spec.choose_spec.1.ofTry ok,done.choose_spec.choose_spec.2⟩
    | brk=>exact⟨_,_,done.choose_spec.choose_spec.1.ofTry ok,done.choose_spec.choose_spec.2⟩
    | cont=>exact⟨_,_,done.choose_spec.choose_spec.1.ofTry ok,done.choose_spec.choose_spec.2⟩
    | ret u=>
      obtain⟨v,τ,G,J,r,q⟩:=done
      exact⟨v,τ,G,J.ofTry ok,r,q⟩
end
structure InstT (K:PySem.W.Frag) (C:Addr):Prop where
  ca:PySem.W.findIn K (.ref C) "__class__" =some (some (.builtin "object.__class__"))
  ob:PySem.W.mroIn K C (.type "object")=some true
section
variable {X : Cx}
end
section
variable {σ : L2.St} {H : Hp} {Q : VK} {te : TE} {ts : List TE} {acc : Str} {QS : Str → Hp → Prop}
theorem s_bits (q:te σ H fun x H1=> ∃i,x= .int i∧Q (.int (Builtin.Int.intBits i:Nat)) H1):tBits te σ H Q:=q
end
section
variable {J : It} {n : Nat} {G : Hp → Prop} {K : PySem.W.Frag} {p : Addr} {Z : List Addr} {Q : VK} {gi : Nat} {tt : TT} {te : TE} {vs : List Nat} {σ : L2.St} {H1 : Hp} {ts : List Int}
end
section
variable {K : PySem.W.Frag} {Z : List Addr} {H : Hp} {Q : VK} {x y : V} {d : PyData} {ds : List PyData}
end
theorem R.xdW {p b:Addr} {H H':Hp} {fs:List (Str×V)} (e:H b=some (.xd fs)) (r:R p H H'):H' b=some (.xd fs):=r.stay b _ (fun _ z=>nomatch z) (fun _ z=>nomatch z) e
section
variable {K : PySem.W.Frag} {p : Addr} {Z : List Addr} {H : Hp} {x : V} {ds : List PyData} {g : TG} {tt : TT} {te : TE} {vs : List Nat} {σ : L2.St} {Q : VK} {tb : TS} {D : Ends}
end
theorem DatL.at {K:PySem.W.Frag} {Z:List Addr} {H:Hp} {ds:List PyData} {xs:List V} {i:Nat} {d:PyData} {x:V} (l:DatL K Z H ds xs) (hd:ds[i]?=some d) (hx:xs[i]?=some x):Dat K Z H d x:=by
  obtain⟨v,hv,h⟩:=l.get hd
  rw[hx] at hv
  cases hv
  exact h
section
variable {X : Cx} {K : PySem.W.Frag} {H : Hp} {Q : VK} {x y : V} {Z : List Addr} {ds es : List PyData}
end
section
variable {K : PySem.W.Frag} {p : Addr} {Z : List Addr} {H : Hp} {Q : VK} {x : V} {d : PyData} {ds : List PyData} {ns : List Int}
end
end PC

set_option Elab.async false
set_option linter.all false
set_option maxRecDepth 100000
set_option maxHeartbeats 4000000
namespace PC
open PySem PySem.Spec PyProof.Rows L2
def intIn:PyData→Int→Int→Bool
  | .int i,lo,hi=>decide (lo≤i) && decide (i≤hi)
  | _,_,_=>false
def intD:PyData→Option Int
  | .int i=>some i
  | _=>none
def intsD (ds:List PyData):List Int:=ds.filterMap intD
def areCells (lo hi:Int) (ds:List PyData):Bool:=(ds.all fun d=>intIn d lo hi) && decide (intsD ds).Nodup
def isort (ns:List Int):List Int:=ns.mergeSort fun a b=>decide (a≤b)
def cellsD (d:PyData) (s:Int):Option (List Int):=
  match seqD d with
  | none=>none
  | some ds=>if areCells 0 (s - 1) ds=true then some (isort (intsD ds)) else none
def tupI (ns:List Int):PyData:= .tuple (ns.map .int)
def lstI (ns:List Int):PyData:= .list (ns.map .int)
theorem intIn_int {d:PyData} {lo hi:Int} (h:intIn d lo hi=true): ∃i,d= .int i∧lo≤i∧i≤hi:=by
  cases d <;> simp[intIn] at h
  exact⟨_,rfl,h⟩
theorem isort_perm (ns:List Int):(isort ns).Perm ns:=List.mergeSort_perm ns _
theorem isort_le (ns:List Int):(isort ns).Pairwise (· ≤ ·):=by
  have h:=List.pairwise_mergeSort (le:=fun a b:Int=>decide (a≤b)) (by intro a b c;simp;omega) (by intro a b;simp;omega) ns
  exact h.imp fun h=>of_decide_eq_true h
theorem isort_is {ns ms:List Int} (p:ms.Perm ns) (h:ms.Pairwise (· ≤ ·)):ms=isort ns:=
  (p.trans (isort_perm ns).symm).eq_of_pairwise (fun a b _ _ h1 h2=>Int.le_antisymm h1 h2) h (isort_le ns)
theorem intsOf {lo hi:Int}: ∀ {ds:List PyData},(ds.all fun d=>intIn d lo hi)=true→ds=(intsD ds).map .int
  | [],_=>rfl
  | d::ds,h=>by
    rw[List.all_cons,Bool.and_eq_true] at h
    obtain⟨i,rfl,_⟩:=intIn_int h.1
    show _=PyData.int i::(intsD ds).map .int
    rw[← intsOf h.2]
theorem intsD_map (ns:List Int):intsD (ns.map .int)=ns:=by
  induction ns with
  | nil=>rfl
  | cons n ns ih=>show n::intsD (ns.map .int)=n::ns;rw[ih]
theorem asc_nodup: ∀ {ns:List Int},ns.Pairwise (· ≤ ·)→((ns.zip (ns.drop 1)).all (fun y=>decide (y.1<y.2))=true↔ns.Nodup)
  | [],_=>by simp
  | [a],_=>by simp
  | a::b::r,h=>by
    have h2:=(List.pairwise_cons.mp h).2
    have ih:=asc_nodup h2
    have hab:a≤b:=(List.pairwise_cons.mp h).1 b List.mem_cons_self
    simp only[List.drop_succ_cons,List.drop_zero] at ih ⊢
    rw[List.zip_cons_cons,List.all_cons,Bool.and_eq_true,ih,List.nodup_cons (a:=a),decide_eq_true_eq]
    constructor
    · rintro ⟨h1,h3⟩
      refine⟨fun m=> ?_,h3⟩
      rcases List.mem_cons.mp m with e | e
      · omega
      · have:=(List.pairwise_cons.mp h2).1 a e
        omega
    · rintro ⟨h1,h3⟩
      refine⟨?_,h3⟩
      rcases Int.lt_or_eq_of_le hab with q | q
      · exact q
      · exact absurd (by rw[q];exact List.mem_cons_self) h1
theorem cellsD_no {d:PyData} {s:Int} (h:(isD d "list" || isD d "tuple")=false):cellsD d s=none:=by
  cases d <;> first | rfl | simp[isD,tyD] at h
theorem seq_yes {d:PyData} (h:(isD d "list" || isD d "tuple")=true): ∃ds,seqD d=some ds:=by
  cases d <;> simp[isD,tyD] at h <;> exact⟨_,rfl⟩
theorem cellsD_seq {d:PyData} {s:Int} {ds:List PyData} (h:seqD d=some ds):cellsD d s=if areCells 0 (s - 1) ds=true then some (isort (intsD ds)) else none:=by
  unfold cellsD
  rw[h]
theorem zip_asc (ms:List Int):(List.range (min ms.length (ms.drop 1).length)).map (fun i=>PyData.bool (decide (ms.getD i 0<ms.getD (i+1) 0)))=
    ((ms.zip (ms.drop 1)).map fun y=>decide (y.1<y.2)).map .bool:=by
  apply List.ext_getElem
  · simp
  · intro i h1 h2
    have a:i<ms.length:=by simp at h1;omega
    have b:i+1<ms.length:=by simp at h1;omega
    simp[List.getD_eq_getElem?_getD,a,b,Nat.add_comm 1 i]
def maskI (ns:List Int):Int:=(ns.map fun n=>(1:Int) * 2 ^ n.toNat).sum
theorem cells_some {d:PyData} {s:Int} {ns:List Int} (e:cellsD d s=some ns): ∃ds,seqD d=some ds∧areCells 0 (s - 1) ds=true∧isort (intsD ds)=ns:=by
  cases h:seqD d with
  | none=>unfold cellsD at e;rw[h] at e;cases e
  | some ds=>
    rw[cellsD_seq h] at e
    by_cases c:areCells 0 (s - 1) ds=true
    · rw[if_pos c] at e
      exact⟨ds,rfl,c,Option.some.inj e⟩
    · rw[if_neg c] at e
      cases e
theorem ints_in {lo hi:Int} {ds:List PyData} (h:areCells lo hi ds=true): ∀n∈intsD ds,lo≤n∧n≤hi:=by
  intro n hn
  rw[areCells,Bool.and_eq_true] at h
  have e:=intsOf h.1
  have m:PyData.int n∈ds:=by rw[e];exact List.mem_map_of_mem hn
  have q:=List.all_eq_true.mp h.1 _ m
  obtain⟨i,e2,h1,h2⟩:=intIn_int q
  cases e2
  exact⟨h1,h2⟩
theorem cells_range {d:PyData} {s:Int} {ns:List Int} (e:cellsD d s=some ns):(∀n∈ns,0≤n∧n<s)∧ns.Pairwise (· < ·):=by
  obtain⟨ds,h,c,rfl⟩:=cells_some e
  refine⟨fun n hn=> ?_,?_⟩
  · have:=ints_in c n ((isort_perm _).mem_iff.mp hn)
    omega
  · have nd:(isort (intsD ds)).Nodup:=(isort_perm _).nodup_iff.mpr (of_decide_eq_true (Bool.and_eq_true_iff.mp c).2)
    exact ((isort_le (intsD ds)).and nd).imp fun h=>by
      have h1:=h.1
      have h2:=h.2
      omega
theorem cells_len {d:PyData} {s:Int} {ns:List Int} {m:Nat} (e:cellsD d s=some ns) (h: ∀ds,seqD d=some ds→ds.length≤m):ns.length≤m:=by
  obtain⟨ds,hs,c,rfl⟩:=cells_some e
  rw[(isort_perm _).length_eq]
  refine Nat.le_trans ?_ (h ds hs)
  unfold intsD
  exact List.length_filterMap_le _ _
def bitsL (m:Nat):List Int:=((List.range 64).filter fun i=>m.testBit i).map fun i=>((i:Nat):Int)
theorem and_nn (a b:Nat):Builtin.bitAnd (a:Int) (b:Int)=((a &&& b:Nat):Int):=by
  unfold Builtin.bitAnd
  rw[decide_eq_true (Int.natCast_nonneg a),decide_eq_true (Int.natCast_nonneg b)]
  simp
theorem bits_fit {m k:Nat} (h:m<2 ^ k):Builtin.Int.intBits (m:Int)≤k:=PySem.intBits_le_iff.mpr (by simpa using h)
theorem bits_over {m:Nat}:m<2 ^ Builtin.Int.intBits (m:Int):=by
  have h:=(PySem.intBits_le_iff (m:=Builtin.Int.intBits (m:Int)) (x:=(m:Int))).mp (Nat.le_refl _)
  simpa using h
theorem bit_at (m i:Nat):decide (Builtin.bitAnd ((m:Int) / 2 ^ i) 1=1)=m.testBit i:=by
  have e:(m:Int) / 2 ^ i=((m / 2 ^ i:Nat):Int):=by
    rw[Int.natCast_ediv,Int.natCast_pow]
    rfl
  rw[e,show (1:Int)=((1:Nat):Int) from rfl,and_nn,Nat.testBit_eq_decide_div_mod_eq,Nat.and_one_is_mod]
  rw[Bool.eq_iff_iff,decide_eq_true_eq,decide_eq_true_eq]
  omega
theorem filter_bits {m n k:Nat} (h:m<2 ^ n) (hk:n≤k):(List.range k).filter (fun i=>m.testBit i)=(List.range n).filter (fun i=>m.testBit i):=by
  obtain⟨j,rfl⟩:=Nat.exists_eq_add_of_le hk
  rw[List.range_add,List.filter_append]
  have e:((List.range j).map (n+ ·)).filter (fun i=>m.testBit i)= []:=by
    rw[List.filter_eq_nil_iff]
    intro i hi
    obtain⟨q,_,rfl⟩:=List.mem_map.mp hi
    have l:m<2 ^ (n+q):=Nat.lt_of_lt_of_le h (Nat.pow_le_pow_right (by decide) (Nat.le_add_right _ _))
    rw[Nat.testBit_lt_two_pow l]
    decide
  rw[e,List.append_nil]
theorem maskI_cons (n:Int) (ns:List Int):maskI (n::ns)=2 ^ n.toNat+maskI ns:=by
  show 1 * 2 ^ n.toNat+maskI ns=_
  rw[Int.one_mul]
def down (ns:List Int):List Int:=(ns.filter fun n=>decide (0<n)).map fun n=>n - 1
theorem maskI_down: ∀ {ns:List Int},(∀n∈ns,0≤n)→ns.Nodup→maskI ns=(if (0:Int)∈ns then 1 else 0)+2 * maskI (down ns)
  | [],_,_=>by simp[maskI,down]
  | n::ns,h,nd=>by
    have ih:=maskI_down (ns:=ns) (fun m hm=>h m (List.mem_cons_of_mem _ hm)) (List.nodup_cons.mp nd).2
    have h0:=h n List.mem_cons_self
    have nn:=(List.nodup_cons.mp nd).1
    by_cases c:n=0
    · subst c
      have e:down (0::ns)=down ns:=by simp[down]
      rw[maskI_cons,e,ih,if_neg nn,if_pos List.mem_cons_self]
      show (1:Int)+_=_
      omega
    · have e:down (n::ns)=(n - 1)::down ns:=by
        have q:decide (0<n)=true:=decide_eq_true (by omega)
        simp[down,q]
      have m0:((0:Int)∈n::ns)↔(0:Int)∈ns:=by
        rw[List.mem_cons]
        exact⟨fun z=>z.elim (fun z=>absurd z.symm c) id,.inr⟩
      have p:(2:Int) ^ n.toNat=2 * 2 ^ (n - 1).toNat:=by
        have:n.toNat=(n - 1).toNat+1:=by omega
        rw[this,Int.pow_succ,Int.mul_comm]
      rw[maskI_cons,e,maskI_cons,ih,p]
      by_cases z:(0:Int)∈ns
      · rw[if_pos z,if_pos (m0.mpr z)];omega
      · rw[if_neg z,if_neg (fun y=>z (m0.mp y))];omega
theorem down_nodup {ns:List Int} (h:ns.Nodup):(down ns).Nodup:=by
  unfold down
  rw[List.nodup_iff_pairwise_ne,List.pairwise_map]
  exact (List.Pairwise.filter _ h).imp fun h=>by omega
theorem down_mem {ns:List Int} {i:Int} (h:0≤i):i∈down ns↔i+1∈ns:=by
  unfold down
  rw[List.mem_map]
  constructor
  · rintro ⟨a,ha,rfl⟩
    have:=(List.mem_filter.mp ha).1
    rwa [show a - 1+1=a by omega]
  · intro m
    exact⟨i+1,List.mem_filter.mpr ⟨m,decide_eq_true (by omega)⟩,by omega⟩
theorem maskI_nn: ∀ns:List Int,0≤maskI ns
  | []=>by decide
  | n::ns=>by
    have:=maskI_nn ns
    have h:(0:Int)<2 ^ n.toNat:=Int.pow_pos (by decide)
    rw[maskI_cons]
    omega
theorem mask_bit: ∀(i:Nat) {ns:List Int},(∀n∈ns,0≤n)→ns.Nodup→(maskI ns).toNat.testBit i=decide ((i:Int)∈ns)
  | 0,ns,h,nd=>by
    have e:=maskI_down h nd
    have p:=maskI_nn (down ns)
    rw[Nat.testBit_zero]
    by_cases z:(0:Int)∈ns
    · rw[if_pos z] at e
      have:(maskI ns).toNat % 2=1:=by omega
      rw[this]
      simp[z]
    · rw[if_neg z] at e
      have:(maskI ns).toNat % 2=0:=by omega
      rw[this]
      simp[z]
  | i+1,ns,h,nd=>by
    have e:=maskI_down h nd
    have p:=maskI_nn (down ns)
    have ih:=mask_bit i (ns:=down ns) (fun n hn=>by
      obtain⟨a,ha,rfl⟩:=List.mem_map.mp hn
      have:=of_decide_eq_true (List.mem_filter.mp ha).2
      omega) (down_nodup nd)
    have d:(maskI ns).toNat / 2=(maskI (down ns)).toNat:=by
      split at e <;> omega
    rw[Nat.testBit_succ,d,ih]
    rw[Bool.eq_iff_iff,decide_eq_true_eq,decide_eq_true_eq,down_mem (Int.natCast_nonneg i)]
    rw[show ((i+1:Nat):Int)=(i:Int)+1 by omega]
theorem bits_of_mask {m:Nat} {ns:List Int} (h: ∀i<64,m.testBit i=decide ((i:Int)∈ns)) (hr: ∀n∈ns,0≤n∧n<64) (ha:ns.Pairwise (· < ·)):bitsL m=ns:=by
  have asc:(bitsL m).Pairwise (· < ·):=by
    unfold bitsL
    rw[List.pairwise_map]
    exact (List.pairwise_lt_range.filter _).imp fun h=>by omega
  have mem: ∀x,x∈bitsL m↔x∈ns:=by
    intro x
    unfold bitsL
    rw[List.mem_map]
    constructor
    · rintro ⟨i,hi,rfl⟩
      have q:=List.mem_filter.mp hi
      rw[h i (List.mem_range.mp q.1)] at q
      exact of_decide_eq_true q.2
    · intro hx
      have:=hr x hx
      refine⟨x.toNat,List.mem_filter.mpr ⟨List.mem_range.mpr (by omega),?_⟩,by omega⟩
      rw[h _ (by omega)]
      refine decide_eq_true ?_
      rwa [show ((x.toNat:Nat):Int)=x by omega]
  have pm:(bitsL m).Perm ns:=by
    refine (List.perm_ext_iff_of_nodup ?_ ?_).mpr mem
    · exact asc.imp fun h=>by omega
    · exact ha.imp fun h=>by omega
  exact pm.eq_of_pairwise (fun a b _ _ h1 h2=>by omega) asc ha
theorem mask_bits {m:Nat} (h:m<2 ^ 64):(maskI (bitsL m)).toNat=m:=by
  apply Nat.eq_of_testBit_eq
  intro i
  have nn: ∀n∈bitsL m,0≤n:=fun n hn=>by
    obtain⟨j,_,rfl⟩:=List.mem_map.mp hn
    omega
  have nd:(bitsL m).Nodup:=by
    unfold bitsL
    rw[List.nodup_iff_pairwise_ne,List.pairwise_map]
    exact (List.pairwise_lt_range.filter _).imp fun h=>by omega
  rw[mask_bit i nn nd,Bool.eq_iff_iff,decide_eq_true_eq]
  unfold bitsL
  rw[List.mem_map]
  constructor
  · rintro ⟨j,hj,e⟩
    have:j=i:=by omega
    subst this
    exact (List.mem_filter.mp hj).2
  · intro t
    refine⟨i,List.mem_filter.mpr ⟨List.mem_range.mpr ?_,t⟩,rfl⟩
    by_cases c:i<64
    · exact c
    · have l:m<2 ^ i:=Nat.lt_of_lt_of_le h (Nat.pow_le_pow_right (by decide) (by omega))
      rw[Nat.testBit_lt_two_pow l] at t
      cases t
theorem or_one {k:Nat} (h:k.testBit 0=true):k ||| 1=k:=by
  apply Nat.eq_of_testBit_eq
  intro i
  rw[Nat.testBit_or]
  cases i with
  | zero=>rw[h];rfl
  | succ i=>simp[Nat.testBit_succ]
def pop (n:Nat):Nat:=if h:n=0 then 0 else n % 2+pop (n / 2)
termination_by n
decreasing_by exact Nat.div_lt_self (Nat.pos_of_ne_zero h) (by decide)
theorem pop_zero:pop 0=0:=by rw[pop];rfl
theorem pop_step (n:Nat):pop n=n % 2+pop (n / 2):=by
  by_cases h:n=0
  · subst h
    rw[pop_zero]
  · rw[pop,dif_neg h]
theorem and_even (q:Nat) (h:0<q):(2 * q) &&& (2 * q - 1)=2 * (q &&& (q - 1)):=by
  apply Nat.eq_of_testBit_eq
  intro i
  have e:2 * q - 1=2 * (q - 1)+1:=by omega
  cases i with
  | zero=>
    rw[Nat.testBit_and]
    simp[Nat.testBit_zero]
  | succ i=>
    rw[Nat.testBit_and,Nat.testBit_succ,Nat.testBit_succ,Nat.testBit_succ,e]
    rw[show 2 * q / 2=q by omega,show (2 * (q - 1)+1) / 2=q - 1 by omega,show 2 * (q &&& (q - 1)) / 2=q &&& (q - 1) by omega,Nat.testBit_and]
theorem and_odd (q:Nat):(2 * q+1) &&& (2 * q)=2 * q:=by
  apply Nat.eq_of_testBit_eq
  intro i
  cases i with
  | zero=>
    rw[Nat.testBit_and]
    simp[Nat.testBit_zero]
  | succ i=>
    rw[Nat.testBit_and,Nat.testBit_succ,Nat.testBit_succ]
    rw[show (2 * q+1) / 2=q by omega,show 2 * q / 2=q by omega,Bool.and_self]
theorem pop_less: ∀(n:Nat),0<n→pop (n &&& (n - 1))+1=pop n:=by
  intro n
  induction n using Nat.strongRecOn with
  | ind n ih=>
    intro h
    rcases Nat.mod_two_eq_zero_or_one n with e | e
    · have hq:n=2 * (n / 2):=by omega
      have q0:0<n / 2:=by omega
      have i:=ih (n / 2) (by omega) q0
      rw[hq,and_even _ q0,pop_step (2 * (n / 2)),pop_step (2 * (n / 2 &&& (n / 2 - 1)))]
      rw[show 2 * (n / 2) % 2=0 by omega,show 2 * (n / 2) / 2=n / 2 by omega,show 2 * (n / 2 &&& (n / 2 - 1)) % 2=0 by omega,show 2 * (n / 2 &&& (n / 2 - 1)) / 2=(n / 2 &&& (n / 2 - 1)) by omega]
      omega
    · have hq:n=2 * (n / 2)+1:=by omega
      rw[hq,show 2 * (n / 2)+1 - 1=2 * (n / 2) by omega,and_odd,pop_step (2 * (n / 2)+1),pop_step (2 * (n / 2))]
      rw[show 2 * (n / 2) % 2=0 by omega,show 2 * (n / 2) / 2=n / 2 by omega,show (2 * (n / 2)+1) % 2=1 by omega,show (2 * (n / 2)+1) / 2=n / 2 by omega]
      omega
def oddN (m:Nat):Bool:=decide (pop m % 2=1)
def bitI (m i:Nat):Int:=if m.testBit i then 1 else 0
def bitsOf (n m:Nat):List Int:=(List.range n).map (bitI m)
theorem bitI_01 (m i:Nat):bitI m i=0∨bitI m i=1:=by
  unfold bitI
  split <;> simp
theorem bitI_one {m i:Nat}:bitI m i=1↔m.testBit i=true:=by
  unfold bitI
  split <;> simp_all
theorem exists_mask: ∀bs:List Int,(∀b∈bs,b=0∨b=1)→ ∃m,m<2 ^ bs.length∧bs=bitsOf bs.length m
  | [],_=>⟨0,by decide,rfl⟩
  | b::bs,h=>by
    obtain⟨m,hm,e⟩:=exists_mask bs fun c hc=>h c (List.mem_cons_of_mem _ hc)
    refine⟨b.toNat+2 * m,?_,?_⟩
    · rw[List.length_cons,Nat.pow_succ]
      rcases h b List.mem_cons_self with rfl | rfl <;> simp <;> omega
    · rw[List.length_cons,bitsOf,List.range_succ_eq_map,List.map_cons,List.map_map]
      congr 1
      · rcases h b List.mem_cons_self with rfl | rfl <;> simp[bitI,Nat.testBit_zero] <;> omega
      · conv=>lhs;rw[e]
        unfold bitsOf
        apply List.map_congr_left
        intro i _
        simp only[Function.comp_def,bitI,Nat.succ_eq_add_one]
        rw[Nat.testBit_succ]
        have:(b.toNat+2 * m) / 2=m:=by
          rcases h b List.mem_cons_self with rfl | rfl <;> simp <;> omega
        rw[this]
def bitS (m i:Nat):Str:=toString (bitI m i)
def boardText (n m:Nat):Str:=Txt.join "" ((List.range n).map fun i=>bitS m i)
theorem bitS_len (m i:Nat):(bitS m i).length=1:=by
  unfold bitS
  rcases bitI_01 m i with h | h <;> (rw[h];decide +kernel)
theorem bitS_sum (n m:Nat):(((List.range n).map fun i=>bitS m i).map (·.length)).sum=n:=by
  rw[sum_ones]
  · simp
  · intro y hy
    obtain⟨i,_,rfl⟩:=List.mem_map.mp hy
    exact bitS_len m i
theorem boardText_len (n m:Nat):(boardText n m).length=n:=by
  unfold boardText
  rw[len_join,bitS_sum]
theorem shr_and (m i:Nat):Builtin.bitAnd ((m:Int) / 2 ^ i) 1=bitI m i:=by
  have h:=bit_at m i
  have e:(m:Int) / 2 ^ i=((m / 2 ^ i:Nat):Int):=by
    rw[Int.natCast_ediv,Int.natCast_pow]
    rfl
  rw[e,show (1:Int)=((1:Nat):Int) from rfl,and_nn] at h ⊢
  have l:m / 2 ^ i &&& 1<2:=by
    rw[Nat.and_one_is_mod]
    omega
  unfold bitI
  split
  · rename_i c
    rw[c] at h
    have:=of_decide_eq_true h
    exact this
  · rename_i c
    have c':m.testBit i=false:=by simpa using c
    rw[c'] at h
    have:=of_decide_eq_false h
    omega
theorem bitsOf_odd {n m:Nat} {b:Int} {r:List Int} (h:bitsOf n m=b::r):(b=1↔m.testBit 0=true):=by
  cases n with
  | zero=>cases h
  | succ n=>
    rw[bitsOf,List.range_succ_eq_map,List.map_cons] at h
    have:=(List.cons.inj h).1
    rw[← this,bitI_one]
theorem bits_lt {n m:Nat} (h:m<2 ^ n) (hn:n≤64):bitsL m=((List.range n).filter fun i=>m.testBit i).map fun i=>((i:Nat):Int):=by
  unfold bitsL
  rw[filter_bits h hn]
theorem bits_mem {m:Nat} {n:Int} (h:n∈bitsL m):0≤n∧n<64∧m.testBit n.toNat=true:=by
  obtain⟨j,hj,rfl⟩:=List.mem_map.mp h
  have q:=List.mem_filter.mp hj
  have:=List.mem_range.mp q.1
  exact⟨by omega,by omega,by simpa using q.2⟩
theorem bits_below {m k:Nat} {n:Int} (hm:m<2 ^ k) (h:n∈bitsL m):0≤n∧n<k:=by
  obtain⟨h0,_,t⟩:=bits_mem h
  refine⟨h0,?_⟩
  by_cases c:n.toNat<k
  · omega
  · rw[Nat.testBit_lt_two_pow (Nat.lt_of_lt_of_le hm (Nat.pow_le_pow_right (by decide) (by omega)))] at t
    cases t
theorem bits_asc (m:Nat):(bitsL m).Pairwise (· < ·):=by
  unfold bitsL
  rw[List.pairwise_map]
  exact (List.pairwise_lt_range.filter _).imp fun h=>by omega
theorem bits_len (m:Nat):(bitsL m).length≤64:=by
  unfold bitsL
  rw[List.length_map]
  exact Nat.le_trans (List.length_filter_le _ _) (by simp)
theorem cells_asc {ns:List Int} {s:Int} (h: ∀n∈ns,0≤n∧n<s) (ha:ns.Pairwise (· < ·)):cellsD (tupI ns) s=some ns∧cellsD (lstI ns) s=some ns:=by
  have nd:ns.Nodup:=ha.imp fun h=>by omega
  have e:areCells 0 (s - 1) (ns.map PyData.int)=true:=by
    rw[areCells,Bool.and_eq_true,intsD_map,decide_eq_true_eq]
    refine⟨List.all_eq_true.mpr fun d hd=> ?_,nd⟩
    obtain⟨n,hn,rfl⟩:=List.mem_map.mp hd
    have:=h n hn
    simp only[intIn,Bool.and_eq_true,decide_eq_true_eq]
    omega
  have i:isort ns=ns:=(isort_is (List.Perm.refl ns) (ha.imp fun h=>by omega)).symm
  refine⟨?_,?_⟩
  · rw[tupI,cellsD_seq (ds:=ns.map PyData.int) rfl,if_pos e,intsD_map,i]
  · rw[lstI,cellsD_seq (ds:=ns.map PyData.int) rfl,if_pos e,intsD_map,i]
theorem mask_lt {ns:List Int} {k:Nat} (h: ∀n∈ns,0≤n∧n<k) (nd:ns.Nodup):(maskI ns).toNat<2 ^ k:=by
  refine Nat.lt_pow_two_of_testBit _ fun i hi=> ?_
  rw[mask_bit i (fun n hn=>(h n hn).1) nd]
  refine decide_eq_false fun m=> ?_
  have:=h _ m
  omega
theorem tameL_ints' {ns:List Int} {k:Nat} (h: ∀n∈ns,n.natAbs<2 ^ 250) (hl:ns.length≤k):TameL (ns.map .int) 1 k:=by
  refine (tameL_of (k:=1) (m:=0) fun d hd=> ?_).mono (Nat.le_refl _) (by simpa using hl)
  obtain⟨n,hn,rfl⟩:=List.mem_map.mp hd
  exact tame_int (h n hn)
theorem tame_lstI {ns:List Int} {k:Nat} (h: ∀n∈ns,n.natAbs<2 ^ 250) (hl:ns.length≤k):Tame (lstI ns) 2 k:=tame_lst (tameL_ints' h hl)
theorem rg_mem {a b n:Int} (h:n∈(List.range (b - a).toNat).map fun i=>a+((i:Nat):Int)):a≤n∧n<b:=by
  obtain⟨i,hi,rfl⟩:=List.mem_map.mp h
  have:=List.mem_range.mp hi
  omega
theorem rg_lt {a b:Int}:((List.range (b - a).toNat).map fun i=>a+((i:Nat):Int)).Pairwise (· < ·):=by
  rw[List.pairwise_map]
  exact List.pairwise_lt_range.imp fun h=>by omega
theorem asc_len: ∀ {ns:List Int} {l w:Int},(∀n∈ns,l≤n∧n<w)→ns.Pairwise (· < ·)→l≤w→(ns.length:Int)≤w - l
  | [],l,w,_,_,h=>by show (0:Int)≤w - l;omega
  | n::ns,l,w,h,hp,_=>by
    have h1:=h n List.mem_cons_self
    have p1:=(List.pairwise_cons.mp hp).1
    have ih:=asc_len (ns:=ns) (l:=n+1) (w:=w) (fun m hm=>⟨by have:=p1 m hm;omega,(h m (List.mem_cons_of_mem _ hm)).2⟩) (List.pairwise_cons.mp hp).2 (by omega)
    rw[List.length_cons]
    omega
theorem pop_filter: ∀(N k:Nat),k<2 ^ N→pop k=((List.range N).filter fun i=>k.testBit i).length
  | 0,k,h=>by
    have:k=0:=by omega
    subst this
    rw[pop_zero]
    rfl
  | N+1,k,h=>by
    have ih:=pop_filter N (k / 2) (by rw[Nat.pow_succ] at h;omega)
    rw[pop_step,ih,List.range_succ_eq_map,List.filter_cons,List.filter_map,Nat.testBit_zero]
    have e:((fun i=>k.testBit i) ∘ Nat.succ)=fun i=>(k / 2).testBit i:=by
      funext i
      rw[Function.comp_apply,Nat.succ_eq_add_one,Nat.testBit_succ]
    rw[e]
    rcases Nat.mod_two_eq_zero_or_one k with c | c <;> simp[c] <;> omega
theorem pop_and {m:Nat} {ns:List Int} (h: ∀n∈ns,0≤n∧n<64) (nd:ns.Nodup):
    pop ((maskI ns).toNat &&& m)=(ns.filter fun i=>m.testBit i.toNat).length:=by
  have lt:(maskI ns).toNat &&& m<2 ^ 64:=Nat.lt_of_le_of_lt Nat.and_le_left (mask_lt (k:=64) h nd)
  rw[pop_filter 64 _ lt]
  have pm:(((List.range 64).filter fun i=>((maskI ns).toNat &&& m).testBit i).map fun i=>((i:Nat):Int)).Perm (ns.filter fun i=>m.testBit i.toNat):=by
    refine (List.perm_ext_iff_of_nodup ?_ ?_).mpr ?_
    · rw[List.nodup_iff_pairwise_ne,List.pairwise_map]
      exact (List.pairwise_lt_range.filter _).imp fun h=>by omega
    · exact nd.filter _
    · intro a
      rw[List.mem_map,List.mem_filter]
      constructor
      · rintro ⟨i,hi,rfl⟩
        have q:=(List.mem_filter.mp hi).2
        rw[Nat.testBit_and,Bool.and_eq_true,mask_bit i (fun n hn=>(h n hn).1) nd] at q
        exact⟨of_decide_eq_true q.1,by rw[Int.toNat_natCast];exact q.2⟩
      · rintro ⟨ha,hb⟩
        have ra:=h a ha
        refine⟨a.toNat,List.mem_filter.mpr ⟨List.mem_range.mpr (by omega),?_⟩,by omega⟩
        rw[Nat.testBit_and,Bool.and_eq_true,mask_bit _ (fun n hn=>(h n hn).1) nd]
        exact⟨decide_eq_true (by rwa [show ((a.toNat:Nat):Int)=a by omega]),hb⟩
  have:=pm.length_eq
  rw[List.length_map] at this
  exact this
structure FlipOk (t g:Nat):Prop where
  lt:t<2 ^ 40
  lg:g<2 ^ 40
  fix:g.testBit 0=false
  ev:oddN (t &&& g)=false
def afterM (m t g:Nat):Nat:=if oddN (m &&& t) then m ^^^ g else m
theorem oddN_xor (a b:Nat):oddN (a ^^^ b)=(oddN a !=oddN b):=by
  have h: ∀(N a b:Nat),a<2 ^ N→b<2 ^ N→oddN (a ^^^ b)=(oddN a !=oddN b):=by
    intro N
    induction N with
    | zero=>
      intro a b ha hb
      have:a=0:=by omega
      have:b=0:=by omega
      subst a b
      simp[oddN,pop_zero]
    | succ N ih=>
      intro a b ha hb
      rw[Nat.pow_succ] at ha hb
      have i:=ih (a / 2) (b / 2) (by omega) (by omega)
      unfold oddN at i ⊢
      rw[pop_step (a ^^^ b),pop_step a,pop_step b,Nat.xor_div_two]
      have x:(a ^^^ b) % 2=(a % 2+b % 2) % 2:=by
        have e:(a ^^^ b) % 2=1↔ ¬ (a % 2=1↔b % 2=1):=Nat.xor_mod_two_eq_one
        omega
      generalize pop (a / 2 ^^^ b / 2)=P at i
      generalize pop (a / 2)=A at i
      generalize pop (b / 2)=B at i
      rw[x]
      clear x
      have dm: ∀c d:Nat,(decide (c % 2=1) !=decide (d % 2=1))=decide ((c+d) % 2=1):=by
        intro c d
        rcases Nat.mod_two_eq_zero_or_one c with e1 | e1 <;> rcases Nat.mod_two_eq_zero_or_one d with e2 | e2 <;> simp[e1,e2,Nat.add_mod]
      rw[dm] at i ⊢
      have i':P % 2=1↔(A+B) % 2=1:=by
        rw[← decide_eq_true_eq (p:=P % 2=1),i,decide_eq_true_eq]
      rw[Bool.eq_iff_iff,decide_eq_true_eq,decide_eq_true_eq]
      omega
  refine h (a+b) a b ?_ ?_
  · exact Nat.lt_of_lt_of_le Nat.lt_two_pow_self (Nat.pow_le_pow_right (by decide) (by omega))
  · exact Nat.lt_of_lt_of_le Nat.lt_two_pow_self (Nat.pow_le_pow_right (by decide) (by omega))
theorem and_xor_dist (a b c:Nat):(a ^^^ b) &&& c=(a &&& c) ^^^ (b &&& c):=Nat.and_xor_distrib_right ..
theorem afterM_test {m t g:Nat} (ev:oddN (t &&& g)=false):oddN (afterM m t g &&& t)=oddN (m &&& t):=by
  unfold afterM
  split
  · rw[and_xor_dist,oddN_xor,Nat.and_comm g t,ev]
    cases oddN (m &&& t) <;> rfl
  · rfl
theorem afterM_twice {m t g:Nat} (ev:oddN (t &&& g)=false):afterM (afterM m t g) t g=m:=by
  have h:=afterM_test (m:=m) ev
  by_cases c:oddN (m &&& t)=true
  · rw[c] at h
    have e:afterM m t g=m ^^^ g:=by unfold afterM;rw[if_pos c]
    rw[e] at h ⊢
    unfold afterM
    rw[if_pos h,Nat.xor_assoc,Nat.xor_self,Nat.xor_zero]
  · have e:afterM m t g=m:=by unfold afterM;rw[if_neg c]
    rw[e,e]
def widM (t g:Nat):Nat:=max 1 (Builtin.Int.intBits ((t ||| g:Nat):Int))
theorem widM_le {t g n:Nat} (h:1≤n):widM t g≤n↔t<2 ^ n∧g<2 ^ n:=by
  unfold widM
  rw[Nat.max_le]
  have e:Builtin.Int.intBits ((t ||| g:Nat):Int)≤n↔(t ||| g)<2 ^ n:=by
    have:=PySem.intBits_le_iff (m:=n) (x:=((t ||| g:Nat):Int))
    simpa using this
  rw[e]
  constructor
  · rintro ⟨_,h2⟩
    exact⟨Nat.lt_of_le_of_lt Nat.left_le_or h2,Nat.lt_of_le_of_lt Nat.right_le_or h2⟩
  · rintro ⟨h1,h2⟩
    exact⟨h,Nat.or_lt_two_pow h1 h2⟩
theorem or_nn (a b:Nat):Builtin.bitOr (a:Int) (b:Int)=((a ||| b:Nat):Int):=by
  have h:=bitOr_nn (Int.natCast_nonneg a) (Int.natCast_nonneg b)
  simpa using h
structure PairOk (n:Nat) (ts gs:List Int):Prop where
  tr: ∀t∈ts,0≤t∧t<n
  ta:ts.Pairwise (· < ·)
  gr: ∀g∈gs,1≤g∧g<n
  ga:gs.Pairwise (· < ·)
  ev:(ts.filter fun t=>decide (t∈gs)).length % 2=0
section
variable {n : Nat} {ts gs : List Int}
theorem PairOk.tn (h:PairOk n ts gs):ts.Nodup:=h.ta.imp fun h=>by omega
theorem PairOk.gn (h:PairOk n ts gs):gs.Nodup:=h.ga.imp fun h=>by omega
theorem PairOk.g0 (h:PairOk n ts gs): ∀g∈gs,0≤g∧g<n:=fun g hg=>by have:=h.gr g hg;omega
theorem PairOk.no0 (h:PairOk n ts gs):(0:Int) ∉ gs:=fun m=>by have:=h.gr 0 m;omega
theorem PairOk.tl (h:PairOk n ts gs):ts.length≤n:=by have:=asc_len h.tr h.ta (by omega);omega
theorem PairOk.gl (h:PairOk n ts gs):gs.length≤n:=by have:=asc_len h.g0 h.ga (by omega);omega
theorem PairOk.even (h:PairOk n ts gs) (hn:n≤64):oddN ((maskI ts).toNat &&& (maskI gs).toNat)=false:=by
  unfold oddN
  rw[pop_and (fun t ht=>by have:=h.tr t ht;omega) h.tn]
  have e:(ts.filter fun i=>(maskI gs).toNat.testBit i.toNat)=ts.filter fun t=>decide (t∈gs):=by
    apply List.filter_congr
    intro t ht
    rw[mask_bit _ (fun g hg=>(h.g0 g hg).1) h.gn]
    have:=(h.tr t ht).1
    rw[show ((t.toNat:Nat):Int)=t by omega]
  rw[e,h.ev]
  rfl
theorem PairOk.flip (h:PairOk n ts gs) (hn:n≤40):FlipOk (maskI ts).toNat (maskI gs).toNat:=by
  refine⟨mask_lt (k:=40) (fun t ht=>by have:=h.tr t ht;omega) h.tn,mask_lt (k:=40) (fun t ht=>by have:=h.gr t ht;omega) h.gn,?_,h.even (by omega)⟩
  rw[mask_bit 0 (fun g hg=>(h.g0 g hg).1) h.gn]
  exact decide_eq_false h.no0
theorem PairOk.mono (h:PairOk n ts gs) {k:Nat} (hk:n≤k):PairOk k ts gs:=
  ⟨fun t ht=>by have:=h.tr t ht;omega,h.ta,fun t ht=>by have:=h.gr t ht;omega,h.ga,h.ev⟩
theorem filter_ne_len {l:List Int} {g:Int} (nd:l.Nodup) (m:g∈l):(l.filter fun t=> !decide (t=g)).length+1=l.length:=by
  have e:(l.filter fun t=> !decide (t=g))=l.erase g:=by
    rw[nd.erase_eq_filter]
    apply List.filter_congr
    intro t _
    by_cases c:t=g <;> simp[c]
  rw[e,List.length_erase_of_mem m]
  have:=List.length_pos_of_mem m
  omega
theorem PairOk.lessT {g:Int} (tr: ∀t∈ts,0≤t∧t<n) (ta:ts.Pairwise (· < ·)) (gr: ∀g∈gs,1≤g∧g<n) (ga:gs.Pairwise (· < ·)) (od:(ts.filter fun t=>decide (t∈gs)).length % 2=1)
    (m:g∈ts.filter fun t=>decide (t∈gs)):PairOk n (ts.filter fun t=> !decide (t=g)) gs:=by
  refine⟨fun t ht=>tr t ((List.mem_filter.mp ht).1),ta.filter _,gr,ga,?_⟩
  have tn:ts.Nodup:=ta.imp fun h=>by omega
  have e:((ts.filter fun t=> !decide (t=g)).filter fun t=>decide (t∈gs))=(ts.filter fun t=>decide (t∈gs)).filter fun t=> !decide (t=g):=by
    rw[List.filter_filter,List.filter_filter]
    apply List.filter_congr
    intro t _
    rw[Bool.and_comm]
  rw[e]
  have:=filter_ne_len (tn.filter _) m
  omega
theorem PairOk.lessG {g:Int} (tr: ∀t∈ts,0≤t∧t<n) (ta:ts.Pairwise (· < ·)) (gr: ∀g∈gs,1≤g∧g<n) (ga:gs.Pairwise (· < ·)) (od:(ts.filter fun t=>decide (t∈gs)).length % 2=1)
    (m:g∈ts.filter fun t=>decide (t∈gs)):PairOk n ts (gs.filter fun t=> !decide (t=g)):=by
  refine⟨tr,ta,fun t ht=>gr t ((List.mem_filter.mp ht).1),ga.filter _,?_⟩
  have tn:ts.Nodup:=ta.imp fun h=>by omega
  have e:(ts.filter fun t=>decide (t∈gs.filter fun t=> !decide (t=g)))=(ts.filter fun t=>decide (t∈gs)).filter fun t=> !decide (t=g):=by
    rw[List.filter_filter]
    apply List.filter_congr
    intro t _
    rw[Bool.eq_iff_iff,decide_eq_true_eq,List.mem_filter,Bool.and_eq_true,decide_eq_true_eq,Bool.not_eq_true',decide_eq_false_iff_not]
    exact And.comm
  rw[e]
  have:=filter_ne_len (tn.filter _) m
  omega
theorem PairOk.ct (h:PairOk n ts gs) (hn:n≤40):cellsD (lstI ts) 40=some ts∧cellsD (tupI ts) 40=some ts:=(cells_asc (fun t ht=>by have:=h.tr t ht;omega) h.ta).symm
theorem PairOk.tt (h:PairOk n ts gs) (hn:n≤40):Tame (lstI ts) 2 40:=tame_lstI (fun t ht=>by have:=h.tr t ht;omega) (by have:=h.tl;omega)
theorem PairOk.tg (h:PairOk n ts gs) (hn:n≤40):Tame (lstI gs) 2 40:=tame_lstI (fun t ht=>by have:=h.gr t ht;omega) (by have:=h.gl;omega)
end
theorem mask_lt_iff {ns:List Int} {k:Nat} (h: ∀n∈ns,0≤n) (nd:ns.Nodup):(maskI ns).toNat<2 ^ k↔ ∀n∈ns,n<k:=by
  constructor
  · intro lt n hn
    have h0:=h n hn
    have b:=mask_bit n.toNat h nd
    rw[show ((n.toNat:Nat):Int)=n by omega,decide_eq_true hn] at b
    by_cases c:n<k
    · exact c
    · rw[Nat.testBit_lt_two_pow (Nat.lt_of_lt_of_le lt (Nat.pow_le_pow_right (by decide) (by omega)))] at b
      cases b
  · intro lt
    exact mask_lt (fun n hn=>⟨h n hn,lt n hn⟩) nd
theorem bits_isort {ns:List Int} (hr: ∀n∈ns,0≤n∧n<64) (nd:ns.Nodup):bitsL (maskI ns).toNat=isort ns:=by
  refine bits_of_mask (fun i _=> ?_) (fun n hn=>hr n ((isort_perm ns).mem_iff.mp hn)) ?_
  · rw[mask_bit i (fun n hn=>(hr n hn).1) nd,Bool.eq_iff_iff,decide_eq_true_eq,decide_eq_true_eq,(isort_perm ns).mem_iff]
  · have nd2:(isort ns).Nodup:=(isort_perm ns).nodup_iff.mpr nd
    exact ((isort_le ns).and nd2).imp fun h=>by
      have h1:=h.1
      have h2:=h.2
      omega
theorem PairOk.max {n:Nat} {ts gs:List Int} {m:Int} (h:PairOk n ts gs) (mm:m∈ [0]++ts++gs) (hm: ∀y∈ [0]++ts++gs,y≤m):1+m=((widM (maskI ts).toNat (maskI gs).toNat:Nat):Int):=by
  have m0:0≤m:=hm 0 (by simp)
  have key: ∀k:Nat,1≤k→(widM (maskI ts).toNat (maskI gs).toNat≤k↔1+m≤k):=by
    intro k hk
    rw[widM_le hk,mask_lt_iff (fun t ht=>(h.tr t ht).1) h.tn,mask_lt_iff (fun t ht=>(h.g0 t ht).1) h.gn]
    constructor
    · rintro ⟨h1,h2⟩
      simp only[List.mem_append,List.mem_singleton] at mm
      rcases mm with (rfl | mm) | mm
      · omega
      · have:=h1 m mm
        omega
      · have:=h2 m mm
        omega
    · intro hk2
      refine⟨fun t ht=> ?_,fun t ht=> ?_⟩
      · have:=hm t (by simp[ht])
        omega
      · have:=hm t (by simp[ht])
        omega
  have w1:1≤widM (maskI ts).toNat (maskI gs).toNat:=Nat.le_max_left ..
  have a:=(key _ w1).mp (Nat.le_refl _)
  have b:=(key (1+m).toNat (by omega)).mpr (by omega)
  omega
def afterL (m:Nat) (fl:List (Nat×Nat)):Nat:=fl.foldl (fun m f=>afterM m f.1 f.2) m
theorem bits_self {a:List Int} (ha: ∀x∈a,0≤x∧x<64) (aa:a.Pairwise (· < ·)):bitsL (maskI a).toNat=a:=by
  rw[bits_isort ha (aa.imp fun h=>by omega)]
  exact (isort_is (List.Perm.refl a) (aa.imp fun h=>by omega)).symm
def textL (ns:List Int):Str:=if ns= [] then "-" else Txt.join "," (ns.map fun n=>(toString n:Str))
def pairText (ts gs:List Int):Str:=textL ts++ ">" ++textL gs
theorem empty_app (x:Str):Str.empty++x=x:=by
  show (⟨#[]++x.cps⟩:Str)=x
  rw[Array.empty_append]
theorem ok_of (s:String):PyData.strOk (Str.ofString s)=true:=by
  rw[ok_iff,Str.ofString_eq_toList]
  intro c hc
  rw[List.toList_toArray] at hc
  obtain⟨ch,_,rfl⟩:=List.mem_map.mp hc
  rcases ch.valid with h | ⟨_,h⟩
  · exact Nat.lt_trans h (by decide)
  · exact h
theorem ok_joinC: ∀(ys:List Str),(∀y∈ys,PyData.strOk y=true)→PyData.strOk (Txt.join "," ys)=true:=by
  intro ys h
  rw[TL.join_eq]
  induction ys with
  | nil=>decide +kernel
  | cons y r ih=>
    cases r with
    | nil=>exact h y (by simp)
    | cons u r=>exact ok_app (ok_app (h y (by simp)) (by decide +kernel)) (ih fun z hz=>h z (List.mem_cons_of_mem _ hz))
theorem len_joinC: ∀(ys:List Str),(Txt.join "," ys).length≤(ys.map (·.length)).sum+ys.length:=by
  intro ys
  rw[TL.join_eq]
  induction ys with
  | nil=>decide +kernel
  | cons y r ih=>
    cases r with
    | nil=>simp[Str.join]
    | cons u r=>
      show (y++("," :Str)++Str.join "," (u::r)).length≤_
      rw[len_app,len_app]
      simp only[List.map_cons,List.sum_cons,List.length_cons] at ih ⊢
      have:("," :Str).length=1:=by decide +kernel
      omega
theorem int_len {i:Int} (h:i.natAbs<2 ^ 250):(toString i:Str).length≤300:=by
  have:=(tame_int h).short
  simpa [PyData.leavesShort,PyData.shown] using this
theorem ints_sum {ns:List Int} (h: ∀n∈ns,n.natAbs<2 ^ 250):((ns.map fun n=>(toString n:Str)).map (·.length)).sum≤300 * ns.length:=by
  induction ns with
  | nil=>simp
  | cons n ns ih=>
    have:=ih fun m hm=>h m (List.mem_cons_of_mem _ hm)
    have:=int_len (h n (by simp))
    simp only[List.map_cons,List.sum_cons,List.length_cons]
    omega
theorem textL_len {ns:List Int} (h: ∀n∈ns,n.natAbs<2 ^ 250) (hl:ns.length≤64):(textL ns).length≤20000:=by
  unfold textL
  split
  · decide +kernel
  · have:=len_joinC (ns.map fun n=>(toString n:Str))
    have:=ints_sum h
    rw[List.length_map] at *
    omega
theorem textL_ok (ns:List Int):PyData.strOk (textL ns)=true:=by
  unfold textL
  split
  · decide +kernel
  · refine ok_joinC _ fun y hy=> ?_
    obtain⟨n,_,rfl⟩:=List.mem_map.mp hy
    exact ok_of _
theorem bits_small {m:Nat}: ∀n∈bitsL m,n.natAbs<2 ^ 250:=fun n hn=>by have:=bits_mem hn;omega
def intsTo (n:Nat):List Int:=(List.range n).map fun i=>((i:Nat):Int)
theorem mem_intsTo {n:Nat} {k:Int}:k∈intsTo n↔0≤k∧k<n:=by
  unfold intsTo
  rw[List.mem_map]
  constructor
  · rintro ⟨i,hi,rfl⟩
    have:=List.mem_range.mp hi
    omega
  · rintro ⟨h1,h2⟩
    exact⟨k.toNat,List.mem_range.mpr (by omega),by omega⟩
def bln (m:Nat):Nat:=Builtin.Int.intBits (m:Int)
abbrev Ech:=List (Nat×Nat×Nat)
inductive Spn (E:Ech):Nat→Nat→Prop where
  | zero:Spn E 0 0
  | add {L r u m i:Nat} (h:(L,r,u)∈E) (s:Spn E m i):Spn E (m ^^^ r) (i ^^^ u)
theorem Spn.even {E:Ech} {b:Nat} (h: ∀L r u,(L,r,u)∈E→oddN (r &&& b)=false) {m i:Nat} (s:Spn E m i):oddN (m &&& b)=false:=by
  induction s with
  | zero=>rw[Nat.zero_and];simp[oddN,pop_zero]
  | add hm _ ih=>rw[and_xor_dist,oddN_xor,ih,h _ _ _ hm];rfl
structure EchOk (E:Ech):Prop where
  ok: ∀L r u,(L,r,u)∈E→r≠0∧bln r=L∧r<2 ^ 40
def EchGet (E:Ech) (L:Nat):Option (Nat×Nat):=(E.find? fun e=>decide (e.1=L)).map (·.2)
theorem EchGet.mem {E:Ech} {L:Nat} {x:Nat×Nat} (h:EchGet E L=some x):(L,x.1,x.2)∈E:=by
  obtain⟨⟨L',r,u⟩,e,rfl⟩:=Option.map_eq_some_iff.mp h
  have a:=List.find?_some e
  have:=of_decide_eq_true a
  have b:=List.mem_of_find?_eq_some e
  simp only at this
  subst this
  exact b
theorem EchGet.cons {E:Ech} {L r u j:Nat}:EchGet ((L,r,u)::E) j=if j=L then some (r,u) else EchGet E j:=by
  unfold EchGet
  rw[List.find?_cons]
  by_cases c:j=L
  · subst c;simp
  · have:decide (L=j)=false:=decide_eq_false fun z=>c z.symm
    simp[this,c]
def Free (masks:List Nat):Prop:= ∀(i:Nat) (h:i<masks.length),∃b,(∀(j:Nat) (hj:j<i),oddN (masks[j] &&& b)=false)∧oddN (masks[i] &&& b)=true
section
variable {σ : L2.St} {H : Hp} {Q : VK} {D : Ends} {td ty tv te : TE} {i : Nat} {ti : TIp}
end
structure RowsOk (d:PyData) (ms:List Nat):Prop where
  ex: ∃ds,seqD d=some ds∧ds.length=ms.length∧ ∀(i:Nat) (h:i<ms.length) e,ds[i]?=some e→cellsD e ms.length=some (bitsL ms[i])∧Tame e 40 50000
  n1:1≤ms.length
  n40:ms.length≤40
  lt: ∀m∈ms,m<2 ^ 40
theorem Spn.self {E:Ech} {L r u:Nat} (h:(L,r,u)∈E):Spn E r u:=by
  have:=Spn.add h (Spn.zero (E:=E))
  rwa [Nat.zero_xor,Nat.zero_xor] at this
theorem EchOk.cons {E:Ech} {r u:Nat} (h:EchOk E) (r0:r≠0) (l:r<2 ^ 40):EchOk ((bln r,r,u)::E):=⟨fun L r' u' m=>by
  rcases List.mem_cons.mp m with z | z
  · cases z;exact⟨r0,rfl,l⟩
  · exact h.ok _ _ _ z⟩
def xorOf (ms:List Nat) (cs:List Int):Nat:=cs.foldl (fun a c=>a ^^^ ms.getD c.toNat 0) 0
theorem xorOf_from (ms:List Nat): ∀(cs:List Int) (a:Nat),cs.foldl (fun a c=>a ^^^ ms.getD c.toNat 0) a=a ^^^ xorOf ms cs
  | [],a=>by simp[xorOf]
  | c::cs,a=>by
    unfold xorOf
    rw[List.foldl_cons,List.foldl_cons,xorOf_from ms cs,xorOf_from ms cs,Nat.zero_xor,Nat.xor_assoc]
theorem xorOf_odd {ms:List Nat} {m k:Nat}: ∀ {cs:List Int},(∀c∈cs,oddN (ms.getD c.toNat 0 &&& m)=k.testBit c.toNat)→
    oddN (xorOf ms cs &&& m)=decide ((cs.filter fun c=>k.testBit c.toNat).length % 2=1)
  | [],_=>by
    show oddN (0 &&& m)=_
    rw[Nat.zero_and]
    simp[oddN,pop_zero]
  | c::cs,h=>by
    have ih:=xorOf_odd (cs:=cs) fun d hd=>h d (List.mem_cons_of_mem _ hd)
    unfold xorOf
    rw[List.foldl_cons,xorOf_from,Nat.zero_xor,and_xor_dist,oddN_xor,h c (by simp),ih,List.filter_cons]
    cases e:k.testBit c.toNat
    · simp
    · rw[if_pos rfl,List.length_cons,Bool.eq_iff_iff]
      simp
      omega
theorem xorOf_lt {ms:List Nat} {n:Nat} (h: ∀x∈ms,x<2 ^ n): ∀cs:List Int,xorOf ms cs<2 ^ n
  | []=>by
    show 0<2 ^ n
    exact Nat.two_pow_pos n
  | c::cs=>by
    unfold xorOf
    rw[List.foldl_cons,xorOf_from,Nat.zero_xor]
    refine Nat.xor_lt_two_pow ?_ (xorOf_lt h cs)
    rw[List.getD_eq_getElem?_getD]
    cases e:ms[c.toNat]? with
    | none=>exact Nat.two_pow_pos n
    | some x=>exact h x (List.mem_of_getElem? e)
def stepT (ms:List Nat) (t g:Nat):List Nat:=(List.range ms.length).map fun i=>if g.testBit i=true then ms.getD i 0 ^^^ xorOf ms (bitsL t) else ms.getD i 0
structure TabInv (n:Nat) (fl:List (Nat×Nat)) (ms:List Nat):Prop where
  len:ms.length=n
  ok: ∀m i,i<n→oddN (ms.getD i 0 &&& m)=(afterL m fl).testBit i
  lt: ∀x∈ms,x<2 ^ n
  first:ms.getD 0 0=1
theorem stepT_get {ms:List Nat} {t g i:Nat} (h:i<ms.length):(stepT ms t g).getD i 0=if g.testBit i=true then ms.getD i 0 ^^^ xorOf ms (bitsL t) else ms.getD i 0:=by
  unfold stepT
  rw[List.getD_eq_getElem?_getD,List.getElem?_map,List.getElem?_range h]
  rfl
theorem TabInv.step {n:Nat} {fl:List (Nat×Nat)} {ms:List Nat} (h:TabInv n fl ms) {t g:Nat} (n1:1≤n) (n40:n≤40) (ht:t<2 ^ n) (g0:g.testBit 0=false):TabInv n (fl++ [(t,g)]) (stepT ms t g):=by
  have t64:t<2 ^ 64:=Nat.lt_of_lt_of_le ht (Nat.pow_le_pow_right (by decide) (by omega))
  refine⟨by unfold stepT;rw[List.length_map,List.length_range];exact h.len,fun m i hi=> ?_,fun x hx=> ?_,?_⟩
  · have e:afterL m (fl++ [(t,g)])=afterM (afterL m fl) t g:=by
      unfold afterL
      rw[List.foldl_append]
      rfl
    have hx:=xorOf_odd (ms:=ms) (m:=m) (k:=afterL m fl) (cs:=bitsL t) fun c hc=>by
      have:=bits_below ht hc
      exact h.ok m c.toNat (by omega)
    have hp:=pop_and (ns:=bitsL t) (m:=afterL m fl) (fun c hc=>by have:=bits_mem hc;omega) ((bits_asc t).imp fun h=>by omega)
    rw[mask_bits t64] at hp
    have ho:oddN (afterL m fl &&& t)=oddN (xorOf ms (bitsL t) &&& m):=by
      rw[hx,Nat.and_comm]
      unfold oddN
      rw[hp]
    rw[e,stepT_get (by rw[h.len];exact hi),afterM]
    by_cases o:oddN (afterL m fl &&& t)=true
    · rw[if_pos o,Nat.testBit_xor]
      by_cases c:g.testBit i=true
      · rw[if_pos c,and_xor_dist,oddN_xor,h.ok m i hi,← ho,o,c]
      · rw[if_neg c,h.ok m i hi,Bool.eq_false_iff.mpr c,Bool.xor_false]
    · rw[if_neg o]
      by_cases c:g.testBit i=true
      · rw[if_pos c,and_xor_dist,oddN_xor,h.ok m i hi,← ho,Bool.eq_false_iff.mpr o]
        cases (afterL m fl).testBit i <;> rfl
      · rw[if_neg c,h.ok m i hi]
  · unfold stepT at hx
    obtain⟨i,hi,rfl⟩:=List.mem_map.mp hx
    have hg:ms.getD i 0<2 ^ n:=by
      have:=List.mem_range.mp hi
      rw[List.getD_eq_getElem?_getD,List.getElem?_eq_getElem this]
      exact h.lt _ (List.getElem_mem this)
    split
    · exact Nat.xor_lt_two_pow hg (xorOf_lt h.lt _)
    · exact hg
  · rw[stepT_get (by rw[h.len];omega),if_neg (by rw[g0];decide)]
    exact h.first
theorem after_back: ∀(fl:List (Nat×Nat)),(∀f∈fl,oddN (f.1 &&& f.2)=false)→ ∀x,afterL (afterL x fl.reverse) fl=x
  | [],_,x=>rfl
  | f::fl,h,x=>by
    have ih:=after_back fl (fun g hg=>h g (List.mem_cons_of_mem _ hg)) x
    have e1:afterL x (f::fl).reverse=afterM (afterL x fl.reverse) f.1 f.2:=by
      rw[List.reverse_cons]
      unfold afterL
      rw[List.foldl_append]
      rfl
    have e2: ∀y,afterL y (f::fl)=afterL (afterM y f.1 f.2) fl:=fun y=>rfl
    rw[e1,e2,afterM_twice (h f (by simp)),ih]
theorem TabInv.free {n:Nat} {fl:List (Nat×Nat)} {ms:List Nat} (h:TabInv n fl ms) (hf: ∀f∈fl,oddN (f.1 &&& f.2)=false):Free ms:=by
  intro i hi
  have gd: ∀(j:Nat) (hj:j<ms.length),ms.getD j 0=ms[j]:=fun j hj=>by rw[List.getD_eq_getElem?_getD,List.getElem?_eq_getElem hj];rfl
  refine⟨afterL (2 ^ i) fl.reverse,fun j hj=> ?_,?_⟩
  · rw[← gd j (by omega),h.ok _ j (by rw[← h.len];omega),after_back fl hf,Nat.testBit_two_pow]
    simp
    omega
  · rw[← gd i hi,h.ok _ i (by rw[← h.len];exact hi),after_back fl hf,Nat.testBit_two_pow]
    simp
end PC

set_option Elab.async false
set_option linter.all false
set_option maxRecDepth 100000
set_option maxHeartbeats 2000000
namespace PC
open PySem PySem.Spec PyProof.Rows L2

section
variable {prog : Program} {w : World} {A : Around} {E : Value → Shared → Prop} {s : Shared} {K : PySem.W.Frag} {x y C f : Addr} {ox : Obj} {od : Option Obj}
end

structure EqT (K:PySem.W.Frag) (C f:Addr):Prop where
  own:PySem.W.findIn K (.ref C) "__eq__" =some (some (.ref f))
  fn:PySem.W.isFn K (.ref f)=true
  ne:PySem.W.findIn K (.ref C) "__ne__" =some (some (.builtin "object.__ne__"))
section
variable {X : Cx} {k : Nat} {f C : Addr} {fd : FuncData} {ps : List Str} {sp : Sp}
end
section
variable {X : Cx} {K : PySem.W.Frag} {H : Hp} {Q : VK} {x y : V} {Z : List Addr} {d : PyData} {ds : List PyData}
end
section
variable {X : Cx}
end
end PC

set_option Elab.async false
set_option linter.all false
set_option maxRecDepth 100000
set_option maxHeartbeats 2000000
namespace TL
open PySem PySem.Spec PyProof.Rows L2 PC

abbrev Pl:=Addr→Prop
structure Stp (Z:Pl) (H:Hp) (Z':Pl) (H':Hp):Prop where
  keep: ∀b o,¬ Z b→H b=some o→H' b=some o
  zz: ∀b,Z' b→Z b∨H b=none
section
variable {Z Z' Z'' : Pl} {H H' H'' : Hp}
theorem Stp.refl:Stp Z H Z H:=⟨fun _ _ _ e=>e,fun _ h=> .inl h⟩
theorem Stp.trans (a:Stp Z H Z' H') (b:Stp Z' H' Z'' H''):Stp Z H Z'' H'':=
  ⟨fun c o n e=>b.keep c o (fun z=>(a.zz c z).elim n fun w=>by rw[e] at w;cases w) (a.keep c o n e),
   fun c z=>(b.zz c z).elim (a.zz c) fun w=>by
    by_cases n:Z c
    · exact .inl n
    · cases e:H c with
      | none=>exact .inr rfl
      | some o=>rw[a.keep c o n e] at w;cases w⟩
theorem Stp.less (h: ∀a,Z' a→Z a):Stp Z H Z' H:=⟨fun _ _ _ e=>e,fun b z=> .inl (h b z)⟩
theorem Stp.new {n:Addr} {o:HO} (h:H n=none):Stp Z H Z (upd H n o):=⟨fun b u _ e=>by rw[upd_ne (ne_of_none e h)];exact e,fun _ z=> .inl z⟩
theorem Stp.put {a:Addr} {o:HO} (h:Z a):Stp Z H Z (upd H a o):=⟨fun b u n e=>by
  by_cases w:b=a
  · subst w;exact absurd h n
  · rw[upd_ne w];exact e,fun _ z=> .inl z⟩
theorem Stp.more {n:Addr} (h:H n=none):Stp Z H (fun b=>Z b∨b=n) H:=⟨fun _ _ _ e=>e,fun b z=>z.elim .inl fun w=> .inr (w ▸ h)⟩
theorem Stp.same (s:Same H H'):Stp Z H Z H':=⟨fun b o _ e=>s b o e,fun _ z=> .inl z⟩
theorem rd_stp {a:Addr} {u:HO} (r:Stp Z H Z' H') (n: ¬ Z a) (h:Rd H a u):Rd H' a u:=by
  rcases h with h | ⟨o,h⟩
  · exact .inl (r.keep _ _ n h)
  · exact .inr ⟨o,r.keep _ _ n h⟩
theorem rd_some {a:Addr} {u:HO} (h:Rd H a u):H a≠none:=by
  rcases h with h | ⟨o,h⟩ <;> (rw[h];exact fun z=>nomatch z)
theorem nz_stp {a:Addr} (r:Stp Z H Z' H') (n: ¬ Z a) (h:H a≠none): ¬ Z' a:=fun z=>(r.zz a z).elim n h
end

section
variable (K : PySem.W.Frag)
mutual
/-- v shows the data d; none of its own objects stands at a place of Z -/
def DatP (Z:Pl) (H:Hp):PyData→V→Prop
  | .none,v=>v= .non
  | .bool b,v=>v= .bl b
  | .int i,v=>v= .int i
  | .str x,v=>v= .str x
  | .list ds,v=> ∃a xs,v= .ref a∧ ¬ Z a∧Rd H a (.lst xs)∧DatPL Z H ds xs
  | .tuple ds,v=> ∃a xs,v= .ref a∧(¬ Z a∨SqT K (fun _=>none) a xs)∧SqT K H a xs∧DatPL Z H ds xs
  | .dict kvs,v=> ∃a es,v= .ref a∧ ¬ Z a∧H a=some (.dK es)∧DatPK Z H kvs es
def DatPL (Z:Pl) (H:Hp):List PyData→List V→Prop
  | [],vs=>vs= []
  | d::ds,vs=> ∃v r,vs=v::r∧DatP Z H d v∧DatPL Z H ds r
def DatPK (Z:Pl) (H:Hp):List (PyData×PyData)→List (Key×V)→Prop
  | [],es=>es= []
  | (k,d)::r,es=> ∃kk v t,es=(kk,v)::t∧keyD kk=k∧DatP Z H d v∧DatPK Z H r t
end
end
section
variable {K : PySem.W.Frag} {Z Z' : Pl} {H H' : Hp}
theorem sqT_stp {a:Addr} {xs:List V} (r:Stp Z H Z' H') (n: ¬ Z a∨SqT K (fun _=>none) a xs) (h:SqT K H a xs):SqT K H' a xs:=by
  rcases h with h | h
  · rcases n with n | n
    · exact .inl (rd_stp r n h)
    · rcases n with (n | ⟨o,n⟩) | n
      · cases n
      · cases n
      · exact .inr n
  · exact .inr h
theorem nzT_stp {a:Addr} {xs:List V} (r:Stp Z H Z' H') (n: ¬ Z a∨SqT K (fun _=>none) a xs) (h:SqT K H a xs): ¬ Z' a∨SqT K (fun _=>none) a xs:=by
  rcases n with n | n
  · rcases h with h | h
    · exact .inl (nz_stp r n (rd_some h))
    · exact .inr (.inr h)
  · exact .inr n
mutual
theorem DatP.up (r:Stp Z H Z' H'): ∀(d:PyData) (v:V),DatP K Z H d v→DatP K Z' H' d v
  | .none,v,h=>h
  | .bool _,v,h=>h
  | .int _,v,h=>h
  | .str _,v,h=>h
  | .list ds,v,h=>by
    simp only[DatP] at h ⊢
    obtain⟨a,xs,e,n,s,l⟩:=h
    exact⟨a,xs,e,nz_stp r n (rd_some s),rd_stp r n s,DatPL.up r ds xs l⟩
  | .tuple ds,v,h=>by
    simp only[DatP] at h ⊢
    obtain⟨a,xs,e,n,s,l⟩:=h
    exact⟨a,xs,e,nzT_stp r n s,sqT_stp r n s,DatPL.up r ds xs l⟩
  | .dict kvs,v,h=>by
    simp only[DatP] at h ⊢
    obtain⟨a,es,e,n,s,l⟩:=h
    exact⟨a,es,e,nz_stp r n (by rw[s];exact fun z=>nomatch z),r.keep _ _ n s,DatPK.up r kvs es l⟩
theorem DatPL.up (r:Stp Z H Z' H'): ∀(ds:List PyData) (vs:List V),DatPL K Z H ds vs→DatPL K Z' H' ds vs
  | [],vs,h=>h
  | d::ds,vs,h=>by
    simp only[DatPL] at h ⊢
    obtain⟨v,q,e,h1,h2⟩:=h
    exact⟨v,q,e,DatP.up r d v h1,DatPL.up r ds q h2⟩
theorem DatPK.up (r:Stp Z H Z' H'): ∀(ds:List (PyData×PyData)) (es:List (Key×V)),DatPK K Z H ds es→DatPK K Z' H' ds es
  | [],vs,h=>h
  | (k,d)::ds,vs,h=>by
    simp only[DatPK] at h ⊢
    obtain⟨kk,v,q,e,hk,h1,h2⟩:=h
    exact⟨kk,v,q,e,hk,DatP.up r d v h1,DatPK.up r ds q h2⟩
end
mutual
theorem DatP.dat: ∀(d:PyData) (v:V),DatP K Z H d v→Dat K [] H d v
  | .none,v,h=>by simpa only[DatP,Dat] using h
  | .bool _,v,h=>by simpa only[DatP,Dat] using h
  | .int _,v,h=>by simpa only[DatP,Dat] using h
  | .str _,v,h=>by simpa only[DatP,Dat] using h
  | .list ds,v,h=>by
    simp only[DatP] at h
    simp only[Dat]
    obtain⟨a,xs,e,n,s,l⟩:=h
    exact⟨a,xs,e,by simp,s,DatPL.dat ds xs l⟩
  | .tuple ds,v,h=>by
    simp only[DatP] at h
    simp only[Dat]
    obtain⟨a,xs,e,n,s,l⟩:=h
    exact⟨a,xs,e,.inl (by simp),s,DatPL.dat ds xs l⟩
  | .dict kvs,v,h=>by
    simp only[DatP] at h
    simp only[Dat]
    obtain⟨a,es,e,n,s,l⟩:=h
    exact⟨a,es,e,by simp,s,DatPK.dat kvs es l⟩
theorem DatPL.dat: ∀(ds:List PyData) (vs:List V),DatPL K Z H ds vs→DatL K [] H ds vs
  | [],vs,h=>by simpa only[DatPL,DatL] using h
  | d::ds,vs,h=>by
    simp only[DatPL] at h
    simp only[DatL]
    obtain⟨v,q,e,h1,h2⟩:=h
    exact⟨v,q,e,DatP.dat d v h1,DatPL.dat ds q h2⟩
theorem DatPK.dat: ∀(ds:List (PyData×PyData)) (es:List (Key×V)),DatPK K Z H ds es→DatK K [] H ds es
  | [],vs,h=>by simpa only[DatPK,DatK] using h
  | (k,d)::ds,vs,h=>by
    simp only[DatPK] at h
    simp only[DatK]
    obtain⟨kk,v,q,e,hk,h1,h2⟩:=h
    exact⟨kk,v,q,e,hk,DatP.dat d v h1,DatPK.dat ds q h2⟩
end
end

structure Dm (K:PySem.W.Frag) where
  at_:Pl→Hp→V→Prop
  up: ∀ {Z H Z' H' v},Stp Z H Z' H'→at_ Z H v→at_ Z' H' v
def AtL {K:PySem.W.Frag} (Z:Pl) (H:Hp):List (Dm K)→List V→Prop
  | [],vs=>vs= []
  | d::ds,vs=> ∃v r,vs=v::r∧d.at_ Z H v∧AtL Z H ds r
def AtK {K:PySem.W.Frag} {κ:Type} (Z:Pl) (H:Hp):List (κ×Dm K)→List (κ×V)→Prop
  | [],vs=>vs= []
  | d::ds,vs=> ∃v r,vs=(d.1,v)::r∧d.2.at_ Z H v∧AtK Z H ds r
section
variable {K : PySem.W.Frag} {Z Z' : Pl} {H H' : Hp}
theorem AtL.up (r:Stp Z H Z' H'): ∀ {ds:List (Dm K)} {vs:List V},AtL Z H ds vs→AtL Z' H' ds vs
  | [],_,h=>h
  | d::ds,_,⟨v,r',e,h,t⟩=>⟨v,r',e,d.up r h,AtL.up r t⟩
theorem AtL.length: ∀ {ds:List (Dm K)} {vs:List V},AtL Z H ds vs→vs.length=ds.length
  | [],_,h=>by cases h;rfl
  | d::ds,_,⟨v,r',q,h,t⟩=>by rw[q,List.length_cons,List.length_cons,AtL.length t]
theorem AtL.get: ∀ {ds:List (Dm K)} {vs:List V} {i:Nat} {d:Dm K},AtL Z H ds vs→ds[i]?=some d→ ∃v,vs[i]?=some v∧d.at_ Z H v
  | [],_,_,_,_,e=>by simp at e
  | d::ds,_,0,x,⟨v,r',q,h,t⟩,e=>by simp at e;subst e;subst q;exact⟨v,rfl,h⟩
  | d::ds,_,i+1,x,⟨v,r',q,h,t⟩,e=>by
    subst q
    obtain⟨u,e1,e2⟩:=AtL.get (i:=i) t (by simpa using e)
    exact⟨u,by simpa using e1,e2⟩
theorem AtL.getV {ds:List (Dm K)} {vs:List V} {i:Nat} {v:V} (h:AtL Z H ds vs) (e:vs[i]?=some v): ∃d,ds[i]?=some d∧d.at_ Z H v:=by
  have hi:i<ds.length:=by rw[← h.length];exact (List.getElem?_eq_some_iff.mp e).1
  obtain⟨u,e1,e2⟩:=h.get (List.getElem?_eq_getElem hi)
  rw[e] at e1
  cases e1
  exact⟨_,List.getElem?_eq_getElem hi,e2⟩
theorem AtL.append: ∀ {ds es:List (Dm K)} {vs ws:List V},AtL Z H ds vs→AtL Z H es ws→AtL Z H (ds++es) (vs++ws)
  | [],_,_,_,h,g=>by cases h;exact g
  | d::ds,_,_,_,⟨v,r',q,h,t⟩,g=>by subst q;exact⟨v,_,rfl,h,AtL.append t g⟩
theorem AtL.drop: ∀ {ds:List (Dm K)} {vs:List V} (n:Nat),AtL Z H ds vs→AtL Z H (ds.drop n) (vs.drop n)
  | _,_,0,h=>h
  | [],_,n+1,h=>by cases h;exact rfl
  | d::ds,_,n+1,⟨v,r',q,h,t⟩=>by subst q;exact AtL.drop n t
theorem AtL.take: ∀ {ds:List (Dm K)} {vs:List V} (n:Nat),AtL Z H ds vs→AtL Z H (ds.take n) (vs.take n)
  | _,_,0,h=>rfl
  | [],_,n+1,h=>by cases h;exact rfl
  | d::ds,_,n+1,⟨v,r',q,h,t⟩=>by subst q;exact⟨v,_,rfl,h,AtL.take n t⟩
theorem AtL.set: ∀ {ds:List (Dm K)} {vs:List V} (i:Nat) {d:Dm K} {v:V},AtL Z H ds vs→d.at_ Z H v→AtL Z H (ds.set i d) (vs.set i v)
  | [],_,_,_,_,h,_=>by cases h;exact rfl
  | d::ds,_,0,_,_,⟨v,r',q,h,t⟩,g=>by subst q;exact⟨_,_,rfl,g,t⟩
  | d::ds,_,i+1,_,_,⟨v,r',q,h,t⟩,g=>by subst q;exact⟨v,_,rfl,h,AtL.set i t g⟩
theorem AtL.erase: ∀ {ds:List (Dm K)} {vs:List V} (i:Nat),AtL Z H ds vs→AtL Z H (ds.eraseIdx i) (vs.eraseIdx i)
  | [],_,_,h=>by cases h;exact rfl
  | d::ds,_,0,⟨v,r',q,h,t⟩=>by subst q;exact t
  | d::ds,_,i+1,⟨v,r',q,h,t⟩=>by subst q;exact⟨v,_,rfl,h,AtL.erase i t⟩
theorem AtL.rev: ∀ {ds:List (Dm K)} {vs:List V},AtL Z H ds vs→AtL Z H ds.reverse vs.reverse
  | [],_,h=>by cases h;exact rfl
  | d::ds,_,⟨v,r',q,h,t⟩=>by subst q;rw[List.reverse_cons,List.reverse_cons];exact (AtL.rev t).append ⟨v,[],rfl,h,rfl⟩
theorem AtL.one {d:Dm K} {v:V} (h:d.at_ Z H v):AtL Z H [d] [v]:=⟨v,[],rfl,h,rfl⟩
variable {κ : Type}
theorem AtK.up (r:Stp Z H Z' H'): ∀ {ds:List (κ×Dm K)} {vs:List (κ×V)},AtK Z H ds vs→AtK Z' H' ds vs
  | [],_,h=>h
  | d::ds,_,⟨v,r',e,h,t⟩=>⟨v,r',e,d.2.up r h,AtK.up r t⟩
theorem AtK.length: ∀ {ds:List (κ×Dm K)} {vs:List (κ×V)},AtK Z H ds vs→vs.length=ds.length
  | [],_,h=>by cases h;rfl
  | d::ds,_,⟨v,r',q,h,t⟩=>by rw[q,List.length_cons,List.length_cons,AtK.length t]
theorem AtK.keys: ∀ {ds:List (κ×Dm K)} {vs:List (κ×V)},AtK Z H ds vs→vs.map (·.1)=ds.map (·.1)
  | [],_,h=>by cases h;rfl
  | d::ds,_,⟨v,r',q,h,t⟩=>by rw[q,List.map_cons,List.map_cons,AtK.keys t]
def valK [DecidableEq κ] (es:List (κ×Dm K)) (k:κ):Option (Dm K):=(es.find? fun e=>decide (e.1=k)).map (·.2)
def putD [DecidableEq κ] (es:List (κ×Dm K)) (k:κ) (d:Dm K):List (κ×Dm K):=
  if (es.any fun e=>decide (e.1=k))=true then es.map (fun e=>if e.1=k then (e.1,d) else e) else es++ [(k,d)]
theorem AtK.val [DecidableEq κ] (k:κ): ∀ {ds:List (κ×Dm K)} {vs:List (κ×V)},AtK Z H ds vs→
    (valK ds k=none∧valV vs k=none)∨ ∃d v,valK ds k=some d∧valV vs k=some v∧d.at_ Z H v
  | [],_,h=>by cases h;exact .inl ⟨rfl,rfl⟩
  | d::ds,_,⟨v,r',q,h,t⟩=>by
    subst q
    by_cases e:d.1=k
    · exact .inr ⟨d.2,v,by simp[valK,List.find?_cons,e],valV_pos e,h⟩
    · rcases AtK.val k t with ⟨a,b⟩ | ⟨x,y,a,b,c⟩
      · exact .inl ⟨by simpa [valK,List.find?_cons,e] using a,by rw[valV_neg e];exact b⟩
      · exact .inr ⟨x,y,by simpa [valK,List.find?_cons,e] using a,by rw[valV_neg e];exact b,c⟩
theorem AtK.append: ∀ {ds es:List (κ×Dm K)} {vs ws:List (κ×V)},AtK Z H ds vs→AtK Z H es ws→AtK Z H (ds++es) (vs++ws)
  | [],_,_,_,h,g=>by cases h;exact g
  | d::ds,_,_,_,⟨v,r',q,h,t⟩,g=>by subst q;exact⟨v,_,rfl,h,AtK.append t g⟩
theorem AtK.put [DecidableEq κ] {k:κ} {d:Dm K} {v:V} {ds:List (κ×Dm K)} {vs:List (κ×V)} (h:AtK Z H ds vs) (hd:d.at_ Z H v):AtK Z H (putD ds k d) (putK vs k v):=by
  have ha:(vs.any fun kv=>decide (kv.1=k))=(ds.any fun kv=>decide (kv.1=k)):=by
    have e:=h.keys
    have a: ∀l:List (κ×V),(l.any fun kv=>decide (kv.1=k))=((l.map (·.1)).any fun x=>decide (x=k)):=fun l=>by simp[List.any_map,Function.comp_def]
    have b: ∀l:List (κ×Dm K),(l.any fun kv=>decide (kv.1=k))=((l.map (·.1)).any fun x=>decide (x=k)):=fun l=>by simp[List.any_map,Function.comp_def]
    rw[a,b,e]
  unfold putD putK
  rw[ha]
  split
  · have go: ∀ {ds:List (κ×Dm K)} {vs:List (κ×V)},AtK Z H ds vs→AtK Z H (ds.map fun e=>if e.1=k then (e.1,d) else e) (vs.map fun kv=>if kv.1=k then (kv.1,v) else kv):=by
      intro ds
      induction ds with
      | nil=>intro vs h;cases h;exact rfl
      | cons x ds ih=>
        rintro _ ⟨u,r',rfl,h1,t⟩
        by_cases e:x.1=k
        · exact⟨v,_,by simp[e],by simpa [e] using hd,ih t⟩
        · exact⟨u,_,by simp[e],by simpa [e] using h1,ih t⟩
    exact go h
  · exact h.append ⟨v,[],rfl,hd,rfl⟩
def setF (f:Str) (d:Dm K):List (Str×Dm K)→List (Str×Dm K)
  | []=> [(f,d)]
  | e::r=>if e.1=f then (e.1,d)::r else e::setF f d r
theorem AtK.setF {f:Str} {d:Dm K} {v:V} (hd:d.at_ Z H v): ∀ {ds:List (Str×Dm K)} {vs:List (Str×V)},AtK Z H ds vs→AtK Z H (TL.setF f d ds) (putF f v vs)
  | [],_,h=>by cases h;exact⟨v,[],rfl,hd,rfl⟩
  | x::ds,_,⟨u,r',q,h,t⟩=>by
    subst q
    by_cases e:x.1=f
    · have e1:TL.setF f d (x::ds)=(x.1,d)::ds:=by simp[TL.setF,e]
      rw[e1]
      exact⟨v,r',by simp[putF,e],hd,t⟩
    · have e1:TL.setF f d (x::ds)=x::TL.setF f d ds:=by simp[TL.setF,e]
      rw[e1]
      exact⟨u,putF f v r',by simp[putF,e],h,AtK.setF hd t⟩
theorem AtK.look {f:Str}: ∀ {ds:List (Str×Dm K)} {vs:List (Str×V)},AtK Z H ds vs→(ds.lookup f=none∧vs.lookup f=none)∨ ∃d v,ds.lookup f=some d∧vs.lookup f=some v∧d.at_ Z H v
  | [],_,h=>by cases h;exact .inl ⟨rfl,rfl⟩
  | x::ds,_,⟨u,r',q,h,t⟩=>by
    subst q
    by_cases e:f=x.1
    · refine .inr ⟨x.2,u,?_,?_,h⟩
      · show List.lookup f ((x.1,x.2)::ds)=_;rw[List.lookup_cons,beq_iff_eq.mpr e]
      · rw[List.lookup_cons,beq_iff_eq.mpr e]
    · have hb:(f == x.1)=false:=by simpa using e
      have e1:List.lookup f (x::ds)=List.lookup f ds:=by show List.lookup f ((x.1,x.2)::ds)=_;rw[List.lookup_cons,hb]
      have e2:List.lookup f ((x.1,u)::r')=List.lookup f r':=by rw[List.lookup_cons,hb]
      rw[e1,e2]
      exact AtK.look t
def dPy (d:PyData):Dm K:=⟨fun Z H v=>DatP K Z H d v,fun r h=>DatP.up r _ _ h⟩
abbrev kI:Int→Dm K:=fun i=>dPy (.int i)
abbrev kB:Bool→Dm K:=fun i=>dPy (.bool i)
abbrev kS:Str→Dm K:=fun i=>dPy (.str i)
abbrev kN:Unit→Dm K:=fun _=>dPy .none
abbrev kPy:PyData→Dm K:=dPy
def kRef:Addr→Dm K:=fun a=>⟨fun _ _ v=>v= .ref a,fun _ h=>h⟩
def kSc:List Int→Dm K:=fun ns=>⟨fun Z H v=> ∃a,v= .ref a∧(¬ Z a∨SqL K (fun _=>none) a (ns.map V.int))∧SqL K H a (ns.map V.int),by
  rintro Z H Z' H' v r ⟨a,e,n,h⟩
  rcases h with h | h
  · rcases n with n | n
    · exact⟨a,e,.inl (nz_stp r n (rd_some h)),.inl (rd_stp r n h)⟩
    · rcases n with (n | ⟨o,n⟩) | n
      · cases n
      · cases n
      · exact⟨a,e,.inr (.inr n),.inr n⟩
  · exact⟨a,e,.inr (.inr h),.inr h⟩⟩
def dL (ds:List (Dm K)):Dm K:=⟨fun Z H v=> ∃a xs,v= .ref a∧ ¬ Z a∧H a=some (.lst xs)∧AtL Z H ds xs,
  fun r ⟨a,xs,e,n,s,l⟩=>⟨a,xs,e,nz_stp r n (by rw[s];exact fun z=>nomatch z),r.keep _ _ n s,l.up r⟩⟩
def dT (ds:List (Dm K)):Dm K:=⟨fun Z H v=> ∃a xs,v= .ref a∧(¬ Z a∨SqT K (fun _=>none) a xs)∧SqT K H a xs∧AtL Z H ds xs,
  fun r ⟨a,xs,e,n,s,l⟩=>⟨a,xs,e,nzT_stp r n s,sqT_stp r n s,l.up r⟩⟩
def dP (ds:List (Dm K)):Dm K:=⟨fun Z H v=> ∃a xs,v= .ref a∧ ¬ Z a∧H a=some (.tup xs)∧AtL Z H ds xs,
  fun r ⟨a,xs,e,n,s,l⟩=>⟨a,xs,e,nz_stp r n (by rw[s];exact fun z=>nomatch z),r.keep _ _ n s,l.up r⟩⟩
def dI (C:Addr) (fs:List (Str×Dm K)):Dm K:=⟨fun Z H v=> ∃a dx xs,v= .ref a∧ ¬ Z a∧H a=some (.ins C dx xs)∧AtK Z H fs xs,
  fun r ⟨a,dx,xs,e,n,s,l⟩=>⟨a,dx,xs,e,nz_stp r n (by rw[s];exact fun z=>nomatch z),r.keep _ _ n s,l.up r⟩⟩
def kL {α:Type} (r:α→Dm K):List α→Dm K:=fun xs=>dL (xs.map r)
def kT {α:Type} (r:α→Dm K):List α→Dm K:=fun xs=>dT (xs.map r)
def kP {α β:Type} (r:α→Dm K) (s:β→Dm K):α×β→Dm K:=fun x=>dP [r x.1,s x.2]
def kP3 {α β γ:Type} (r:α→Dm K) (s:β→Dm K) (t:γ→Dm K):α×β×γ→Dm K:=fun x=>dP [r x.1,s x.2.1,t x.2.2]
def kO {α:Type} (r:α→Dm K):Option α→Dm K
  | none=>dPy .none
  | some x=>r x
def AtL.dat {f:α→PyData} {r:α→Dm K} (h: ∀x Z H v,(r x).at_ Z H v→DatP K Z H (f x) v): ∀ {xs:List α} {vs:List V},AtL Z H (xs.map r) vs→DatPL K Z H (xs.map f) vs
  | [],_,e=>by cases e;simp only[List.map_nil,DatPL]
  | x::xs,_,⟨v,r',q,g,t⟩=>by
    subst q
    simp only[List.map_cons,DatPL]
    exact⟨v,r',rfl,h x _ _ _ g,AtL.dat h t⟩
def Co {α β:Type} (r:α→Dm K) (s:β→Dm K) (f:α→β):Prop:= ∀x Z H v,(r x).at_ Z H v→(s (f x)).at_ Z H v
theorem co_id {α:Type} {r:α→Dm K}:Co r r id:=fun _ _ _ _ h=>h
theorem co_I:Co (K:=K) kI kPy PyData.int:=fun _ _ _ _ h=>h
theorem co_B:Co (K:=K) kB kPy PyData.bool:=fun _ _ _ _ h=>h
theorem co_S:Co (K:=K) kS kPy PyData.str:=fun _ _ _ _ h=>h
theorem co_N:Co (K:=K) kN kPy fun _=>PyData.none:=fun _ _ _ _ h=>h
theorem datp_tup {ds:List PyData} {a:Addr} {xs:List V} (n: ¬ Z a∨SqT K (fun _=>none) a xs) (h:SqT K H a xs) (l:DatPL K Z H ds xs):DatP K Z H (.tuple ds) (.ref a):=by
  simp only[DatP];exact⟨a,xs,rfl,n,h,l⟩
theorem datp_lst {ds:List PyData} {a:Addr} {xs:List V} (n: ¬ Z a) (h:Rd H a (.lst xs)) (l:DatPL K Z H ds xs):DatP K Z H (.list ds) (.ref a):=by
  simp only[DatP];exact⟨a,xs,rfl,n,h,l⟩
theorem co_LP {α:Type} {r:α→Dm K} {f:α→PyData} (h:Co r kPy f):Co (kL r) kPy fun xs=> .list (xs.map f):=fun xs Z H v ⟨a,ys,e,n,s,l⟩=>by
  subst e
  exact datp_lst n (.inl s) (AtL.dat h l)
theorem co_TP {α:Type} {r:α→Dm K} {f:α→PyData} (h:Co r kPy f):Co (kT r) kPy fun xs=> .tuple (xs.map f):=fun xs Z H v ⟨a,ys,e,n,s,l⟩=>by
  subst e
  exact datp_tup n s (AtL.dat h l)
theorem co_some {α:Type} {r:α→Dm K}:Co r (kO r) some:=fun _ _ _ _ h=>h
theorem co_none {α:Type} {r:α→Dm K}:Co kN (kO r) (fun _=>none):=fun _ _ _ _ h=>h
theorem at_int {i:Int} {v:V} (h:(kI (K:=K) i).at_ Z H v):v= .int i:=by simpa only[dPy,DatP] using h
theorem at_bl {i:Bool} {v:V} (h:(kB (K:=K) i).at_ Z H v):v= .bl i:=by simpa only[dPy,DatP] using h
theorem at_str {i:Str} {v:V} (h:(kS (K:=K) i).at_ Z H v):v= .str i:=by simpa only[dPy,DatP] using h
theorem at_non {i:Unit} {v:V} (h:(kN (K:=K) i).at_ Z H v):v= .non:=by simpa only[dPy,DatP] using h
theorem mk_int {i:Int}:(kI (K:=K) i).at_ Z H (.int i):=by simp only[dPy,DatP]
theorem mk_bl {i:Bool}:(kB (K:=K) i).at_ Z H (.bl i):=by simp only[dPy,DatP]
theorem mk_str {i:Str}:(kS (K:=K) i).at_ Z H (.str i):=by simp only[dPy,DatP]
theorem mk_non:(kN (K:=K) ()).at_ Z H .non:=by simp only[dPy,DatP]
end

inductive Cell (K:PySem.W.Frag)
  | pot
  | lst (ds:List (Dm K))
  | dic (es:List (Key×Dm K))
  | dct (es:List (List Key×Dm K))
  | tab (q:Str)
  | ins (C:Addr) (fs:List (Str×Dm K))
def CellOk {K:PySem.W.Frag} (Z:Pl) (H:Hp) (a:Addr):Cell K→Prop
  | .pot=>Pot a H
  | .lst ds=> ∃vs,H a=some (.lst vs)∧AtL Z H ds vs
  | .dic es=> ∃vs,H a=some (.dK vs)∧AtK Z H es vs
  | .dct es=> ∃vs,H a=some (.dT vs)∧AtK Z H es vs
  | .tab q=> ∃ps:Array Value,H a=some (.tbl ps)∧TriplesOk ps.toList∧ ∀(pos:Pos) (cv:Value),codeAmong pos ps.toList=some cv→ ∃c,cv= .ref c∧ ¬ Z c∧H c=some (LamX.CodeO c q)
  | .ins C fs=> ∃dx vs,H a=some (.ins C dx vs)∧AtK Z H fs vs
abbrev Store (K:PySem.W.Frag):=Addr→Option (Cell K)
def Store.set {K:PySem.W.Frag} (S:Store K) (a:Addr) (c:Cell K):Store K:=fun b=>if b=a then some c else S b
def Store.del {K:PySem.W.Frag} (S:Store K) (a:Addr):Store K:=fun b=>if b=a then none else S b
def Zd {K:PySem.W.Frag} (S:Store K) (F:Pl):Pl:=fun a=>S a≠none∨F a
section
variable {K : PySem.W.Frag} {S S' S'' : Store K} {F : Pl} {Z Z' : Pl} {H H' H'' : Hp} {a b : Addr} {c c' : Cell K}
theorem set_same:S.set a c a=some c:=by simp[Store.set]
theorem set_ne (h:b≠a):S.set a c b=S b:=by simp[Store.set,h]
theorem del_same:S.del a a=none:=by simp[Store.del]
theorem del_ne (h:b≠a):S.del a b=S b:=by simp[Store.del,h]
theorem set_set:(S.set a c).set a c'=S.set a c':=by funext b;unfold Store.set;split <;> rfl
theorem set_del:(S.set a c).del a=S.del a:=by
  funext b;unfold Store.set Store.del
  by_cases e:b=a
  · simp[e]
  · simp[e]
theorem del_none (h:S a=none):S.del a=S:=by
  funext b;unfold Store.del;split
  · next e=>rw[e,h]
  · rfl
theorem CellOk.up (r:Stp Z H Z' H') (hH: ∀o,H a=some o→H' a=some o): ∀ {c:Cell K},CellOk Z H a c→CellOk Z' H' a c
  | .pot,⟨x,y,e,q⟩=>⟨x,y,hH _ e,q⟩
  | .lst _,⟨vs,e,l⟩=>⟨vs,hH _ e,l.up r⟩
  | .dic _,⟨vs,e,l⟩=>⟨vs,hH _ e,l.up r⟩
  | .dct _,⟨vs,e,l⟩=>⟨vs,hH _ e,l.up r⟩
  | .tab _,⟨ps,e,t,g⟩=>⟨ps,hH _ e,t,fun pos cv h=>by
    obtain⟨c,e1,n,e2⟩:=g pos cv h
    exact⟨c,e1,nz_stp r n (by rw[e2];exact fun z=>nomatch z),r.keep _ _ n e2⟩⟩
  | .ins _ _,⟨dx,vs,e,l⟩=>⟨dx,vs,hH _ e,l.up r⟩
theorem CellOk.some: ∀ {c:Cell K},CellOk Z H a c→ ∃o,H a=some o∧ ∀x u,o≠ .frz x u
  | .pot,⟨x,y,e,q⟩=>⟨_,e,fun _ _ z=>nomatch z⟩
  | .lst _,⟨vs,e,l⟩=>⟨_,e,fun _ _ z=>nomatch z⟩
  | .dic _,⟨vs,e,l⟩=>⟨_,e,fun _ _ z=>nomatch z⟩
  | .dct _,⟨vs,e,l⟩=>⟨_,e,fun _ _ z=>nomatch z⟩
  | .tab _,⟨ps,e,t,g⟩=>⟨_,e,fun _ _ z=>nomatch z⟩
  | .ins _ _,⟨dx,vs,e,l⟩=>⟨_,e,fun _ _ z=>nomatch z⟩
end
def Raw (H:Hp) (a:Addr):Prop:=(∃xs,H a=some (.lst xs))∨(∃xs,H a=some (.dK xs))∨ ∃xs,H a=some (.dT xs)
structure Wd {K:PySem.W.Frag} (S:Store K) (F:Pl) (H:Hp):Prop where
  one:One H
  cell: ∀a c,S a=some c→CellOk (Zd S F) H a c
  foc: ∀a,F a→Raw H a
  dis: ∀a,F a→S a=none
structure Stq {K:PySem.W.Frag} (S:Store K) (H:Hp) (S':Store K) (H':Hp):Prop where
  keep: ∀b o,S b=none→H b=some o→H' b=some o
  dom: ∀b,S' b≠none→S b≠none∨H b=none
  occ: ∀b,H b≠none→H' b≠none
structure Nxt {K:PySem.W.Frag} (S:Store K) (F:Pl) (H:Hp) (S':Store K) (H':Hp):Prop where
  st:Stq S H S' H'
  wd:Wd S' F H'
section
variable {K : PySem.W.Frag} {S S1 S2 S' S'' : Store K} {F F' : Pl} {Z Z' : Pl} {H H1 H2 H' H'' : Hp} {a b n : Addr} {c c' : Cell K}
theorem Raw.some (h:Raw H a): ∃o,H a=some o∧ ∀x u,o≠ .frz x u:=by
  rcases h with ⟨x,h⟩ | ⟨x,h⟩ | ⟨x,h⟩ <;> exact⟨_,h,fun _ _ z=>nomatch z⟩
theorem Raw.keep (h:Raw H a) (k: ∀o,H a= .some o→H' a= .some o):Raw H' a:=by
  rcases h with ⟨x,h⟩ | ⟨x,h⟩ | ⟨x,h⟩
  · exact .inl ⟨x,k _ h⟩
  · exact .inr (.inl ⟨x,k _ h⟩)
  · exact .inr (.inr ⟨x,k _ h⟩)
theorem Wd.zsome (w:Wd S F H) (z:Zd S F a): ∃o,H a=some o∧ ∀x u,o≠ .frz x u:=by
  rcases z with z | z
  · cases e:S a with
    | none=>exact absurd e z
    | some c=>exact (w.cell a c e).some
  · exact (w.foc a z).some
theorem Wd.free (w:Wd S F H) (h:H n=none): ¬ Zd S F n:=fun z=>by
  obtain⟨o,e,_⟩:=w.zsome z
  rw[h] at e;cases e
theorem Wd.sfree (w:Wd S F H) (h:H n=none):S n=none:=by
  cases e:S n with
  | none=>rfl
  | some c=>exact absurd (.inl (by rw[e];exact fun z=>nomatch z)) (w.free h)
theorem Wd.sys (w:Wd S F H): ¬ Zd S F sysModules:=fun z=>by
  obtain⟨o,e,q⟩:=w.zsome z
  obtain⟨x,u,e2⟩:=w.one
  rw[e2] at e;cases e
  exact q _ _ rfl
theorem Stq.refl:Stq S H S H:=⟨fun _ _ _ e=>e,fun _ h=> .inl h,fun _ h=>h⟩
theorem Stq.trans (a:Stq S H S1 H1) (b:Stq S1 H1 S2 H2):Stq S H S2 H2:=
  ⟨fun c o n e=>b.keep c o (by
      cases q:S1 c with
      | none=>rfl
      | some x=>exact ((a.dom c (by rw[q];exact fun z=>nomatch z)).elim (fun z=>absurd n z) fun z=>by rw[e] at z;cases z)) (a.keep c o n e),
   fun c h=>(b.dom c h).elim (a.dom c) fun z=>by
      cases e:H c with
      | none=>exact .inr rfl
      | some o=>exact absurd z (a.occ c (by rw[e];exact fun w=>nomatch w)),
   fun c h=>b.occ c (a.occ c h)⟩
theorem Stq.stp (r:Stq S H S' H'):Stp (Zd S F) H (Zd S' F) H':=
  ⟨fun b o n e=>r.keep b o (by
      cases q:S b with
      | none=>rfl
      | some c=>exact absurd (.inl (by rw[q];exact fun z=>nomatch z)) n) e,
   fun b z=>z.elim (fun h=>(r.dom b h).imp .inl id) fun h=> .inl (.inr h)⟩
theorem Stq.one (r:Stq S H S' H') (w:Wd S F H):One H':=by
  obtain⟨o,u,e⟩:=w.one
  refine⟨o,u,r.keep _ _ ?_ e⟩
  cases q:S sysModules with
  | none=>rfl
  | some c=>exact absurd (.inl (by rw[q];exact fun z=>nomatch z)) w.sys
theorem Nxt.refl (w:Wd S F H):Nxt S F H S H:=⟨.refl,w⟩
theorem Nxt.trans (a:Nxt S F H S1 H1) (b:Nxt S1 F H1 S2 H2):Nxt S F H S2 H2:=⟨a.st.trans b.st,b.wd⟩
theorem Nxt.stp (r:Nxt S F H S' H'):Stp (Zd S F) H (Zd S' F) H':=r.st.stp
theorem Nxt.up (r:Nxt S F H S' H') {d:Dm K} {v:V} (h:d.at_ (Zd S F) H v):d.at_ (Zd S' F) H' v:=d.up r.stp h
theorem Nxt.upL (r:Nxt S F H S' H') {d:List (Dm K)} {v:List V} (h:AtL (Zd S F) H d v):AtL (Zd S' F) H' d v:=h.up r.stp
theorem Wd.new (w:Wd S F H) (h:H n=none) {o:HO}:Nxt S F H S (upd H n o):=by
  have k: ∀b u,H b=some u→upd H n o b=some u:=fun b u e=>by rw[upd_ne (ne_of_none e h)];exact e
  refine⟨⟨fun b u _ e=>k b u e,fun _ z=> .inl z,fun b z=> ?_⟩,⟨?_,fun a c e=>(w.cell a c e).up (Stp.new h) (k a),fun a z=>(w.foc a z).keep (k a),w.dis⟩⟩
  · cases e:H b with
    | none=>exact absurd e z
    | some u=>rw[k b u e];exact fun w=>nomatch w
  · obtain⟨x,u,e⟩:=w.one
    exact⟨x,u,k _ _ e⟩
theorem Wd.newS (w:Wd S F H) (h:H n=none) {o:HO} {c:Cell K} (ok:CellOk (Zd (S.set n c) F) (upd H n o) n c):Nxt S F H (S.set n c) (upd H n o):=by
  have k: ∀b u,H b=some u→upd H n o b=some u:=fun b u e=>by rw[upd_ne (ne_of_none e h)];exact e
  have st:Stp (Zd S F) H (Zd (S.set n c) F) (upd H n o):=⟨fun b u _ e=>k b u e,fun b z=>z.elim (fun z=>by
    by_cases e:b=n
    · subst e;exact .inr h
    · rw[set_ne e] at z;exact .inl (.inl z)) fun z=> .inl (.inr z)⟩
  refine⟨⟨fun b u _ e=>k b u e,fun b z=> ?_,fun b z=> ?_⟩,⟨?_,fun a c' e=> ?_,fun a z=>(w.foc a z).keep (k a),fun a z=> ?_⟩⟩
  · by_cases e:b=n
    · subst e;exact .inr h
    · rw[set_ne e] at z;exact .inl z
  · cases e:H b with
    | none=>exact absurd e z
    | some u=>rw[k b u e];exact fun w=>nomatch w
  · obtain⟨x,u,e⟩:=w.one
    exact⟨x,u,k _ _ e⟩
  · by_cases q:a=n
    · subst q;rw[set_same] at e;cases e;exact ok
    · rw[set_ne q] at e;exact (w.cell a c' e).up st (k a)
  · have q:a≠n:=fun q=>by
      obtain⟨o,e,_⟩:=(w.foc a z).some
      subst q;rw[h] at e;cases e
    rw[set_ne q];exact w.dis a z
theorem Wd.putS (w:Wd S F H) {c0:Cell K} (h:S a=some c0) {o:HO} {c:Cell K} (ok:CellOk (Zd S F) (upd H a o) a c):Nxt S F H (S.set a c) (upd H a o):=by
  have zz:Zd (S.set a c) F=Zd S F:=by
    funext b
    unfold Zd
    by_cases e:b=a
    · subst e;rw[set_same,h];simp
    · rw[set_ne e]
  have st:Stp (Zd S F) H (Zd S F) (upd H a o):=Stp.put (.inl (by rw[h];exact fun z=>nomatch z))
  have far: ∀b u,b≠a→H b=some u→upd H a o b=some u:=fun b u n e=>by rw[upd_ne n];exact e
  refine⟨⟨fun b u n e=>far b u (fun q=>by subst q;rw[h] at n;cases n) e,fun b z=> ?_,fun b z=> ?_⟩,⟨?_,fun b c' e=> ?_,fun b z=>(w.foc b z).keep fun u e=>far b u (fun q=>by subst q;rw[w.dis _ z] at h;cases h) e,fun b z=> ?_⟩⟩
  · by_cases e:b=a
    · subst e;exact .inl (by rw[h];exact fun w=>nomatch w)
    · rw[set_ne e] at z;exact .inl z
  · by_cases e:b=a
    · subst e;rw[upd_same];exact fun w=>nomatch w
    · rw[upd_ne e];exact z
  · obtain⟨x,u,e⟩:=w.one
    exact⟨x,u,far _ _ (fun q=>w.sys (.inl (by rw[q,h];exact fun w=>nomatch w))) e⟩
  · rw[zz]
    by_cases q:b=a
    · subst q;rw[set_same] at e;cases e;exact ok
    · rw[set_ne q] at e;exact (w.cell b c' e).up st fun u e=>far b u q e
  · have q:b≠a:=fun q=>by rw[q] at z;rw[w.dis _ z] at h;cases h
    rw[set_ne q];exact w.dis b z
theorem Wd.delS (w:Wd S F H):Nxt S F H (S.del a) H:=by
  have sub: ∀b,S.del a b≠none→S b≠none:=fun b z=>by
    by_cases e:b=a
    · subst e;rw[del_same] at z;exact absurd rfl z
    · rw[del_ne e] at z;exact z
  refine⟨⟨fun b u _ e=>e,fun b z=> .inl (sub b z),fun b z=>z⟩,⟨w.one,fun b c' e=> ?_,w.foc,fun b z=> ?_⟩⟩
  · have q:b≠a:=fun q=>by subst q;rw[del_same] at e;cases e
    rw[del_ne q] at e
    exact (w.cell b c' e).up (Stp.less fun x z=>z.imp (sub x) id) fun _ e=>e
  · by_cases e:b=a
    · subst e;exact del_same
    · rw[del_ne e];exact w.dis b z
theorem Wd.del_at (w:Wd S F H) {c:Cell K} (h:S a=some c): ¬ Zd (S.del a) F a:=fun z=>z.elim (fun z=>z del_same) fun z=>by rw[w.dis a z] at h;cases h
theorem Wd.lessF (w:Wd S F H) (h: ∀a,F' a→F a):Wd S F' H:=
  ⟨w.one,fun a c e=>(w.cell a c e).up (Stp.less fun x z=>z.imp id (h x)) fun _ e=>e,fun a z=>w.foc a (h a z),fun a z=>w.dis a (h a z)⟩
theorem Zd.lessF {d:Dm K} {v:V} (h: ∀a,F' a→F a) (q:d.at_ (Zd S F) H v):d.at_ (Zd S F') H v:=d.up (Stp.less fun x z=>z.imp id (h x)) q
theorem Wd.moreF (w:Wd S F H) {o:HO} (h:H n=none) (r:Raw (upd H n o) n):Wd S (fun b=>F b∨b=n) (upd H n o):=by
  have k: ∀b u,H b=some u→upd H n o b=some u:=fun b u e=>by rw[upd_ne (ne_of_none e h)];exact e
  have st:Stp (Zd S F) H (Zd S fun b=>F b∨b=n) (upd H n o):=⟨fun b u _ e=>k b u e,fun b z=>z.elim (fun z=> .inl (.inl z)) fun z=>z.elim (fun z=> .inl (.inr z)) fun z=> .inr (z ▸ h)⟩
  refine⟨?_,fun a c e=>(w.cell a c e).up st (k a),fun a z=>z.elim (fun z=>(w.foc a z).keep (k a)) fun z=>z ▸ r,fun a z=>z.elim (w.dis a) fun z=>z ▸ w.sfree h⟩
  obtain⟨x,u,e⟩:=w.one
  exact⟨x,u,k _ _ e⟩
theorem Stp.moreF (w:Wd S F H) {o:HO} (h:H n=none):Stp (Zd S F) H (Zd S fun b=>F b∨b=n) (upd H n o):=
  ⟨fun b u _ e=>by rw[upd_ne (ne_of_none e h)];exact e,fun b z=>z.elim (fun z=> .inl (.inl z)) fun z=>z.elim (fun z=> .inl (.inr z)) fun z=> .inr (z ▸ h)⟩
theorem Wd.putF (w:Wd S F H) {o:HO} (h:F n) (r:Raw (upd H n o) n):Wd S F (upd H n o):=by
  have far: ∀b u,b≠n→H b=some u→upd H n o b=some u:=fun b u m e=>by rw[upd_ne m];exact e
  have st:Stp (Zd S F) H (Zd S F) (upd H n o):=Stp.put (.inr h)
  refine⟨?_,fun a c e=>(w.cell a c e).up st fun u q=>far a u (fun z=>by subst z;rw[w.dis _ h] at e;cases e) q,fun a z=> ?_,w.dis⟩
  · obtain⟨x,u,e⟩:=w.one
    exact⟨x,u,far _ _ (fun q=>w.sys (.inr (q ▸ h))) e⟩
  · by_cases e:a=n
    · subst e;exact r
    · exact (w.foc a z).keep fun u q=>far a u e q
end

abbrev Err (K:PySem.W.Frag):=Addr×List (Str×Dm K)
def W (K:PySem.W.Frag) (α:Type):=(α→Store K→Prop)→(Err K→Store K→Prop)→Store K→Prop
section
variable {K : PySem.W.Frag} {α β : Type}
def ret (x:α):W K α:=fun Q _ S=>Q x S
def bnd (m:W K α) (k:α→W K β):W K β:=fun Q E S=>m (fun x S'=>k x Q E S') E S
def wRaise (e:Err K):W K α:=fun _ E S=>E e S
def wAss (c:Prop) (m:W K α):W K α:=fun Q E S=>c∧m Q E S
def wIf (b:Bool) (m n:W K α):W K α:=fun Q E S=>if b=true then m Q E S else n Q E S
def wCalm (m:W K α):W K α:=fun Q _ S=>m Q (fun _ _=>False) S
end
inductive Flow (S ρ:Type)
  | nx (s:S)
  | bk (s:S)
  | rt (x:ρ)
def ErrAt {K:PySem.W.Frag} (e:Err K) (Z:Pl) (H:Hp) (c:Value) (d:Option Addr):Prop:=
  c= .ref e.1∧ ∃b kvs,d=some b∧ ¬ Z b∧H b=some (.xd kvs)∧AtK Z H e.2 kvs
theorem ErrAt.up {K:PySem.W.Frag} {e:Err K} {Z Z':Pl} {H H':Hp} {c:Value} {d:Option Addr} (r:Stp Z H Z' H') (h:ErrAt e Z H c d):ErrAt e Z' H' c d:=
  let ⟨h1,b,kvs,h2,h3,h4,h5⟩:=h
  ⟨h1,b,kvs,h2,nz_stp r h3 (by rw[h4];exact fun z=>nomatch z),r.keep _ _ h3 h4,h5.up r⟩

abbrev Gm (K:PySem.W.Frag):=List (Option (Dm K))
structure Sat {K:PySem.W.Frag} (G:Gm K) (Z:Pl) (H:Hp) (σ:L2.St):Prop where
  len:σ.length=G.length
  slot: ∀(i:Nat) (d:Dm K),G[i]?=some (some d)→ ∃v,σ[i]?=some (some v)∧d.at_ Z H v
section
variable {K : PySem.W.Frag} {Z Z' : Pl} {H H' : Hp} {G : Gm K} {σ : L2.St}
theorem Sat.up (h:Sat G Z H σ) (r:Stp Z H Z' H'):Sat G Z' H' σ:=⟨h.len,fun i d e=>let ⟨v,e1,e2⟩:=h.slot i d e;⟨v,e1,d.up r e2⟩⟩
theorem Sat.set {i:Nat} {d:Dm K} {v:V} (h:Sat G Z H σ) (hd:d.at_ Z H v):Sat (G.set i (some d)) Z H (σ.set i (some v)):=by
  refine⟨by simp[h.len],fun j e hj=> ?_⟩
  rw[List.getElem?_set] at hj
  by_cases z:i=j
  · subst z
    rw[if_pos rfl] at hj
    by_cases l:i<G.length
    · rw[if_pos l] at hj
      cases hj
      exact⟨v,by rw[List.getElem?_set,if_pos rfl,if_pos (by rw[h.len];exact l)],hd⟩
    · rw[if_neg l] at hj;cases hj
  · rw[if_neg z] at hj
    obtain⟨u,e1,e2⟩:=h.slot j e hj
    exact⟨u,by rw[List.getElem?_set,if_neg z];exact e1,e2⟩
theorem Sat.wipe1 {i:Nat} (h:Sat G Z H σ):Sat (G.set i none) Z H (σ.set i none):=by
  refine⟨by simp[h.len],fun j e hj=> ?_⟩
  rw[List.getElem?_set] at hj
  by_cases z:i=j
  · subst z
    rw[if_pos rfl] at hj
    split at hj <;> cases hj
  · rw[if_neg z] at hj
    obtain⟨u,e1,e2⟩:=h.slot j e hj
    exact⟨u,by rw[List.getElem?_set,if_neg z];exact e1,e2⟩
def gwipe (G:Gm K):List Nat→Gm K
  | []=>G
  | v::vs=>(gwipe G vs).set v none
theorem Sat.wipe (h:Sat G Z H σ): ∀vs:List Nat,Sat (gwipe G vs) Z H (L2.wipe σ vs)
  | []=>h
  | v::vs=>(Sat.wipe h vs).wipe1
inductive Wk:Gm K→Gm K→Prop
  | nil:Wk [] []
  | no {a b x}:Wk a b→Wk (x::a) (Option.none::b)
  | so {a b d}:Wk a b→Wk (Option.some d::a) (Option.some d::b)
theorem Wk.len {a b:Gm K} (h:Wk a b):a.length=b.length:=by
  induction h with
  | nil=>rfl
  | no _ ih=>simp[ih]
  | so _ ih=>simp[ih]
theorem Wk.get {a b:Gm K} (h:Wk a b): ∀(i:Nat) (d:Dm K),b[i]?=some (some d)→a[i]?=some (some d):=by
  induction h with
  | nil=>intro i d e;simp at e
  | no _ ih=>
    intro i d e
    cases i with
    | zero=>simp at e
    | succ i=>simpa using ih i d (by simpa using e)
  | so _ ih=>
    intro i d e
    cases i with
    | zero=>simpa using e
    | succ i=>simpa using ih i d (by simpa using e)
theorem Sat.wk {G':Gm K} (h:Sat G Z H σ) (k:Wk G G'):Sat G' Z H σ:=⟨by rw[h.len,k.len],fun i d q=>h.slot i d (k.get i d q)⟩
end
end TL

set_option Elab.async false
set_option linter.all false
set_option maxRecDepth 100000
set_option maxHeartbeats 2000000
namespace TL
open PySem PySem.Spec PyProof.Rows L2 PC

section
variable {K : PySem.W.Frag}
def HanE (ε:WX) (S:Store K) (F:Pl) (H:Hp) (σ:L2.St) (Ep:Err K→Store K→Prop):Prop:=
  ∀e S' H' c d,Ep e S'→Nxt S F H S' H'→ErrAt e (Zd S' F) H' c d→ε c d σ H'
def Sim (ε:WX) (G:Gm K) (te:TE) {α:Type} (r:α→Dm K) (m:W K α):Prop:=
  ∀S F σ H (Q:VK) (Qp:α→Store K→Prop) (Ep:Err K→Store K→Prop),Wd S F H→Sat G (Zd S F) H σ→m Qp Ep S→
    (∀x S' H' v,Qp x S'→Nxt S F H S' H'→(r x).at_ (Zd S' F) H' v→Q v H')→HanE ε S F H σ Ep→te σ H Q
def SimB (ε:WX) (G:Gm K) (tt:TT) (m:W K Bool):Prop:=
  ∀S F σ H (Q:Bool→Hp→Prop) (Qp:Bool→Store K→Prop) (Ep:Err K→Store K→Prop),Wd S F H→Sat G (Zd S F) H σ→m Qp Ep S→
    (∀x S' H',Qp x S'→Nxt S F H S' H'→Q x H')→HanE ε S F H σ Ep→tt σ H Q
def SimA (ε:WX) (G:Gm K) (ta:TA) {τ:Type} (δ:τ→List (Dm K)) (m:W K τ):Prop:=
  ∀S F σ H (Q:List V→Hp→Prop) (Qp:τ→Store K→Prop) (Ep:Err K→Store K→Prop),Wd S F H→Sat G (Zd S F) H σ→m Qp Ep S→
    (∀x S' H' vs,Qp x S'→Nxt S F H S' H'→AtL (Zd S' F) H' (δ x) vs→Q vs H')→HanE ε S F H σ Ep→ta σ H Q
variable {ε : WX} {G : Gm K} {α β γ τ : Type} {S S1 : Store K} {F : Pl} {H H1 : Hp} {σ : L2.St}
theorem HanE.to {Ep:Err K→Store K→Prop} (h:HanE ε S F H σ Ep) (r:Nxt S F H S1 H1):HanE ε S1 F H1 σ Ep:=
  fun e S' H' c d he hr=>h e S' H' c d he (r.trans hr)
theorem hanE_no:HanE (K:=K) ε S F H σ (fun _ _=>False):=fun _ _ _ _ _ z=>z.elim
theorem wIf_t {b:Bool} {m n:W K α} {Q:α→Store K→Prop} {E:Err K→Store K→Prop} (h:wIf true m n Q E S):m Q E S:=by unfold wIf at h;rw[if_pos rfl] at h;exact h
theorem wIf_f {b:Bool} {m n:W K α} {Q:α→Store K→Prop} {E:Err K→Store K→Prop} (h:wIf false m n Q E S):n Q E S:=by unfold wIf at h;rw[if_neg (by decide)] at h;exact h
theorem sim_var {i:Nat} {r:α→Dm K} {x:α} (h:G[i]?=some (some (r x))):Sim ε G (tVar i) r (ret x):=by
  intro S F σ H Q Qp Ep w s hm hQ _
  obtain⟨v,e,hv⟩:=s.slot i _ h
  exact⟨v,e,hQ x S H v hm (.refl w) hv⟩
theorem sim_i {i:Int}:Sim ε G (tC (.int i)) kI (ret i):=fun S F σ H Q Qp Ep w s hm hQ _=>hQ _ S H _ hm (.refl w) mk_int
theorem sim_s {i:Str}:Sim ε G (tC (.str i)) kS (ret i):=fun S F σ H Q Qp Ep w s hm hQ _=>hQ _ S H _ hm (.refl w) mk_str
theorem sim_b {i:Bool}:Sim ε G (tC (.bl i)) kB (ret i):=fun S F σ H Q Qp Ep w s hm hQ _=>hQ _ S H _ hm (.refl w) mk_bl
theorem sim_n:Sim ε G (tC .non) kN (ret ()):=fun S F σ H Q Qp Ep w s hm hQ _=>hQ _ S H _ hm (.refl w) mk_non
theorem sim_co {te:TE} {r:α→Dm K} {s:β→Dm K} {f:α→β} {m:W K α} (h:Sim ε G te r m) (c:Co r s f):Sim ε G te s (bnd m fun x=>ret (f x)):=
  fun S F σ H Q Qp Ep w sa hm hQ hE=>h S F σ H Q _ Ep w sa hm (fun x S' H' v hx rr ha=>hQ (f x) S' H' v hx rr (c _ _ _ _ ha)) hE
def OpS (K:PySem.W.Frag) (r:R2) {α β γ:Type} (r1:α→Dm K) (r2:β→Dm K) (r3:γ→Dm K) (f:α→β→W K γ):Prop:=
  ∀S F H x y v w Q (Qp:γ→Store K→Prop) (Ep:Err K→Store K→Prop),Wd S F H→(r1 x).at_ (Zd S F) H v→(r2 y).at_ (Zd S F) H w→f x y Qp Ep S→
    (∀z S' H' u,Qp z S'→Nxt S F H S' H'→(r3 z).at_ (Zd S' F) H' u→Q u H')→r v w H Q
theorem sim_op {r:R2} {ta tb:TE} {r1:α→Dm K} {r2:β→Dm K} {r3:γ→Dm K} {ma:W K α} {mb:W K β} {f:α→β→W K γ}
    (o:OpS K r r1 r2 r3 f) (a:Sim ε G ta r1 ma) (b:Sim ε G tb r2 mb):Sim ε G (tOp r ta tb) r3 (bnd ma fun x=>bnd mb fun y=>f x y):=by
  intro S F σ H Q Qp Ep w s hm hQ hE
  refine a S F σ H _ _ Ep w s hm (fun x S1 H1 v hx h1 hv=> ?_) hE
  refine b S1 F σ H1 _ _ Ep h1.wd (s.up h1.stp) hx (fun y S2 H2 u hy h2 hu=> ?_) (hE.to h1)
  exact o S2 F H2 x y v u Q _ Ep h2.wd (h2.up hv) hu hy (fun z S' H' t hz h3 ht=>hQ z S' H' t hz (h1.trans (h2.trans h3)) ht)
def UnS (K:PySem.W.Frag) (r:V→Hp→VK→Prop) {α γ:Type} (r1:α→Dm K) (r3:γ→Dm K) (f:α→W K γ):Prop:=
  ∀S F H x v Q (Qp:γ→Store K→Prop) (Ep:Err K→Store K→Prop),Wd S F H→(r1 x).at_ (Zd S F) H v→f x Qp Ep S→(∀z S' H' u,Qp z S'→Nxt S F H S' H'→(r3 z).at_ (Zd S' F) H' u→Q u H')→r v H Q
theorem sim_un {r:V→Hp→VK→Prop} {ta:TE} {r1:α→Dm K} {r3:γ→Dm K} {ma:W K α} {f:α→W K γ}
    (o:UnS K r r1 r3 f) (a:Sim ε G ta r1 ma):Sim ε G (tUn r ta) r3 (bnd ma f):=by
  intro S F σ H Q Qp Ep w s hm hQ hE
  refine a S F σ H _ _ Ep w s hm (fun x S1 H1 v hx h1 hv=> ?_) hE
  exact o S1 F H1 x v Q _ Ep h1.wd hv hx (fun z S' H' t hz h3 ht=>hQ z S' H' t hz (h1.trans h3) ht)
theorem simB_test {te:TE} {m:W K Bool} (h:Sim ε G te kB m):SimB ε G (tTest te) m:=by
  intro S F σ H Q Qp Ep w s hm hQ hE
  exact h S F σ H _ _ Ep w s hm (fun x S' H' v hx hr hv=>⟨x,at_bl hv,hQ x S' H' hx hr⟩) hE
theorem simB_B {te:TE} {m:W K Bool} (h:Sim ε G te kB m):SimB ε G (tB te) m:=by
  intro S F σ H Q Qp Ep w s hm hQ hE
  exact h S F σ H _ _ Ep w s hm (fun x S' H' v hx hr hv=>⟨x,at_bl hv,hQ x S' H' hx hr⟩) hE
theorem simB_not {t:TT} {m:W K Bool} (h:SimB ε G t m):SimB ε G (tNot t) (bnd m fun b=>ret (!b)):=
  fun S F σ H Q Qp Ep w s hm hQ hE=>h S F σ H _ _ Ep w s hm (fun x S' H' hx hr=>hQ _ S' H' hx hr) hE
theorem simB_and {t u:TT} {m n:W K Bool} (h:SimB ε G t m) (g:SimB ε G u n):SimB ε G (tAnd t u) (bnd m fun b=>wIf b n (ret false)):=by
  intro S F σ H Q Qp Ep w s hm hQ hE
  refine h S F σ H _ _ Ep w s hm (fun x S1 H1 hx h1=> ?_) hE
  cases x with
  | true=>exact iteT (g S1 F σ H1 _ _ Ep h1.wd (s.up h1.stp) (wIf_t (b:=true) hx) (fun y S' H' hy h2=>hQ y S' H' hy (h1.trans h2)) (hE.to h1))
  | false=>exact iteF (hQ false S1 H1 (wIf_f (b:=true) hx) h1)
theorem simB_or {t u:TT} {m n:W K Bool} (h:SimB ε G t m) (g:SimB ε G u n):SimB ε G (tOr t u) (bnd m fun b=>wIf b (ret true) n):=by
  intro S F σ H Q Qp Ep w s hm hQ hE
  refine h S F σ H _ _ Ep w s hm (fun x S1 H1 hx h1=> ?_) hE
  cases x with
  | false=>exact iteF (g S1 F σ H1 _ _ Ep h1.wd (s.up h1.stp) (wIf_f (b:=true) hx) (fun y S' H' hy h2=>hQ y S' H' hy (h1.trans h2)) (hE.to h1))
  | true=>exact iteT (hQ true S1 H1 (wIf_t (b:=true) hx) h1)
theorem simB_yes:SimB ε G tYes (ret true):=fun S F σ H Q Qp Ep w s hm hQ hE=>hQ true S H hm (.refl w)
theorem sim_andV {t u:TE} {m n:W K Bool} (h:Sim ε G t kB m) (g:Sim ε G u kB n):Sim ε G (tAndV t u) kB (bnd m fun b=>wIf b n (ret false)):=by
  intro S F σ H Q Qp Ep w s hm hQ hE
  refine h S F σ H _ _ Ep w s hm (fun x S1 H1 v hx h1 hv=>⟨x,at_bl hv,?_⟩) hE
  cases x with
  | true=>exact iteT (g S1 F σ H1 _ _ Ep h1.wd (s.up h1.stp) (wIf_t (b:=true) hx) (fun y S' H' v hy h2 hv=>hQ y S' H' v hy (h1.trans h2) hv) (hE.to h1))
  | false=>exact iteF (hQ false S1 H1 _ (wIf_f (b:=true) hx) h1 mk_bl)
theorem sim_orV {t u:TE} {m n:W K Bool} (h:Sim ε G t kB m) (g:Sim ε G u kB n):Sim ε G (tOrV t u) kB (bnd m fun b=>wIf b (ret true) n):=by
  intro S F σ H Q Qp Ep w s hm hQ hE
  refine h S F σ H _ _ Ep w s hm (fun x S1 H1 v hx h1 hv=>⟨x,at_bl hv,?_⟩) hE
  cases x with
  | false=>exact iteF (g S1 F σ H1 _ _ Ep h1.wd (s.up h1.stp) (wIf_f (b:=true) hx) (fun y S' H' v hy h2 hv=>hQ y S' H' v hy (h1.trans h2) hv) (hE.to h1))
  | true=>exact iteT (hQ true S1 H1 _ (wIf_t (b:=true) hx) h1 mk_bl)
theorem sim_notV {t:TE} {m:W K Bool} (h:Sim ε G t kB m):Sim ε G (tNotV t) kB (bnd m fun b=>ret (!b)):=
  fun S F σ H Q Qp Ep w s hm hQ hE=>h S F σ H _ _ Ep w s hm (fun x S' H' v hx hr hv=>⟨x,at_bl hv,hQ _ S' H' _ hx hr mk_bl⟩) hE
theorem sim_if {c:TT} {t u:TE} {r:α→Dm K} {mc:W K Bool} {m n:W K α} (hc:SimB ε G c mc) (h:Sim ε G t r m) (g:Sim ε G u r n):
    Sim ε G (tIf c t u) r (bnd mc fun b=>wIf b m n):=by
  intro S F σ H Q Qp Ep w s hm hQ hE
  refine hc S F σ H _ _ Ep w s hm (fun x S1 H1 hx h1=> ?_) hE
  cases x with
  | true=>exact iteT (h S1 F σ H1 _ _ Ep h1.wd (s.up h1.stp) (wIf_t (b:=true) hx) (fun y S' H' v hy h2 hv=>hQ y S' H' v hy (h1.trans h2) hv) (hE.to h1))
  | false=>exact iteF (g S1 F σ H1 _ _ Ep h1.wd (s.up h1.stp) (wIf_f (b:=true) hx) (fun y S' H' v hy h2 hv=>hQ y S' H' v hy (h1.trans h2) hv) (hE.to h1))
theorem sim_chain {r r':R2} {ta tb tc:TE} {r1:α→Dm K} {r2:β→Dm K} {r3:γ→Dm K} {ma:W K α} {mb:W K β} {mc:W K γ} {f:α→β→W K Bool} {g:β→γ→W K Bool}
    (o:OpS K r r1 r2 kB f) (o':OpS K r' r2 r3 kB g) (a:Sim ε G ta r1 ma) (b:Sim ε G tb r2 mb) (c:Sim ε G tc r3 mc):
    Sim ε G (tChain r r' ta tb tc) kB (bnd ma fun x=>bnd mb fun y=>bnd (f x y) fun k=>wIf k (bnd mc fun z=>g y z) (ret false)):=by
  intro S F σ H Q Qp Ep w s hm hQ hE
  refine a S F σ H _ _ Ep w s hm (fun x S1 H1 v hx h1 hv=> ?_) hE
  refine b S1 F σ H1 _ _ Ep h1.wd (s.up h1.stp) hx (fun y S2 H2 u hy h2 hu=> ?_) (hE.to h1)
  refine o S2 F H2 x y v u _ _ Ep h2.wd (h2.up hv) hu hy (fun k S3 H3 t hk h3 ht=>⟨k,at_bl ht,?_⟩)
  have h13:=h1.trans (h2.trans h3)
  cases k with
  | true=>
    refine iteT (c S3 F σ H3 _ _ Ep h3.wd (s.up h13.stp) (by have q:=hk;unfold wIf at q;rw[if_pos rfl] at q;exact q) (fun z S4 H4 t2 hz h4 ht2=> ?_) (hE.to h13))
    exact o' S4 F H4 y z u t2 Q _ Ep h4.wd ((h3.trans h4).up hu) ht2 hz (fun b S' H' t3 hb h5 ht3=>hQ b S' H' t3 hb (h13.trans (h4.trans h5)) ht3)
  | false=>exact iteF (hQ false S3 H3 _ (wIf_f (b:=true) hk) h13 mk_bl)
theorem simA_nil:SimA ε G tNil (fun _:Unit=> []) (ret ()):=fun S F σ H Q Qp Ep w s hm hQ hE=>hQ () S H [] hm (.refl w) rfl
theorem simA_cons {te:TE} {tr:TA} {r:α→Dm K} {δ:τ→List (Dm K)} {m:W K α} {n:W K τ} (a:Sim ε G te r m) (b:SimA ε G tr δ n):
    SimA ε G (tCons te tr) (fun x:α×τ=>r x.1::δ x.2) (bnd m fun x=>bnd n fun y=>ret (x,y)):=by
  intro S F σ H Q Qp Ep w s hm hQ hE
  refine a S F σ H _ _ Ep w s hm (fun x S1 H1 v hx h1 hv=> ?_) hE
  refine b S1 F σ H1 _ _ Ep h1.wd (s.up h1.stp) hx (fun y S2 H2 vs hy h2 hvs=> ?_) (hE.to h1)
  exact hQ (x,y) S2 H2 _ hy (h1.trans h2) ⟨v,vs,rfl,h2.up hv,hvs⟩
theorem new_lst {ds:List (Dm K)} {vs:List V} {Q:VK} (w:Wd S F H) (h:AtL (Zd S F) H ds vs) (q: ∀H' v,Nxt S F H S H'→(dL ds).at_ (Zd S F) H' v→Q v H'):
    ∀n,H n=none→Q (.ref n) (upd H n (.lst vs)):=fun n hn=>
  q _ _ (w.new hn) ⟨n,vs,rfl,w.free hn,upd_same,h.up (Stp.new hn)⟩
theorem new_tup {ds:List (Dm K)} {vs:List V} {Q:VK} (w:Wd S F H) (h:AtL (Zd S F) H ds vs) (q: ∀H' v,Nxt S F H S H'→(dP ds).at_ (Zd S F) H' v→Q v H'):
    ∀n,H n=none→Q (.ref n) (upd H n (.tup vs)):=fun n hn=>
  q _ _ (w.new hn) ⟨n,vs,rfl,w.free hn,upd_same,h.up (Stp.new hn)⟩
theorem dP_dT {ds:List (Dm K)} {Z:Pl} {v:V} (h:(dP ds).at_ Z H v):(dT ds).at_ Z H v:=
  let ⟨a,xs,e,n,q,l⟩:=h
  ⟨a,xs,e,.inl n,.inl (.inl q),l⟩
theorem sim_lstK {tr:TA} {δ:τ→List (Dm K)} {n:W K τ} {r:α→Dm K} (f:τ→List α) (e: ∀y,δ y=(f y).map r) (hl: ∀y,(f y).length≤50000) (h:SimA ε G tr δ n):Sim ε G (tLst tr) (kL r) (bnd n fun y=>ret (f y)):=by
  intro S F σ H Q Qp Ep w s hm hQ hE
  refine h S F σ H _ _ Ep w s hm (fun x S1 H1 vs hx h1 hvs=>⟨sl_of (by rw[hvs.length,e,List.length_map];exact hl x),?_⟩) hE
  exact new_lst h1.wd hvs fun H' v h2 hv=>hQ _ S1 H' v hx (h1.trans h2) (by rw[e] at hv;exact hv)
theorem sim_tupK {tr:TA} {δ:τ→List (Dm K)} {n:W K τ} {r:α→Dm K} (f:τ→List α) (e: ∀y,δ y=(f y).map r) (hl: ∀y,(f y).length≤50000) (h:SimA ε G tr δ n):Sim ε G (tTup tr) (kT r) (bnd n fun y=>ret (f y)):=by
  intro S F σ H Q Qp Ep w s hm hQ hE
  refine h S F σ H _ _ Ep w s hm (fun x S1 H1 vs hx h1 hvs=>⟨sl_of (by rw[hvs.length,e,List.length_map];exact hl x),?_⟩) hE
  exact new_tup h1.wd hvs fun H' v h2 hv=>hQ _ S1 H' v hx (h1.trans h2) (by rw[e] at hv;exact dP_dT hv)
theorem sim_tup {tr:TA} {δ:τ→List (Dm K)} {n:W K τ} {r:α→Dm K} {f:τ→α} (h:SimA ε G tr δ n) (e: ∀y,r (f y)=dP (δ y)) (hl: ∀y,(δ y).length≤50000):
    Sim ε G (tTup tr) r (bnd n fun y=>ret (f y)):=by
  intro S F σ H Q Qp Ep w s hm hQ hE
  refine h S F σ H _ _ Ep w s hm (fun x S1 H1 vs hx h1 hvs=>⟨sl_of (by rw[hvs.length];exact hl x),?_⟩) hE
  exact new_tup h1.wd hvs fun H' v h2 hv=>hQ _ S1 H' v hx (h1.trans h2) (by rw[e];exact hv)
def CalS (ε:WX) (r:L2.St→List V→Hp→VK→Prop) {τ α:Type} (δ:τ→List (Dm K)) (r3:α→Dm K) (w:τ→W K α):Prop:=
  ∀S F σ H x vs Q (Qp:α→Store K→Prop) (Ep:Err K→Store K→Prop),Wd S F H→AtL (Zd S F) H (δ x) vs→w x Qp Ep S→(∀y S' H' v,Qp y S'→Nxt S F H S' H'→(r3 y).at_ (Zd S' F) H' v→Q v H')→
    HanE ε S F H σ Ep→r σ vs H Q
def CalKS (ε:WX) (r:L2.St→List V→List V→Hp→VK→Prop) {τ κ α:Type} (δ:τ→List (Dm K)) (δk:κ→List (Dm K)) (r3:α→Dm K) (w:τ→κ→W K α):Prop:=
  ∀S F σ H x y vs zs Q (Qp:α→Store K→Prop) (Ep:Err K→Store K→Prop),Wd S F H→AtL (Zd S F) H (δ x) vs→AtL (Zd S F) H (δk y) zs→w x y Qp Ep S→(∀y S' H' v,Qp y S'→Nxt S F H S' H'→(r3 y).at_ (Zd S' F) H' v→Q v H')→
    HanE ε S F H σ Ep→r σ vs zs H Q
theorem sim_call {r:L2.St→List V→Hp→VK→Prop} {ta:TA} {δ:τ→List (Dm K)} {r3:α→Dm K} {w:τ→W K α} {ma:W K τ}
    (c:CalS ε r δ r3 w) (a:SimA ε G ta δ ma):Sim ε G (tCS r ta) r3 (bnd ma w):=by
  intro S F σ H Q Qp Ep wd s hm hQ hE
  refine a S F σ H _ _ Ep wd s hm (fun x S1 H1 vs hx h1 hvs=> ?_) hE
  exact c S1 F σ H1 x vs Q _ Ep h1.wd hvs hx (fun y S' H' v hy h2 hv=>hQ y S' H' v hy (h1.trans h2) hv) (hE.to h1)
def CalB (K:PySem.W.Frag) (r:List V→Hp→VK→Prop) {τ α:Type} (δ:τ→List (Dm K)) (r3:α→Dm K) (w:τ→W K α):Prop:=
  ∀S F H x vs Q (Qp:α→Store K→Prop) (Ep:Err K→Store K→Prop),Wd S F H→AtL (Zd S F) H (δ x) vs→w x Qp Ep S→(∀y S' H' v,Qp y S'→Nxt S F H S' H'→(r3 y).at_ (Zd S' F) H' v→Q v H')→r vs H Q
theorem sim_callB {r:List V→Hp→VK→Prop} {ta:TA} {δ:τ→List (Dm K)} {r3:α→Dm K} {w:τ→W K α} {ma:W K τ}
    (c:CalB K r δ r3 w) (a:SimA ε G ta δ ma):Sim ε G (tCB r ta) r3 (bnd ma w):=by
  intro S F σ H Q Qp Ep wd s hm hQ hE
  refine a S F σ H _ _ Ep wd s hm (fun x S1 H1 vs hx h1 hvs=> ?_) hE
  exact c S1 F H1 x vs Q _ _ h1.wd hvs hx (fun y S' H' v hy h2 hv=>hQ y S' H' v hy (h1.trans h2) hv)
theorem sim_callK {r:L2.St→List V→List V→Hp→VK→Prop} {ta tk:TA} {κ:Type} {δ:τ→List (Dm K)} {δk:κ→List (Dm K)} {r3:α→Dm K} {w:τ→κ→W K α} {ma:W K τ} {mk:W K κ}
    (c:CalKS ε r δ δk r3 w) (a:SimA ε G ta δ ma) (k:SimA ε G tk δk mk):Sim ε G (tCKS r ta tk) r3 (bnd ma fun x=>bnd mk fun y=>w x y):=by
  intro S F σ H Q Qp Ep wd s hm hQ hE
  refine a S F σ H _ _ Ep wd s hm (fun x S1 H1 vs hx h1 hvs=> ?_) hE
  refine k S1 F σ H1 _ _ Ep h1.wd (s.up h1.stp) hx (fun y S2 H2 zs hy h2 hzs=> ?_) (hE.to h1)
  have h12:=h1.trans h2
  exact c S2 F σ H2 x y vs zs Q _ Ep h2.wd (h2.upL hvs) hzs hy (fun y S' H' v hy h3 hv=>hQ y S' H' v hy (h12.trans h3) hv) (hE.to h12)
def wRcv {K:PySem.W.Frag} {α:Type} (g:Store K→Prop) (m:W K α):W K α:=fun Q E S=>g S∧m Q E S
def lift (K:PySem.W.Frag) {τ α:Type} (δ:τ→List (Dm K)) (r:α→Dm K) (w:τ→W K α):Sp:=fun vs H Q E=> ∃S F x Qp Ep,Wd S F H∧AtL (Zd S F) H (δ x) vs∧
  w x Qp Ep S∧(∀y S' H' v,Qp y S'→Nxt S F H S' H'→(r y).at_ (Zd S' F) H' v→Q v H')∧(∀e S' H' c d,Ep e S'→Nxt S F H S' H'→ErrAt e (Zd S' F) H' c d→E c d H')
theorem cal_lift {δ:τ→List (Dm K)} {r3:α→Dm K} {w:τ→W K α}:
    CalS ε (fun σ vs H Q=>lift K δ r3 w (vs++ []) H Q (fun c d H=>ε c d σ H)) δ r3 w:=
  fun S F σ H x vs Q Qp Ep wd h hw hQ hE=>⟨S,F,x,Qp,Ep,wd,by rw[List.append_nil];exact h,hw,hQ,hE⟩
theorem cal_liftD {τ':Type} {δ:τ→List (Dm K)} {δ':τ'→List (Dm K)} {r3:α→Dm K} {w:τ'→W K α} {dvs:List V} (g:τ→τ') (ds:List (Dm K)) (e: ∀x,δ' (g x)=δ x++ds) (hd: ∀Z H,AtL Z H ds dvs):
    CalS ε (fun σ vs H Q=>lift K δ' r3 w (vs++dvs) H Q (fun c d H=>ε c d σ H)) δ r3 (fun x=>w (g x)):=
  fun S F σ H x vs Q Qp Ep wd h hw hQ hE=>⟨S,F,g x,Qp,Ep,wd,by rw[e];exact h.append (hd _ H),hw,hQ,hE⟩
theorem cal_liftK {κ τ':Type} {δ:τ→List (Dm K)} {δk:κ→List (Dm K)} {δ':τ'→List (Dm K)} {r3:α→Dm K} {w:τ'→W K α} {gV:List V→List V→List V} (g:τ→κ→τ')
    (e: ∀Z H x y vs zs,AtL Z H (δ x) vs→AtL Z H (δk y) zs→AtL Z H (δ' (g x y)) (gV vs zs)):
    CalKS ε (fun σ vs zs H Q=>lift K δ' r3 w (gV vs zs) H Q (fun c d H=>ε c d σ H)) δ δk r3 (fun x y=>w (g x y)):=
  fun S F σ H x y vs zs Q Qp Ep wd h hk hw hQ hE=>⟨S,F,g x y,Qp,Ep,wd,e _ _ _ _ _ _ h hk,hw,hQ,hE⟩
def wMk {K:PySem.W.Frag} {τ:Type} (C:Addr) (w:Addr×τ→W K Unit) (x:τ):W K Addr:=fun Q E S=> ∀a,S a=none→w (a,x) (fun _ S'=>Q a S') (fun e S'=>E e (S'.del a)) (S.set a (.ins C []))
theorem made_at {C:Addr} {a dx:Addr} (w:Wd S F H) (ha:H a=none) (hd:H dx=none) (n:dx≠a):
    Nxt S F H (S.set a (.ins C [])) (upd (upd H dx (.own a)) a (.ins C dx [])):=by
  have h1:Nxt S F H S (upd H dx (.own a)):=w.new hd
  have ha':upd H dx (.own a) a=none:=by rw[upd_ne n.symm];exact ha
  exact h1.trans (h1.wd.newS ha' ⟨dx,[],upd_same,rfl⟩)
theorem cal_mk {C:Addr} {δ:τ→List (Dm K)} {w:Addr×τ→W K Unit}:
    CalS ε (mkSp C (lift K (fun x:Addr×τ=>kRef x.1::δ x.2) kN w) [] ε) δ kRef (wMk C w):=by
  intro S F σ H x vs Q Qp Ep wd h hw hQ hE a dx ha hd n
  have nx:=made_at (C:=C) wd ha hd n
  refine⟨S.set a (.ins C []),F,(a,x),_,_,nx.wd,?_,hw a (wd.sfree ha),fun y S' H' v hq h2 hv=>⟨at_non hv,?_⟩,fun e S' H' c d he h2 hk=> ?_⟩
  · rw[List.append_nil]
    exact⟨.ref a,vs,rfl,rfl,nx.upL h⟩
  · exact hQ a S' H' _ hq (nx.trans h2) rfl
  · have h3:=nx.trans (h2.trans (h2.wd.delS (a:=a)))
    exact hE e _ H' c d he h3 (hk.up (Stp.less fun b z=>z.imp (fun z=>by
      by_cases e:b=a
      · subst e;rw[del_same] at z;exact absurd rfl z
      · rw[del_ne e] at z;exact z) id))
theorem cal_mkK {κ τ':Type} {C:Addr} {δ:τ→List (Dm K)} {δk:κ→List (Dm K)} {δ':τ'→List (Dm K)} {w:Addr×τ'→W K Unit} {gV:List V→List V→List V} (g:τ→κ→τ')
    (e: ∀Z H x y vs zs (v:V),AtL Z H (δ x) vs→AtL Z H (δk y) zs→ ∃us,gV (v::vs) zs=v::us∧AtL Z H (δ' (g x y)) us):
    CalKS ε (mkSpK C (lift K (fun x:Addr×τ'=>kRef x.1::δ' x.2) kN w) gV ε) δ δk kRef (fun x y=>wMk C w (g x y)):=by
  intro S F σ H x y vs zs Q Qp Ep wd h hk hw hQ hE a dx ha hd' n
  have nx:=made_at (C:=C) wd ha hd' n
  refine⟨S.set a (.ins C []),F,(a,g x y),_,_,nx.wd,?_,hw a (wd.sfree ha),fun y S' H' v hq h2 hv=>⟨at_non hv,?_⟩,fun e S' H' c d he h2 hk=> ?_⟩
  · obtain⟨us,e1,e2⟩:=e _ _ x y vs zs (.ref a) (nx.upL h) (nx.upL hk)
    rw[e1]
    exact⟨.ref a,us,rfl,rfl,e2⟩
  · exact hQ a S' H' _ hq (nx.trans h2) rfl
  · have h3:=nx.trans (h2.trans (h2.wd.delS (a:=a)))
    exact hE e _ H' c d he h3 (hk.up (Stp.less fun b z=>z.imp (fun z=>by
      by_cases e:b=a
      · subst e;rw[del_same] at z;exact absurd rfl z
      · rw[del_ne e] at z;exact z) id))
def wFrz {α:Type} (C:Addr) (fs:α→List (Str×Dm K)) (a:Addr):W K α:=fun Q _ S=> ∃x,S a=some (.ins C (fs x))∧Q x (S.del a)
theorem sim_frz {te:TE} {m:W K Addr} {C:Addr} {fs:α→List (Str×Dm K)} {r:α→Dm K} (e: ∀x,r x=dI C (fs x)) (h:Sim ε G te kRef m):Sim ε G te r (bnd m (wFrz C fs)):=by
  intro S F σ H Q Qp Ep w s hm hQ hE
  refine h S F σ H _ _ Ep w s hm (fun a S1 H1 v hx h1 hv=> ?_) hE
  obtain⟨x,ea,hq⟩:=hx
  cases (show v= .ref a from hv)
  obtain⟨dx,vs,e1,l⟩:=h1.wd.cell a _ ea
  have nx:Nxt S1 F H1 (S1.del a) H1:=h1.wd.delS (a:=a)
  refine hQ x _ H1 _ hq (h1.trans nx) ?_
  rw[e]
  exact⟨a,dx,vs,rfl,h1.wd.del_at ea,e1,l.up nx.stp⟩
theorem sim_fld {ta:TE} {C:Addr} {f:Str} {r:α→Dm K} {s:β→Dm K} {fs:α→List (Str×Dm K)} (g:α→β) {m:W K α} (e: ∀x,r x=dI C (fs x)) (l: ∀x,(fs x).lookup f=some (s (g x))) (c:Cls K C) (n:NoAttr K C f) (h:Sim ε G ta r m):
    Sim ε G (tFld K ta f) s (bnd m fun x=>ret (g x)):=by
  intro S F σ H Q Qp Ep w sa hm hQ hE
  refine h S F σ H _ _ Ep w sa hm (fun x S1 H1 v hx h1 hv=> ?_) hE
  rw[e] at hv
  obtain⟨a,dx,vs,e1,_,e2,q⟩:=hv
  rcases q.look (f:=f) with ⟨z,_⟩ | ⟨d,u,z1,z2,z3⟩
  · rw[l] at z;cases z
  · rw[l] at z1;cases z1
    exact⟨a,C,dx,vs,u,e1,e2,c,n,z2,hQ _ S1 H1 u hx h1 z3⟩
def wGetF {β:Type} (C:Addr) (f:Str) (s:β→Dm K) (a:Addr):W K β:=fun Q _ S=> ∃fs x,S a=some (.ins C fs)∧fs.lookup f=some (s x)∧Q x S
theorem sim_fldC {ta:TE} {C:Addr} {f:Str} {s:β→Dm K} {m:W K Addr} (c:Cls K C) (n:NoAttr K C f) (h:Sim ε G ta kRef m):Sim ε G (tFld K ta f) s (bnd m (wGetF C f s)):=by
  intro S F σ H Q Qp Ep w sa hm hQ hE
  refine h S F σ H _ _ Ep w sa hm (fun a S1 H1 v hx h1 hv=> ?_) hE
  obtain⟨fs,x,ea,l,hq⟩:=hx
  cases (show v= .ref a from hv)
  obtain⟨dx,vs,e2,q⟩:=h1.wd.cell a _ ea
  rcases q.look (f:=f) with ⟨z,_⟩ | ⟨d,u,z1,z2,z3⟩
  · rw[l] at z;cases z
  · rw[l] at z1;cases z1
    exact⟨a,C,dx,vs,u,rfl,e2,c,n,z2,hQ _ S1 H1 u hq h1 z3⟩
end
end TL

set_option Elab.async false
set_option linter.all false
set_option maxRecDepth 100000
set_option maxHeartbeats 2000000
namespace TL
open PySem PySem.Spec PyProof.Rows L2 PC

section
variable {K : PySem.W.Frag} {ε : WX} {G : Gm K} {α β γ τ S' ρ : Type} {S S1 : Store K} {F : Pl} {H H1 : Hp}
def nI {K:PySem.W.Frag}:Store K→Prop:=fun _=>True
def Fx (F:Pl) (H1:Hp) (F':Pl):Prop:=F'=F∨ ∃D,H1 D=none∧F'=fun b=>F b∨b=D
structure Iter (S1:Store K) (F:Pl) (J:It) {α:Type} (xs:List α) (r:α→Dm K) (I:Store K→Prop) (H1:Hp):Prop where
  ex: ∃(G:Hp→Prop) (Y:Nat→Hp→V→Hp→Prop),Walk J xs.length G Y∧ ∀F' S2 H2,Fx F H1 F'→Stp (Zd S1 F) H1 (Zd S2 F') H2→Wd S2 F' H2→I S2→G H2∧
    ∀i v H3 x,Y i H2 v H3→xs[i]?=some x→Nxt S2 F' H2 S2 H3∧(r x).at_ (Zd S2 F') H3 v
def SimI (ε:WX) (G:Gm K) (wi:TI) {α:Type} (r:α→Dm K) (m:W K (List α×(Store K→Prop))):Prop:=
  ∀S F σ H (RI:It→Hp→Prop) (Qp:List α×(Store K→Prop)→Store K→Prop) (Ep:Err K→Store K→Prop),Wd S F H→Sat G (Zd S F) H σ→m Qp Ep S→
    (∀xs I J S' H',Qp (xs,I) S'→Nxt S F H S' H'→Iter S' F J xs r I H'→RI J H')→HanE ε S F H σ Ep→wi σ H RI
theorem atL_at {r:α→Dm K} {xs:List α} {vs:List V} {i:Nat} {v:V} {x:α} {Z:Pl} (l:AtL Z H (xs.map r) vs) (e:vs[i]?=some v) (ex:xs[i]?=some x):(r x).at_ Z H v:=by
  obtain⟨d,e1,e2⟩:=l.getV e
  rw[List.getElem?_map,ex] at e1
  cases e1
  exact e2
theorem iter_yat {J:It} {xs:List α} {r:α→Dm K} {vs:List V} {I:Store K→Prop} {Gi:Hp→Prop} (w:Walk J xs.length Gi (YAt vs)) (l:AtL (Zd S1 F) H1 (xs.map r) vs)
    (hG: ∀F' S2 H2,Fx F H1 F'→Stp (Zd S1 F) H1 (Zd S2 F') H2→Wd S2 F' H2→I S2→Gi H2):Iter S1 F J xs r I H1:=by
  refine⟨Gi,_,w,fun F' S2 H2 hf st w2 i2=>⟨hG F' S2 H2 hf st w2 i2,?_⟩⟩
  rintro i v H3 x ⟨rfl,e⟩ ex
  exact⟨.refl w2,atL_at (l.up st) e ex⟩
theorem iter_list {a:Addr} {xs:List α} {r:α→Dm K} {vs:List V} (n: ¬ Zd S1 F a) (h:Rd H1 a (.lst vs)) (l:AtL (Zd S1 F) H1 (xs.map r) vs):Iter S1 F (Itl K a) xs r nI H1:=by
  have hl:vs.length=xs.length:=by rw[l.length,List.length_map]
  exact iter_yat (hl ▸ walk_list (K:=K) (a:=a) (xs:=vs)) l fun F' S2 H2 _ st _ _=> .inl (rd_stp st n h)
theorem iter_tup {a:Addr} {xs:List α} {r:α→Dm K} {vs:List V} (n: ¬ Zd S1 F a∨SqT K (fun _=>none) a vs) (h:SqT K H1 a vs) (l:AtL (Zd S1 F) H1 (xs.map r) vs):Iter S1 F (Itt K a) xs r nI H1:=by
  have hl:vs.length=xs.length:=by rw[l.length,List.length_map]
  exact iter_yat (hl ▸ walk_tup (K:=K) (a:=a) (xs:=vs)) l fun F' S2 H2 _ st _ _=>sqT_stp st n h
theorem simI_list {te:TE} {r:α→Dm K} {m:W K (List α)} (h:Sim ε G te (kL r) m):SimI ε G (iList K te) r (bnd m fun xs=>ret (xs,nI)):=by
  intro S F σ H RI Qp Ep w s hm hQ hE
  refine h S F σ H _ _ Ep w s hm (fun xs S' H' v hx hr hv=> ?_) hE
  obtain⟨a,vs,rfl,n,hs,l⟩:=hv
  exact⟨a,rfl,⟨vs,.inl (.inl hs)⟩,hQ xs _ _ S' H' hx hr (iter_list n (.inl hs) l)⟩
theorem simI_tup {te:TE} {r:α→Dm K} {m:W K (List α)} (h:Sim ε G te (kT r) m):SimI ε G (iTup K te) r (bnd m fun xs=>ret (xs,nI)):=by
  intro S F σ H RI Qp Ep w s hm hQ hE
  refine h S F σ H _ _ Ep w s hm (fun xs S' H' v hx hr hv=> ?_) hE
  obtain⟨a,vs,rfl,n,hs,l⟩:=hv
  exact⟨a,rfl,⟨vs,hs⟩,hQ xs _ _ S' H' hx hr (iter_tup n hs l)⟩
def wPk {β:Type} (r:α→Dm K) (a:Addr) (k:List α→W K β):W K β:=fun Q E S=> ∃xs,S a=some (.lst (xs.map r))∧k xs Q E S
def rng (a b:Int):List Int:=(List.range (b - a).toNat).map fun i:Nat=>a+(i:Int)
theorem rng_len (a b:Int):(rng a b).length=(b - a).toNat:=by simp[rng]
theorem iter_rng {a b:Int} {n:Nat} (hn:n=(b - a).toNat):Iter S1 F (Itr a n) (rng a b) (kI (K:=K)) nI H1:=by
  subst hn
  refine⟨fun _=>True,YFn fun i=> .int (a+i),by rw[rng_len];exact walk_range,fun F' S2 H2 hf st w2 i2=>⟨trivial,?_⟩⟩
  rintro i v H3 x ⟨rfl,e⟩ ex
  refine⟨.refl w2,?_⟩
  subst e
  have hi:=(List.getElem?_eq_some_iff.mp ex).1
  rw[rng_len] at hi
  unfold rng at ex
  rw[List.getElem?_map,List.getElem?_range hi] at ex
  obtain rfl:=Option.some.inj ex
  exact mk_int
theorem simI_r1 {ta:TA} {m:W K (Int×Unit)} (h:SimA ε G ta (fun x:Int×Unit=> [kI x.1]) m):
    SimI ε G (iRng1 ta) kI (bnd m fun x=>wAss (-(2 ^ 62)≤x.1∧x.1<2 ^ 62) (ret (rng 0 x.1,nI))):=by
  intro S F σ H RI Qp Ep w s hm hQ hE
  refine h S F σ H _ _ Ep w s hm (fun x S' H' vs hx hr hv=> ?_) hE
  obtain⟨v,t,rfl,q,rfl⟩:=hv
  obtain rfl:=at_int q
  exact⟨x.1,rfl,hx.1.1,hx.1.2,hQ _ _ _ S' H' hx.2 hr (iter_rng (by simp))⟩
theorem simI_r2 {ta:TA} {m:W K (Int×Int×Unit)} (h:SimA ε G ta (fun x:Int×Int×Unit=> [kI x.1,kI x.2.1]) m):
    SimI ε G (iRng2 ta) kI (bnd m fun x=>wAss (-(2 ^ 62)≤x.1∧x.1<2 ^ 62∧ -(2 ^ 62)≤x.2.1∧x.2.1<2 ^ 62) (ret (rng x.1 x.2.1,nI))):=by
  intro S F σ H RI Qp Ep w s hm hQ hE
  refine h S F σ H _ _ Ep w s hm (fun x S' H' vs hx hr hv=> ?_) hE
  obtain⟨v,t,rfl,q,v2,t2,rfl,q2,rfl⟩:=hv
  obtain rfl:=at_int q
  obtain rfl:=at_int q2
  exact⟨x.1,x.2.1,rfl,hx.1,hQ _ _ _ S' H' hx.2 hr (iter_rng rfl)⟩
theorem iter_pair {J:It} {r:α→Dm K} {s:β→Dm K} {f g:Nat→Option V} {Gi:Hp→Prop} (zs:List (α×β)) (w:Walk J zs.length Gi (YPair f g))
    (h: ∀(F':Pl) (S2:Store K) (H2:Hp),Fx F H1 F'→Stp (Zd S1 F) H1 (Zd S2 F') H2→Wd S2 F' H2→Gi H2∧(∀i v z,f i=some v→zs[i]?=some z→(r z.1).at_ (Zd S2 F') H2 v)∧ ∀i v z,g i=some v→zs[i]?=some z→(s z.2).at_ (Zd S2 F') H2 v):
    Iter S1 F J zs (kP r s) nI H1:=by
  refine⟨Gi,_,w,fun F' S2 H2 hf st w2 _=> ?_⟩
  obtain⟨hG,hx,hy⟩:=h F' S2 H2 hf st w2
  refine⟨hG,?_⟩
  rintro i v H3 z ⟨T,x,y,rfl,hT,rfl,h1,h2⟩ ez
  have nx:Nxt S2 F' H2 S2 (upd H2 T (.tup [x,y])):=w2.new hT
  exact⟨nx,T,[x,y],rfl,w2.free hT,upd_same,x,[y],rfl,nx.up (hx i x z h1 ez),y,[],rfl,nx.up (hy i y z h2 ez),rfl⟩
theorem zip_get {xs:List α} {ys:List β} {i:Nat} {z:α×β} (h:(xs.zip ys)[i]?=some z):xs[i]?=some z.1∧ys[i]?=some z.2:=by
  rw[List.getElem?_zip_eq_some] at h
  exact h
theorem simI_zip {ta:TA} {r:α→Dm K} {s:β→Dm K} {m:W K (List α×List β×Unit)} (h:SimA ε G ta (fun x:List α×List β×Unit=> [kL r x.1,kL s x.2.1]) m):
    SimI ε G (RZ.iZipA K ta) (kP r s) (bnd m fun x=>ret (x.1.zip x.2.1,nI)):=by
  intro S F σ H RI Qp Ep w st hm hQ hE
  refine h S F σ H _ _ Ep w st hm (fun x S' H' vs hx hr hv=> ?_) hE
  obtain⟨_,_,rfl,⟨a,xs,rfl,na,ha,la⟩,_,_,rfl,⟨b,ys,rfl,nb,hb,lb⟩,rfl⟩:=hv
  refine⟨a,b,xs,ys,rfl,.inl ⟨.inl (.inl ha),.inl (.inl hb),hQ _ _ _ S' H' hx hr ?_⟩⟩
  refine iter_pair _ (walk_zip (xs:=xs) (ys:=ys) ?_) (fun F' S2 H2 hf st w2=>⟨⟨.inl (rd_stp st na (.inl ha)),.inl (rd_stp st nb (.inl hb))⟩,fun i v z e ez=> ?_,fun i v z e ez=> ?_⟩)
  · rw[List.length_zip,la.length,lb.length,List.length_map,List.length_map]
  · exact atL_at (la.up st) e (zip_get ez).1
  · exact atL_at (lb.up st) e (zip_get ez).2
theorem walk_zipT {a b:Addr} {xs ys:List V} {n:Nat} (hn:n=min xs.length ys.length):Walk (RZ.ItzT K a b) n (fun H=>SqT K H a xs∧SqT K H b ys) (YPair (fun i=>xs[i]?) (fun i=>ys[i]?)):=by
  subst hn
  refine⟨fun i _ hi q=> ?_,fun _ q=>⟨xs,ys,q.1,q.2,by omega⟩,fun i H v H' _ q y=> ?_⟩
  · have h1:i<xs.length:=by omega
    have h2:i<ys.length:=by omega
    exact⟨xs,ys,xs[i],ys[i],q.1,q.2,by simp[h1],by simp[h2]⟩
  · obtain⟨T,x,z,h1,h2,h3,h4,h5⟩:=y
    exact⟨T,x,z,h1,h2,h3,h4 xs q.1,h5 ys q.2⟩
theorem simI_zipT {ta:TA} {r:α→Dm K} {s:β→Dm K} {m:W K (List α×List β×Unit)} (h:SimA ε G ta (fun x:List α×List β×Unit=> [kT r x.1,kT s x.2.1]) m):
    SimI ε G (RZ.iZipA K ta) (kP r s) (bnd m fun x=>ret (x.1.zip x.2.1,nI)):=by
  intro S F σ H RI Qp Ep w st hm hQ hE
  refine h S F σ H _ _ Ep w st hm (fun x S' H' vs hx hr hv=> ?_) hE
  obtain⟨_,_,rfl,⟨a,xs,rfl,na,ha,la⟩,_,_,rfl,⟨b,ys,rfl,nb,hb,lb⟩,rfl⟩:=hv
  refine⟨a,b,xs,ys,rfl,.inr ⟨ha,hb,hQ _ _ _ S' H' hx hr ?_⟩⟩
  refine iter_pair _ (walk_zipT (xs:=xs) (ys:=ys) ?_) (fun F' S2 H2 hf st w2=>⟨⟨sqT_stp st na ha,sqT_stp st nb hb⟩,fun i v z e ez=> ?_,fun i v z e ez=> ?_⟩)
  · rw[List.length_zip,la.length,lb.length,List.length_map,List.length_map]
  · exact atL_at (la.up st) e (zip_get ez).1
  · exact atL_at (lb.up st) e (zip_get ez).2
def enumI {α:Type} (xs:List α):List (Int×α):=xs.zipIdx.map fun y=>((y.2:Nat),y.1)
theorem enumI_len (xs:List α):(enumI xs).length=xs.length:=by simp[enumI]
theorem enumI_get {xs:List α} {i:Nat} {z:Int×α} (h:(enumI xs)[i]?=some z):z.1=(i:Nat)∧xs[i]?=some z.2:=by
  unfold enumI at h
  rw[List.getElem?_map,List.getElem?_zipIdx] at h
  cases e:xs[i]? with
  | none=>rw[e] at h;simp at h
  | some x=>rw[e] at h;simp at h;rw[← h];simp
def signs (z:Str):List Str:=z.cps.toList.map fun c=>⟨#[c]⟩
theorem simI_str {te:TE} {m:W K Str} (h:Sim ε G te kS m):SimI ε G (iStr te) kS (bnd m fun z=>ret (signs z,nI)):=by
  intro S F σ H RI Qp Ep w st hm hQ hE
  refine h S F σ H _ _ Ep w st hm (fun z S' H' v hx hr hv=>⟨z,at_str hv,hQ _ _ _ S' H' hx hr ?_⟩) hE
  have hl:z.cps.size=(signs z).length:=by simp[signs]
  refine⟨fun _=>True,_,hl ▸ walk_str (z:=z),fun F' S2 H2 hf st w2 _=>⟨trivial,?_⟩⟩
  rintro i v H3 x ⟨rfl,c,e,rfl⟩ ex
  refine⟨.refl w2,?_⟩
  unfold signs at ex
  rw[List.getElem?_map,Array.getElem?_toList,e] at ex
  obtain rfl:=Option.some.inj ex
  exact mk_str

def setAll:L2.St→List Nat→List V→L2.St
  | σ,i::is,v::vs=>setAll (σ.set i (some v)) is vs
  | σ,_,_=>σ
def gsets:Gm K→List (Nat×Dm K)→Gm K
  | G,[]=>G
  | G,x::r=>gsets (G.set x.1 (some x.2)) r
theorem Sat.sets {Z:Pl}: ∀ {l:List (Nat×Dm K)} {G:Gm K} {σ:L2.St} {vs:List V},Sat G Z H σ→AtL Z H (l.map (·.2)) vs→Sat (gsets G l) Z H (setAll σ (l.map (·.1)) vs)
  | [],G,σ,vs,h,a=>by cases a;exact h
  | x::r,G,σ,_,h,⟨v,t,e,a,b⟩=>by
    subst e
    exact Sat.sets (l:=r) (h.set a) b
def SimG (g:TG) {α:Type} (r:α→Dm K) (sets:α→List (Nat×Dm K)):Prop:= ∀Z H v x σ (N:L2.St→Hp→Prop),(r x).at_ Z H v→
  (∀vs,AtL Z H ((sets x).map (·.2)) vs→N (setAll σ ((sets x).map (·.1)) vs) H)→g v σ H N
def SimGs (t:TGs) {α:Type} (δ:α→List (Dm K)) (sets:α→List (Nat×Dm K)):Prop:= ∀Z H vs x σ (N:L2.St→Hp→Prop),AtL Z H (δ x) vs→
  (∀vs,AtL Z H ((sets x).map (·.2)) vs→N (setAll σ ((sets x).map (·.1)) vs) H)→t vs σ H N
theorem simG_name {i:Nat} {r:α→Dm K}:SimG (gName i) r fun x=> [(i,r x)]:=fun Z H v x σ N h q=>q [v] (AtL.one h)
theorem simGs_nil:SimGs (K:=K) gNil (fun _:Unit=> []) fun _=> []:=fun Z H vs x σ N h q=>⟨h,q [] rfl⟩
theorem setAll_app: ∀(is:List Nat) (vs:List V) (js:List Nat) (ws:List V) (σ:L2.St),is.length=vs.length→setAll σ (is++js) (vs++ws)=setAll (setAll σ is vs) js ws
  | [],[],_,_,_,_=>rfl
  | i::is,v::vs,js,ws,σ,h=>setAll_app is vs js ws _ (by simpa using h)
  | [],_::_,_,_,_,h=>by simp at h
  | _::_,[],_,_,_,h=>by simp at h
theorem simGs_cons {g:TG} {t:TGs} {r:α→Dm K} {δ:τ→List (Dm K)} {s:α→List (Nat×Dm K)} {ss:τ→List (Nat×Dm K)} (a:SimG g r s) (b:SimGs t δ ss):
    SimGs (gCons g t) (fun x:α×τ=>r x.1::δ x.2) fun x=>s x.1++ss x.2:=by
  rintro Z H _ x σ N ⟨v,vs,rfl,h1,h2⟩ q
  refine⟨v,vs,rfl,a Z H v x.1 σ _ h1 fun us hu=>b Z H vs x.2 _ N h2 fun ws hw=> ?_⟩
  have:=q (us++ws) (by rw[List.map_append];exact hu.append hw)
  rw[List.map_append,setAll_app _ _ _ _ _ (by rw[hu.length,List.length_map,List.length_map])] at this
  exact this
theorem simG_tup {n:Nat} {t:TGs} {r:α→Dm K} {δ:τ→List (Dm K)} {ss:τ→List (Nat×Dm K)} (f:α→τ) (b:SimGs t δ ss) (e: ∀x,r x=dP (δ (f x))) (hn: ∀x,(δ (f x)).length=n):
    SimG (gTup K n t) r fun x=>ss (f x):=by
  intro Z H v x σ N h q
  rw[e] at h
  obtain⟨a,xs,rfl,_,hs,l⟩:=h
  exact⟨a,xs,rfl,.inl (.inl hs),by rw[l.length,hn],b Z H xs (f x) σ N l q⟩
theorem simG_pair {g1 g2:TG} {r:α→Dm K} {s:β→Dm K} {s1:α→List (Nat×Dm K)} {s2:β→List (Nat×Dm K)} (a:SimG g1 r s1) (b:SimG g2 s s2):
    SimG (gTup K 2 (gCons g1 (gCons g2 gNil))) (kP r s) (fun x=>s1 x.1++(s2 x.2++ [])):=simG_tup (fun x:α×β=>(x.1,x.2,())) (simGs_cons a (simGs_cons b simGs_nil)) (fun _=>rfl) (fun _=>rfl)
theorem simG_trip {g1 g2 g3:TG} {r:α→Dm K} {s:β→Dm K} {t:γ→Dm K} {s1:α→List (Nat×Dm K)} {s2:β→List (Nat×Dm K)} {s3:γ→List (Nat×Dm K)} (a:SimG g1 r s1) (b:SimG g2 s s2) (c:SimG g3 t s3):
    SimG (gTup K 3 (gCons g1 (gCons g2 (gCons g3 gNil)))) (kP3 r s t) (fun x=>s1 x.1++(s2 x.2.1++(s3 x.2.2++ []))):=simG_tup (fun x:α×β×γ=>(x.1,x.2.1,x.2.2,())) (simGs_cons a (simGs_cons b (simGs_cons c simGs_nil))) (fun _=>rfl) (fun _=>rfl)
def fmapW {K:PySem.W.Frag} {α β:Type} (I:Store K→Prop) (c:α→W K Bool) (f:α→W K β):List α→W K (List β)
  | []=>fun Q E S=>I S∧Q [] S
  | x::xs=>fun Q E S=>I S∧bnd (c x) (fun b=>wIf b (bnd (f x) fun y=>bnd (fmapW I c f xs) fun ys=>ret (y::ys)) (fmapW I c f xs)) Q E S
theorem getElem?_set_none {σ:L2.St} {i:Nat} {j:Nat}:(σ.set i none)[j]?=if i=j∧i<σ.length then some none else σ[j]?:=by
  rw[List.getElem?_set]
  by_cases h:i=j
  · subst h
    by_cases l:i<σ.length
    · simp[l]
    · simp[l]
  · simp[h]
theorem wipe_get (σ:L2.St) (j:Nat): ∀vs:List Nat,(L2.wipe σ vs)[j]?=if j∈vs∧j<σ.length then some none else σ[j]?
  | []=>by simp[L2.wipe]
  | v::vs=>by
    show ((L2.wipe σ vs).set v none)[j]?=_
    rw[getElem?_set_none,wipe_get σ j vs,wipe_length]
    by_cases a:v=j
    · subst a
      by_cases l:v<σ.length
      · simp[l]
      · simp[l]
    · by_cases l:j<σ.length
      · have a': ¬ j=v:=fun z=>a z.symm
        simp[a,a']
      · simp[l,a]
theorem setAll_len: ∀(is:List Nat) (ws:List V) (σ:L2.St),(setAll σ is ws).length=σ.length
  | [],_,_=>rfl
  | _::_,[],_=>rfl
  | i::is,v::ws,σ=>by
    show (setAll (σ.set i (some v)) is ws).length=_
    rw[setAll_len,List.length_set]
theorem setAll_out {j:Nat}: ∀(is:List Nat) (ws:List V) (σ:L2.St),j ∉ is→(setAll σ is ws)[j]?=σ[j]?
  | [],_,_,_=>rfl
  | _::_,[],_,_=>rfl
  | i::is,v::ws,σ,h=>by
    show (setAll (σ.set i (some v)) is ws)[j]?=_
    have a:i≠j:=fun z=>h (z ▸ List.mem_cons_self)
    rw[setAll_out is ws _ fun z=>h (List.mem_cons_of_mem _ z),List.getElem?_set,if_neg a]
theorem wipe_setAll {σ:L2.St} {vs is:List Nat} {ws:List V} (h: ∀i∈is,i∈vs):L2.wipe (setAll (L2.wipe σ vs) is ws) vs=L2.wipe σ vs:=by
  apply List.ext_getElem?
  intro j
  rw[wipe_get,wipe_get,setAll_len,wipe_length]
  by_cases m:j∈vs
  · by_cases l:j<σ.length
    · simp[m,l]
    · simp only[m,l,and_false,if_false]
      rw[List.getElem?_eq_none (by rw[setAll_len,wipe_length];omega),List.getElem?_eq_none (by omega)]
  · simp only[m,false_and,if_false]
    rw[setAll_out _ _ _ fun z=>m (h j z),wipe_get]
    simp[m]
def SimN (ε:WX) (G:Gm K) (te:TE) {α:Type} (r:α→Dm K) (m:W K (List α)):Prop:=
  ∀S F σ H (Q:VK) (Qp:List α→Store K→Prop) (Ep:Err K→Store K→Prop),Wd S F H→Sat G (Zd S F) H σ→m Qp Ep S→
    (∀xs S' H' a vs,Qp xs S'→Nxt S F H S' H'→H a=none→Wd S' (fun b=>F b∨b=a) H'→ ¬ F a→H' a=some (.lst vs)→AtL (Zd S' fun b=>F b∨b=a) H' (xs.map r) vs→Q (.ref a) H')→HanE ε S F H σ Ep→te σ H Q
theorem sim_new {te:TE} {r:α→Dm K} {m:W K (List α)} (h:SimN ε G te r m):Sim ε G te (kL r) m:=by
  intro S F σ H Q Qp Ep w s hm hQ hE
  refine h S F σ H Q Qp Ep w s hm (fun xs S' H' a vs hx hr ha hs hf e l=> ?_) hE
  exact hQ xs S' H' _ hx hr ⟨a,vs,rfl,fun z=>z.elim (fun z=>z (hs.dis a (.inr rfl))) hf,e,l.up (Stp.less fun b z=>z.imp id .inl)⟩
theorem simN_lc {wi:TI} {g:TG} {tt:TT} {te:TE} {vs:List Nat} {r:α→Dm K} {r2:β→Dm K} {sets:α→List (Nat×Dm K)} {m:W K (List α×(Store K→Prop))} {mc:α→W K Bool} {me:α→W K β}
    (i:SimI ε G wi r m) (t:SimG g r sets) (hs: ∀x,∀y∈(sets x).map (·.1),y∈vs)
    (c: ∀x,SimB (fun _ _ _ _=>False) (gsets (gwipe G vs) (sets x)) tt (mc x)) (e: ∀x,Sim (fun _ _ _ _=>False) (gsets (gwipe G vs) (sets x)) te r2 (me x)):
    SimN ε G (tLc wi g tt te vs) r2 (bnd m fun xs=>wAss (xs.1.length≤50000) (wCalm (fmapW xs.2 mc me xs.1))):=by
  intro S F σ H Q Qp Ep w s hm hQ hE
  refine i S F σ H _ _ Ep w s hm (fun xs I J S1 H1 hx h1 it=> ?_) hE
  intro D hD
  have w1:=h1.wd
  obtain⟨Gi,Y,wk,hz⟩:=it.ex
  let F':Pl:=fun b=>F b∨b=D
  have fD:F' D:= .inr rfl
  have wD0:Wd S1 F' (upd H1 D (.lst [])):=w1.moreF hD (.inl ⟨[],upd_same⟩)
  have st0:Stp (Zd S1 F) H1 (Zd S1 F') (upd H1 D (.lst [])):=Stp.moreF w1 hD
  obtain⟨hl,hx⟩:=hx
  have hl:xs.length≤50000:=hl
  have fx:Fx F H1 F':= .inr ⟨D,hD,rfl⟩
  have nF: ¬ F D:=fun z=>by
    obtain⟨o,e,_⟩:=(w1.foc D z).some
    rw[hD] at e;cases e
  have sub: ∀b,F b→F' b:=fun b z=> .inl z
  have stF: ∀ {S':Store K} {H':Hp},Stq S1 H1 S' H'→Stp (Zd S1 F) H1 (Zd S' F') H':=fun q=>⟨q.stp.keep,fun b z=>z.elim (fun z=>(q.dom b z).imp .inl id) fun z=>z.elim (fun z=> .inl (.inr z)) fun z=> .inr (z ▸ hD)⟩
  have over: ∀ {S':Store K} {H':Hp} {o:HO},Stq S1 H1 S' H'→Stq S1 H1 S' (upd H' D o):=fun q=>⟨fun b u n e=>by rw[upd_ne (ne_of_none e hD)];exact q.keep b u n e,q.dom,fun b z=>by
    by_cases e:b=D
    · rw[e,upd_same];exact fun w=>nomatch w
    · rw[upd_ne e];exact q.occ b z⟩
  refine lc_it wk (Pv:=fun i H'=> ∃S' ys acc,H' D=some (.lst acc)∧Stq S1 H1 S' H'∧Wd S' F' H'∧AtL (Zd S' F') H' (ys.map r2) acc∧ys.length≤i∧fmapW I mc me (xs.drop i) (fun zs S2=>Qp (ys++zs) S2) (fun _ _=>False) S') ?_ ?_ ?_ ?_
  · exact⟨S1,[],[],upd_same,over .refl,wD0,rfl,Nat.le_refl _,by simpa [wCalm] using hx⟩
  · rintro i H' hi ⟨S',ys,acc,e1,q1,w',l,le,hf⟩
    refine (hz F' S' H' fx (stF q1) w' ?_).1
    cases q:xs.drop i with
    | nil=>rw[q] at hf;exact hf.1
    | cons x t=>rw[q] at hf;exact hf.1
  · rintro i x H' H3 hi ⟨S',ys,acc,e1,q1,w',l,le,hf⟩ y
    obtain⟨x0,hx0⟩: ∃x0,xs[i]?=some x0:=⟨_,List.getElem?_eq_getElem hi⟩
    have ed:xs.drop i=x0::xs.drop (i+1):=by
      rw[List.drop_eq_getElem_cons hi]
      have:=List.getElem?_eq_some_iff.mp hx0
      rw[this.2]
    rw[ed] at hf
    obtain⟨nx3,hv⟩:=(hz F' S' H' fx (stF q1) w' hf.1).2 i x H3 x0 y hx0
    have q3:=q1.trans nx3.st
    refine t _ H3 x x0 (L2.wipe σ vs) _ hv fun ws hws=>⟨wipe_setAll (hs x0),?_⟩
    have s3:Sat (gsets (gwipe G vs) (sets x0)) (Zd S' F') H3 (setAll (L2.wipe σ vs) ((sets x0).map (·.1)) ws):=(((s.up h1.stp).up (stF q3)).wipe vs).sets hws
    have eD: ∀ {S4:Store K} {H4:Hp},Nxt S' F' H' S4 H4→H4 D=some (.lst acc):=fun n=>n.st.keep D _ (w'.dis D fD) e1
    refine c x0 S' F' _ H3 _ _ _ nx3.wd s3 hf.2 (fun b S4 H4 hb h4=> ?_) hanE_no
    cases b with
    | true=>
      refine iteT (e x0 S4 F' _ H4 _ _ _ h4.wd (s3.up h4.stp) (by have q:=hb;unfold wIf at q;rw[if_pos rfl] at q;exact q) (fun z S5 H5 v hz h5 hv=> ?_) hanE_no)
      have h35:=nx3.trans (h4.trans h5)
      refine⟨acc,eD h35,by rw[l.length,List.length_map];exact sl_lt (by omega),S5,ys++ [z],acc++ [v],upd_same,over (q1.trans h35.st),h5.wd.putF fD (.inl ⟨_,upd_same⟩),?_,by simp;omega,by simpa [bnd,ret] using hz⟩
      rw[List.map_append]
      have sp:Stp (Zd S5 F') H5 (Zd S5 F') (upd H5 D (.lst (acc++ [v]))):=Stp.put (.inr fD)
      exact AtL.append ((l.up h35.stp).up sp) (AtL.one (Dm.up _ sp hv))
    | false=>
      have h34:=nx3.trans h4
      exact iteF ⟨S4,ys,acc,eD h34,q1.trans h34.st,h4.wd,l.up h34.stp,by omega,by have q:=hb;unfold wIf at q;rw[if_neg (by decide)] at q;exact q⟩
  · rintro H' ⟨S',ys,acc,e1,q1,w',l,le,hf⟩
    rw[List.drop_eq_nil_of_le (Nat.le_refl _)] at hf
    have hq:Qp ys S':=by simpa using hf.2
    have nx:Nxt S1 F H1 S' H':=⟨q1,w'.lessF sub⟩
    have hD0:H D=none:=by
      cases e:H D with
      | none=>rfl
      | some o=>exact absurd hD (h1.st.occ D (by rw[e];exact fun z=>nomatch z))
    exact hQ ys S' H' D acc hq (h1.trans nx) hD0 w' nF e1 l
theorem sim_lc {wi:TI} {g:TG} {tt:TT} {te:TE} {vs:List Nat} {r:α→Dm K} {r2:β→Dm K} {sets:α→List (Nat×Dm K)} {m:W K (List α×(Store K→Prop))} {mc:α→W K Bool} {me:α→W K β}
    (i:SimI ε G wi r m) (t:SimG g r sets) (hs: ∀x,∀y∈(sets x).map (·.1),y∈vs)
    (c: ∀x,SimB (fun _ _ _ _=>False) (gsets (gwipe G vs) (sets x)) tt (mc x)) (e: ∀x,Sim (fun _ _ _ _=>False) (gsets (gwipe G vs) (sets x)) te r2 (me x)):
    Sim ε G (tLc wi g tt te vs) (kL r2) (bnd m fun xs=>wAss (xs.1.length≤50000) (wCalm (fmapW xs.2 mc me xs.1))):=sim_new (simN_lc i t hs c e)
end
end TL

set_option Elab.async false
set_option linter.all false
set_option maxRecDepth 100000
set_option maxHeartbeats 2000000
namespace TL
open PySem PySem.Spec PyProof.Rows L2 PC

section
variable {K : PySem.W.Frag} {ε : WX} {Gh : Option (Gm K)} {G : Gm K} {α β γ τ S' ρ : Type} {T : Type}
def runs:List TS→TS
  | []=>fun D σ H=>D.nx σ H
  | t::ts=>fun D σ H=>t { D with nx:=runs ts D } σ H
structure Cf (S0:Store K) (F:Pl) (H0:Hp) (G:Gm K) (S:Store K) (H:Hp) (σ:L2.St):Prop where
  nx:Nxt S0 F H0 S H
  sat:Sat G (Zd S F) H σ
def SatO:Option (Gm K)→Pl→Hp→L2.St→Prop
  | none,_,_,_=>True
  | some G,Z,H,σ=>Sat G Z H σ
def HanS (ε:WX) (Gh:Option (Gm K)) (S0:Store K) (F:Pl) (H0:Hp) (Ep:Err K→Store K→Prop):Prop:=
  ∀e S' H' c d σ',Ep e S'→Nxt S0 F H0 S' H'→SatO Gh (Zd S' F) H' σ'→ErrAt e (Zd S' F) H' c d→ε c d σ' H'
def SimS (ε:WX) (Gh:Option (Gm K)) (G:Gm K) (ts:List TS) {T ρ:Type} (Gof:T→Gm K) (rr:ρ→Dm K) (m:W K (Flow T ρ)):Prop:=
  ∀S0 F H0 S H σ (D:Ends) (Qp:Flow T ρ→Store K→Prop) (Ep:Err K→Store K→Prop),Cf S0 F H0 G S H σ→m Qp Ep S→
    (∀s S' H' σ',Qp (.nx s) S'→Cf S0 F H0 (Gof s) S' H' σ'→D.nx σ' H')→
    (∀s S' H' σ',Qp (.bk s) S'→Cf S0 F H0 (Gof s) S' H' σ'→D.bk σ' H')→
    (∀x S' H' v,Qp (.rt x) S'→Nxt S0 F H0 S' H'→(rr x).at_ (Zd S' F) H' v→D.rt v H')→
    HanS ε Gh S0 F H0 Ep→runs ts D σ H
def Le (G:Gm K):Option (Gm K)→Prop
  | none=>True
  | some G'=>Wk G G'
theorem le_none:Le G none:=trivial
theorem Le.sat {Z:Pl} {H:Hp} {σ:L2.St} (l:Le G Gh) (s:Sat G Z H σ):SatO Gh Z H σ:=by
  cases Gh with
  | none=>trivial
  | some G'=>exact s.wk l
variable {Gof : T → Gm K} {rr : ρ → Dm K} {ts : List TS}
section
variable {S0 S S1 : Store K} {F : Pl} {H0 H H1 : Hp} {σ : L2.St} {Ep : Err K → Store K → Prop}
theorem Cf.wd (c:Cf S0 F H0 G S H σ):Wd S F H:=c.nx.wd
theorem Cf.to (c:Cf S0 F H0 G S H σ) (r:Nxt S F H S1 H1):Cf S0 F H0 G S1 H1 σ:=⟨c.nx.trans r,c.sat.up r.stp⟩
theorem HanS.e (h:HanS ε Gh S0 F H0 Ep) (c:Cf S0 F H0 G S H σ) (l:Le G Gh):HanE ε S F H σ Ep:=
  fun e S' H' k d he r hk=>h e S' H' k d σ he (c.nx.trans r) (l.sat (c.sat.up r.stp)) hk
end
theorem HanS.to {S0 S1:Store K} {F:Pl} {H0 H1:Hp} {Ep:Err K→Store K→Prop} (h:HanS ε Gh S0 F H0 Ep) (n:Nxt S0 F H0 S1 H1):HanS ε Gh S1 F H1 Ep:=
  fun e S' H' c d σ' he r hs hk=>h e S' H' c d σ' he (n.trans r) hs hk
theorem Cf.base {S0 S1 S:Store K} {F:Pl} {H0 H1 H:Hp} {σ:L2.St} (c:Cf S1 F H1 G S H σ) (n:Nxt S0 F H0 S1 H1):Cf S0 F H0 G S H σ:=⟨n.trans c.nx,c.sat⟩
theorem simS_seq {a b:TS} {m:W K (Flow T ρ)} (h:SimS ε Gh G (a::b::ts) Gof rr m):SimS ε Gh G (tSeq a b::ts) Gof rr m:=h
theorem simS_end {s:T} (k:Wk G (Gof s)):SimS ε Gh G [] Gof rr (ret (.nx s)):=
  fun S0 F H0 S H σ D Qp Ep c hm h1 _ _ _=>h1 s S H σ hm ⟨c.nx,c.sat.wk k⟩
theorem simS_next {m:W K (Flow T ρ)} (h:SimS ε Gh G ts Gof rr m):SimS ε Gh G (tNext::ts) Gof rr m:=h
theorem simS_asg {te:TE} {g:TG} {r:α→Dm K} {sets:α→List (Nat×Dm K)} {m:W K α} {k:α→W K (Flow T ρ)} (t:SimG g r sets) (l:Le G Gh) (e:Sim ε G te r m) (h: ∀x,SimS ε Gh (gsets G (sets x)) ts Gof rr (k x)):
    SimS ε Gh G (tAsg te g::ts) Gof rr (bnd m k):=by
  intro S0 F H0 S H σ D Qp Ep c hm h1 h2 h3 h4
  refine e S F σ H _ _ Ep c.wd c.sat hm (fun x S1 H1 v hx r1 hv=> ?_) (h4.e c l)
  refine t _ H1 v x σ _ hv fun vs hvs=>h x S0 F H0 S1 H1 _ D _ Ep ⟨c.nx.trans r1,(c.sat.up r1.stp).sets hvs⟩ hx h1 h2 h3 h4
theorem simS_ret {te:TE} {m:W K ρ} (l:Le G Gh) (e:Sim ε G te rr m):SimS ε Gh G (tRet te::ts) Gof rr (bnd m fun x=>ret (.rt x)):=by
  intro S0 F H0 S H σ D Qp Ep c hm h1 h2 h3 h4
  exact e S F σ H _ _ Ep c.wd c.sat hm (fun x S1 H1 v hx r1 hv=>h3 x S1 H1 v hx (c.nx.trans r1) hv) (h4.e c l)
theorem simS_drop {te:TE} {r:α→Dm K} {m:W K α} {k:W K (Flow T ρ)} (l:Le G Gh) (e:Sim ε G te r m) (h:SimS ε Gh G ts Gof rr k):SimS ε Gh G (tDrop te::ts) Gof rr (bnd m fun _=>k):=by
  intro S0 F H0 S H σ D Qp Ep c hm h1 h2 h3 h4
  refine e S F σ H _ _ Ep c.wd c.sat hm (fun x S1 H1 v hx r1 hv=> ?_) (h4.e c l)
  exact h S0 F H0 S1 H1 σ D _ Ep (c.to r1) hx h1 h2 h3 h4
theorem simS_if {c:TT} {a b:TS} {mc:W K Bool} {m n:W K (Flow T ρ)} (l:Le G Gh) (hc:SimB ε G c mc) (ha:SimS ε Gh G (a::ts) Gof rr m) (hb:SimS ε Gh G (b::ts) Gof rr n):
    SimS ε Gh G (tIfS c a b::ts) Gof rr (bnd mc fun x=>wIf x m n):=by
  intro S0 F H0 S H σ D Qp Ep cf hm h1 h2 h3 h4
  refine hc S F σ H _ _ Ep cf.wd cf.sat hm (fun x S1 H1 hx r1=> ?_) (h4.e cf l)
  cases x with
  | true=>exact iteT (ha S0 F H0 S1 H1 σ D _ Ep (cf.to r1) (by have q:=hx;unfold wIf at q;rw[if_pos rfl] at q;exact q) h1 h2 h3 h4)
  | false=>exact iteF (hb S0 F H0 S1 H1 σ D _ Ep (cf.to r1) (by have q:=hx;unfold wIf at q;rw[if_neg (by decide)] at q;exact q) h1 h2 h3 h4)
theorem simS_par {i j:Nat} {ta:TA} {r:α→Dm K} {s:β→Dm K} {m:W K (α×β×Unit)} {k:α×β×Unit→W K (Flow T ρ)} (l:Le G Gh) (e:SimA ε G ta (fun x:α×β×Unit=> [r x.1,s x.2.1]) m)
    (h: ∀x,SimS ε Gh ((G.set i (some (r x.1))).set j (some (s x.2.1))) ts Gof rr (k x)):SimS ε Gh G (tPar i j ta::ts) Gof rr (bnd m k):=by
  intro S0 F H0 S H σ D Qp Ep c hm h1 h2 h3 h4
  refine e S F σ H _ _ Ep c.wd c.sat hm (fun x S1 H1 vs hx r1 hv=> ?_) (h4.e c l)
  obtain⟨v,_,rfl,q1,u,_,rfl,q2,rfl⟩:=hv
  refine⟨v,u,rfl,?_⟩
  exact h x S0 F H0 S1 H1 _ D _ Ep ⟨c.nx.trans r1,((c.sat.up r1.stp).set q1).set q2⟩ hx h1 h2 h3 h4
theorem simS_raise {C:Addr} {f:Str} {fs:List Str} {ta:TA} {δ:τ→List (Dm K)} {m:W K τ} (l:Le G Gh) (e:SimA ε G ta δ m) (er:τ→List (Str×Dm K))
    (he: ∀y Z H vs,AtL Z H (δ y) vs→ ∃v ws,vs=v::ws∧ws.length=fs.length∧AtK Z H (er y) ((fs.zip ws).reverse++ [(f,v)])):
    SimS ε Gh G ((fun _ σ H=>tErr C f fs ta σ H fun cls d H'=>ε cls d σ H')::ts) Gof rr (bnd m fun y=>wRaise (C,er y)):=by
  intro S0 F H0 S H σ D Qp Ep c hm h1 h2 h3 h4
  refine e S F σ H _ _ Ep c.wd c.sat hm (fun y S1 H1 vs hy r1 hv=> ?_) (h4.e c l)
  obtain⟨v,ws,rfl,hl,hf⟩:=he y _ H1 vs hv
  refine⟨v,ws,rfl,hl,fun d hd=> ?_⟩
  have nx:Nxt S1 F H1 S1 (upd H1 d (.xd ((fs.zip ws).reverse++ [(f,v)]))):=r1.wd.new hd
  exact h4 _ S1 _ _ _ σ hy (c.nx.trans (r1.trans nx)) (l.sat (c.sat.up (r1.trans nx).stp)) ⟨rfl,d,_,rfl,r1.wd.free hd,upd_same,hf.up nx.stp⟩
theorem one_run {t:TS} {D:Ends} {σ:L2.St} {H:Hp} (h:runs [t] D σ H):t D σ H:=h
def wSetF {K:PySem.W.Frag} {β:Type} (C:Addr) (f:Str) (a:Addr) (d:Dm K) (k:W K β):W K β:=fun Q E S=> ∃fs,S a=some (.ins C fs)∧fs.length<1000∧k Q E (S.set a (.ins C (setF f d fs)))
theorem simS_fld {te to:TE} {C:Addr} {f:Str} {r:α→Dm K} {m:W K α} {mo:W K Addr} {k:W K (Flow T ρ)} (c:Cls K C) (n:NoAttr K C f) (l:Le G Gh) (e:Sim ε G te r m) (o:Sim ε G to kRef mo) (h:SimS ε Gh G ts Gof rr k):
    SimS ε Gh G (sFld K to te f::ts) Gof rr (bnd m fun x=>bnd mo fun a=>wSetF C f a (r x) k):=by
  intro S0 F H0 S H σ D Qp Ep cf hm h1 h2 h3 h4
  refine e S F σ H _ _ Ep cf.wd cf.sat hm (fun x S1 H1 v hx r1 hv=> ?_) (h4.e cf l)
  have c1:=cf.to r1
  refine o S1 F σ H1 _ _ Ep c1.wd c1.sat hx (fun a S2 H2 u hy r2 hu=> ?_) (h4.e c1 l)
  have c2:=c1.to r2
  obtain⟨fs,ea,hl,hk⟩:=hy
  cases (show u= .ref a from hu)
  obtain⟨dx,vs,e2,q⟩:=c2.wd.cell a _ ea
  refine⟨a,C,dx,vs,rfl,e2,c,n,by rw[q.length];exact hl,?_⟩
  have st:Stp (Zd S2 F) H2 (Zd S2 F) (upd H2 a (.ins C dx (putF f v vs))):=Stp.put (.inl (by rw[ea];exact fun z=>nomatch z))
  have nx:Nxt S2 F H2 (S2.set a (.ins C (setF f (r x) fs))) (upd H2 a (.ins C dx (putF f v vs))):=
    c2.wd.putS ea ⟨dx,_,upd_same,(q.up st).setF (Dm.up _ st (r2.up hv))⟩
  exact h S0 F H0 _ _ σ D _ Ep (c2.to nx) hk h1 h2 h3 h4
def forW {K:PySem.W.Frag} {α T ρ:Type} (I:Store K→Prop) (f:α→T→W K (Flow T ρ)):List α→T→W K (Flow T ρ)
  | [],s=>fun Q E S=>I S∧Q (.nx s) S
  | x::xs,s=>fun Q E S=>I S∧f x s (fun q S'=>match q with
    | .nx s'=>forW I f xs s' Q E S'
    | .bk s'=>Q (.nx s') S'
    | .rt y=>Q (.rt y) S') E S
def aft {K:PySem.W.Frag} {T T' ρ:Type} (k:T'→W K (Flow T ρ)):Flow T' ρ→W K (Flow T ρ)
  | .nx s=>k s
  | .bk s=>k s
  | .rt x=>ret (.rt x)
theorem simS_for {T':Type} {wi:TI} {g:TG} {tb:TS} {r:α→Dm K} {sets:α→List (Nat×Dm K)} {m:W K (List α×(Store K→Prop))} {Gl:T'→Gm K} {s0:T'} {mb:α→T'→W K (Flow T' ρ)} {k:T'→W K (Flow T ρ)}
    (l:Le G Gh) (i:SimI ε G wi r m) (t:SimG g r sets) (w0:Wk G (Gl s0))
    (b: ∀x s,SimS ε Gh (gsets (Gl s) (sets x)) [tb] Gl rr (mb x s)) (h: ∀s,SimS ε Gh (Gl s) ts Gof rr (k s)):
    SimS ε Gh G (tFor wi g tb::ts) Gof rr (bnd m fun xs=>bnd (forW xs.2 mb xs.1 s0) (aft k)):=by
  intro S0 F H0 S H σ D Qp Ep c hm h1 h2 h3 h4
  refine i S F σ H _ _ Ep c.wd c.sat hm (fun xs I J S1 H1 hx r1 it=> ?_) (h4.e c l)
  obtain⟨Gi,Y,wk,hz⟩:=it.ex
  have n01:=c.nx.trans r1
  have cont: ∀s σ' S' H',k s Qp Ep S'→Cf S1 F H1 (Gl s) S' H' σ'→runs ts D σ' H':=fun s σ' S' H' hk c'=>h s S0 F H0 S' H' σ' D _ Ep (c'.base n01) hk h1 h2 h3 h4
  refine for_it wk (Pv:=fun i σ' H'=> ∃s S',Cf S1 F H1 (Gl s) S' H' σ'∧forW I mb (xs.drop i) s (fun q=>aft k q Qp Ep) Ep S') ?_ ?_ ?_ ?_
  · exact⟨s0,S1,⟨.refl r1.wd,(c.sat.up r1.stp).wk w0⟩,hx⟩
  · rintro i σ' H' hi ⟨s,S',c',hf⟩
    refine (hz F S' H' (.inl rfl) c'.nx.stp c'.wd ?_).1
    cases q:xs.drop i with
    | nil=>rw[q] at hf;exact hf.1
    | cons x t=>rw[q] at hf;exact hf.1
  · rintro i x σ' H' H3 hi ⟨s,S',c',hf⟩ y
    obtain⟨x0,hx0⟩: ∃x0,xs[i]?=some x0:=⟨_,List.getElem?_eq_getElem hi⟩
    have ed:xs.drop i=x0::xs.drop (i+1):=by
      rw[List.drop_eq_getElem_cons hi]
      have:=List.getElem?_eq_some_iff.mp hx0
      rw[this.2]
    rw[ed] at hf
    obtain⟨r3,hv⟩:=(hz F S' H' (.inl rfl) c'.nx.stp c'.wd hf.1).2 i x H3 x0 y hx0
    refine t _ H3 x x0 σ' _ hv fun ws hws=> ?_
    refine one_run (b x0 s S1 F H1 S' H3 _ _ _ Ep ⟨c'.nx.trans r3,(c'.sat.up r3.stp).sets hws⟩ hf.2 ?_ ?_ ?_ (h4.to n01))
    · intro s2 S4 H4 σ4 q c4
      exact⟨s2,S4,c4,q⟩
    · intro s2 S4 H4 σ4 q c4
      exact cont s2 σ4 S4 H4 q c4
    · intro x2 S4 H4 u q r4 hu
      exact h3 x2 S4 H4 u q (n01.trans r4) hu
  · rintro σ' H' ⟨s,S',c',hf⟩
    rw[List.drop_eq_nil_of_le (Nat.le_refl _)] at hf
    exact cont s σ' S' H' hf.2 c'
def whileW {K:PySem.W.Frag} {T ρ:Type} (c:T→W K Bool) (f:T→W K (Flow T ρ)) (s0:T):W K (Flow T ρ):=fun Q E S0=> ∃I:Nat→T→Store K→Prop,(∃n,I n s0 S0)∧ ∀n s S,I n s S→
  c s (fun b=>wIf b (fun Q' E=>f s (fun q S'=>match q with
    | .nx s'=> ∃n',n'<n∧I n' s' S'
    | .bk s'=>Q' (.nx s') S'
    | .rt y=>Q' (.rt y) S') E) (ret (.nx s)) Q E) E S
theorem simS_while {T':Type} {c:TT} {tb:TS} {Gl:T'→Gm K} {s0:T'} {mc:T'→W K Bool} {mb:T'→W K (Flow T' ρ)} {k:T'→W K (Flow T ρ)} (l: ∀s,Le (Gl s) Gh) (w0:Wk G (Gl s0))
    (hc: ∀s,SimB ε (Gl s) c (mc s)) (b: ∀s,SimS ε Gh (Gl s) [tb] Gl rr (mb s)) (h: ∀s,SimS ε Gh (Gl s) ts Gof rr (k s)):
    SimS ε Gh G (tWhile c tb::ts) Gof rr (bnd (whileW mc mb s0) (aft k)):=by
  intro S0 F H0 S H σ D Qp Ep cf hm h1 h2 h3 h4
  obtain⟨I,⟨n0,i0⟩,step⟩:=hm
  refine⟨fun n σ' H'=> ∃s S',Cf S0 F H0 (Gl s) S' H' σ'∧I n s S',⟨n0,s0,S,⟨cf.nx,cf.sat.wk w0⟩,i0⟩,?_⟩
  rintro n σ' H' ⟨s,S',c',hi⟩
  refine hc s S' F σ' H' _ _ Ep c'.wd c'.sat (step n s S' hi) (fun x S2 H2 hx r2=> ?_) (h4.e c' (l s))
  have c2:=c'.to r2
  cases x with
  | true=>
    refine iteT ⟨fun σ3 H3=> ∃n',n'<n∧ ∃s S',Cf S0 F H0 (Gl s) S' H3 σ3∧I n' s S',fun σ3 H3 q=>q,?_⟩
    refine one_run (b s S0 F H0 S2 H2 σ' _ _ Ep c2 (by have q:=hx;unfold wIf at q;rw[if_pos rfl] at q;exact q) ?_ ?_ ?_ h4)
    · rintro s2 S4 H4 σ4 ⟨n',hn,q⟩ c4
      exact⟨n',hn,s2,S4,c4,q⟩
    · intro s2 S4 H4 σ4 q c4
      exact h s2 S0 F H0 S4 H4 σ4 D _ Ep c4 q h1 h2 h3 h4
    · intro x2 S4 H4 u q r4 hu
      exact h3 x2 S4 H4 u q r4 hu
  | false=>
    exact iteF (h s S0 F H0 S2 H2 σ' D _ Ep c2 (by have q:=hx;unfold wIf at q;rw[if_neg (by decide)] at q;exact q) h1 h2 h3 h4)
def wTry {K:PySem.W.Frag} {α:Type} (m:W K α) (h:Err K→W K α):W K α:=fun Q E S=>m Q (fun e S'=>h e Q E S') S
def wCatch {K:PySem.W.Frag} {α:Type} (C:Addr) (h n:Err K→W K α):Err K→W K α:=fun e Q E S=> ∃b,PySem.W.exmOne K (.ref e.1) (.ref C)=some b∧(b=true→h e Q E S)∧(b=false→n e Q E S)
def kErr (a:Addr) (k:Value) (d:Option Addr) (e:Err K):Dm K:=⟨fun Z H v=>v= .ref a∧ErrAt e Z H k d,fun r h=>⟨h.1,h.2.up r⟩⟩
inductive SimC (ε:WX) (Gh:Option (Gm K)) (Gc:Gm K) {T ρ:Type} (Gof:T→Gm K) (rr:ρ→Dm K):List Clause→(Err K→W K (Flow T ρ))→Prop
  | nil (l:Le Gc Gh):SimC ε Gh Gc Gof rr [] wRaise
  | cons {C:Addr} {i:Nat} {t:Addr→Value→Option Addr→TS} {r:List Clause} {h n:Err K→W K (Flow T ρ)} {Gs:T→Gm K}
      (b: ∀a k d e,SimS ε Gh (Gc.set i (some (kErr a k d e))) [t a k d] Gs rr (h e)) (w: ∀s,Wk ((Gs s).set i none) (Gof s)) (rest:SimC ε Gh Gc Gof rr r n):
      SimC ε Gh Gc Gof rr ((.ref C,i,t)::r) (wCatch C h n)
theorem SimC.run {Gc:Gm K} {l:List Clause} {hd:Err K→W K (Flow T ρ)} (s:SimC ε Gh Gc Gof rr l hd): ∀ {S0:Store K} {F:Pl} {H0:Hp} {S:Store K} {H:Hp} {σ:L2.St} {D:Ends} {Qp:Flow T ρ→Store K→Prop} {Ep:Err K→Store K→Prop} {e:Err K} {c:Value} {d:Option Addr},
    Cf S0 F H0 Gc S H σ→ErrAt e (Zd S F) H c d→hd e Qp Ep S→
    (∀s S' H' σ',Qp (.nx s) S'→Cf S0 F H0 (Gof s) S' H' σ'→D.nx σ' H')→
    (∀s S' H' σ',Qp (.bk s) S'→Cf S0 F H0 (Gof s) S' H' σ'→D.bk σ' H')→
    (∀x S' H' v,Qp (.rt x) S'→Nxt S0 F H0 S' H'→(rr x).at_ (Zd S' F) H' v→D.rt v H')→
    HanS ε Gh S0 F H0 Ep→wCl K ε D l c d σ H:=by
  induction s with
  | nil l=>
    intro S0 F H0 S H σ D Qp Ep e c d cf hk hm h1 h2 h3 h4
    exact h4 e S H c d σ hm cf.nx (l.sat cf.sat) hk
  | @cons C i t r h n Gs b w rest ih=>
    intro S0 F H0 S H σ D Qp Ep e c d cf hk hm h1 h2 h3 h4
    obtain⟨bb,e1,hy,hn⟩:=hm
    obtain rfl:c= .ref e.1:=hk.1
    refine⟨bb,e1,fun eb a ha=> ?_,fun eb=>ih cf hk (hn eb) h1 h2 h3 h4⟩
    refine one_run (b a (.ref e.1) d e S0 F H0 S H _ _ _ Ep ⟨cf.nx,cf.sat.set ⟨rfl,hk⟩⟩ (hy eb) ?_ ?_ ?_ h4)
    · intro s S' H' σ' q c'
      exact h1 s S' H' _ q ⟨c'.nx,(Sat.wipe1 (i:=i) c'.sat).wk (w s)⟩
    · intro s S' H' σ' q c'
      exact h2 s S' H' _ q ⟨c'.nx,(Sat.wipe1 (i:=i) c'.sat).wk (w s)⟩
    · intro x S' H' v q n' hv
      exact h3 x S' H' v q n' hv
def aftT {K:PySem.W.Frag} {T T' ρ:Type} (k:T'→W K (Flow T ρ)):Flow T' ρ→W K (Flow T ρ)
  | .nx s=>k s
  | .bk _=>fun _ _ _=>False
  | .rt x=>ret (.rt x)
theorem simS_try {T':Type} {tb:WX→TS} {l:List Clause} {Gc:Gm K} {G1:T'→Gm K} {mb:W K (Flow T' ρ)} {hd:Err K→W K (Flow T' ρ)} {k:T'→W K (Flow T ρ)}
    (b: ∀ε',SimS ε' (some Gc) G [tb ε'] G1 rr mb) (c:SimC ε Gh Gc G1 rr l hd) (h: ∀s,SimS ε Gh (G1 s) ts Gof rr (k s)):
    SimS ε Gh G ((fun D σ H=>tb (wCl K ε D l) D σ H)::ts) Gof rr (bnd (wTry mb hd) (aftT k)):=by
  intro S0 F H0 S H σ D Qp Ep cf hm h1 h2 h3 h4
  have g1: ∀s S' H' σ',aftT k (.nx s) Qp Ep S'→Cf S0 F H0 (G1 s) S' H' σ'→runs ts D σ' H':=fun s S' H' σ' q c'=>h s S0 F H0 S' H' σ' D _ Ep c' q h1 h2 h3 h4
  show runs [tb (wCl K ε { D with nx:=runs ts D } l)] { D with nx:=runs ts D } σ H
  refine b _ S0 F H0 S H σ { D with nx:=runs ts D } _ _ cf hm g1 (fun s S' H' σ' q c'=>q.elim) h3 ?_
  intro e S' H' c' d σ' he n' hs hk
  exact c.run ⟨n',hs⟩ hk he g1 (fun s S' H' σ' q c'=>q.elim) h3 h4
def outW {K:PySem.W.Frag} {α:Type} (m:W K (Flow Unit α)) (d:Option α):W K α:=fun Q E S=>m (fun q S'=>match q with
  | .rt y=>Q y S'
  | .nx _=>match d with | some y=>Q y S' | none=>False
  | .bk _=>False) E S
def envOf (ds:List (Dm K)) (n:Nat):Gm K:=ds.map some++List.replicate (n - ds.length) none
theorem sat_start {N:List Str} {ds:List (Dm K)} {vs:List V} {Z:Pl} {H:Hp} (h:AtL Z H ds vs):Sat (envOf ds N.length) Z H (L2.start N vs):=by
  have hl:=h.length
  refine⟨by simp[L2.start,envOf,hl],fun i d e=> ?_⟩
  unfold envOf at e
  rw[List.getElem?_append] at e
  unfold L2.start
  rw[List.getElem?_append]
  simp only[List.length_map] at e ⊢
  by_cases c:i<ds.length
  · rw[if_pos c,List.getElem?_map] at e
    rw[if_pos (by omega),List.getElem?_map]
    cases q:ds[i]? with
    | none=>rw[q] at e;cases e
    | some x=>
      rw[q] at e
      cases e
      obtain⟨v,e1,e2⟩:=h.get q
      exact⟨v,by rw[e1];rfl,e2⟩
  · rw[if_neg c,List.getElem?_replicate] at e
    split at e <;> cases e
variable {P : Program} {w : World} {mg : Str → Option Value} {base : Heap}
theorem okL {x qual:Str} {st:Stmt} {f:Addr} {fd:FuncData} {N ps:List Str} {k:Nat} {δ:τ→List (Dm K)} {r:α→Dm K} {wf:τ→W K α}
    (F:Fun K x qual st f fd) (S:FnScope N ps (defScope st)) (hl: ∀x,(δ x).length=ps.length) (d:Option α) (hd: ∀y,d=some y→r y=dPy .none)
    (body: ∀(cdv:Value) (A:Around) (outer:List Env) (s:Shared) (H:Hp) (E:XK),GOkA K A base→Room k (A.deeper (envOfC qual (defScope st) s.heap.objs.size f cdv))→
      ∃t,PSs (cxg P w K mg base N qual st f cdv A outer s H E) (defBody st) t∧ ∃m:τ→W K (Flow Unit α),
        (∀x,SimS (fun c d _ H=>E c d H) none (envOf (δ x) N.length) [t] (fun _:Unit=>List.replicate N.length none) r (m x))∧ ∀x Q E S,wf x Q E S→outW (m x) d Q E S):
    FnG P w K mg base (k+1) f fd ps (lift K δ r wf):=by
  refine FnG.okX F S (fun vs H Q E h=> ?_) (fun cdv A outer s H vs Q E hg hr h=> ?_)
  · obtain⟨S0,F0,x,Qp,Ep,wd,ha,_⟩:=h
    rw[ha.length,hl]
  · obtain⟨t,ht,m,hs,hw⟩:=body cdv A outer s H E hg hr
    refine⟨t,ht,?_⟩
    obtain⟨S0,F0,x,Qp,Ep,wd,ha,hf,hQ,hE⟩:=h
    have q:=hw x Qp Ep S0 hf
    refine hs x S0 F0 H S0 H _ { nx:=fun _ H'=>Q .non H',rt:=Q } _ Ep ⟨.refl wd,sat_start ha⟩ q (fun _ S' H' σ' z c'=> ?_) (fun _ _ _ _ z _=>z.elim) (fun y S' H' v z r' hv=>hQ y S' H' v z r' hv)
      (fun e S' H' c dd σ' he r' _ hk=>hE e S' H' c dd he r' hk)
    cases d with
    | none=>exact z.elim
    | some y=>exact hQ y S' H' .non z c'.nx (by rw[hd y rfl];exact mk_non)
end
end TL

set_option Elab.async false
set_option linter.all false
set_option maxRecDepth 100000
set_option maxHeartbeats 2000000
namespace TL
open PySem PySem.Spec PyProof.Rows L2 PC

section
variable {K : PySem.W.Frag} {ε : WX} {G : Gm K} {α β γ τ : Type} {S : Store K} {F : Pl}
theorem os_I0 {g:Int→Int→Int}:OpS K (rI0 fun i j=> .int (g i j)) kI kI kI (fun x y=>ret (g x y)):=by
  intro S F H x y v w Q Qp Ep wd hv hw hf hQ
  obtain rfl:=at_int hv
  obtain rfl:=at_int hw
  exact⟨x,y,rfl,rfl,hQ _ S H _ hf (.refl wd) mk_int⟩
theorem os_I {C:Int→Int→Prop} {g:Int→Int→Int}:OpS K (rI C fun i j=> .int (g i j)) kI kI kI (fun x y=>wAss (C x y) (ret (g x y))):=by
  intro S F H x y v w Q Qp Ep wd hv hw hf hQ
  obtain rfl:=at_int hv
  obtain rfl:=at_int hw
  exact⟨x,y,rfl,rfl,hf.1,hQ _ S H _ hf.2 (.refl wd) mk_int⟩
theorem os_B0 {g:Int→Int→Bool}:OpS K (rI0 fun i j=> .bl (g i j)) kI kI kB (fun x y=>ret (g x y)):=by
  intro S F H x y v w Q Qp Ep wd hv hw hf hQ
  obtain rfl:=at_int hv
  obtain rfl:=at_int hw
  exact⟨x,y,rfl,rfl,hQ _ S H _ hf (.refl wd) mk_bl⟩
theorem os_add:OpS K (rAdd K) kI kI kI (fun x y=>ret (x+y)):=by
  intro S F H x y v w Q Qp Ep wd hv hw hf hQ
  obtain rfl:=at_int hv
  obtain rfl:=at_int hw
  exact s_add_int (hQ _ S H _ hf (.refl wd) mk_int)
theorem os_addS:OpS K (rAdd K) kS kS kS (fun x y=>wAss (x.length+y.length≤50000) (ret (x++y))):=by
  intro S F H x y v w Q Qp Ep wd hv hw hf hQ
  obtain rfl:=at_str hv
  obtain rfl:=at_str hw
  exact s_add_str (sl_of hf.1) (hQ _ S H _ hf.2 (.refl wd) mk_str)
theorem os_addL {r:α→Dm K}:OpS K (rAdd K) (kL r) (kL r) (kL r) (fun x y=>wAss (x.length+y.length≤50000) (ret (x++y))):=by
  intro S F H x y v w Q Qp Ep wd ⟨a,xs,e1,na,ha,la⟩ ⟨b,ys,e2,nb,hb,lb⟩ hf hQ
  subst e1 e2
  refine .inr (.inr (.inl ⟨a,b,xs,ys,rfl,rfl,.inl ha,.inl hb,by rw[la.length,lb.length,List.length_map,List.length_map];exact sl_of hf.1,?_⟩))
  exact new_lst wd (la.append lb) fun H' v r' h=>hQ _ S H' v hf.2 r' (by rw[← List.map_append] at h;exact h)
def wIx {K:PySem.W.Frag} {α:Type} (xs:List α) (i:Int):W K α:=fun Q _ S=>0≤i∧ ∃x,xs[i.toNat]?=some x∧Q x S
theorem at_map {r:α→Dm K} {Z:Pl} {H:Hp} {xs:List α} {vs:List V} {i:Nat} {x:α} (l:AtL Z H (xs.map r) vs) (e:xs[i]?=some x): ∃v,vs[i]?=some v∧(r x).at_ Z H v:=
  l.get (by rw[List.getElem?_map,e];rfl)
theorem os_ixL {r:α→Dm K}:OpS K (rIx K) (kL r) kI r (fun xs i=>wIx xs i):=by
  intro S F H xs i v w Q Qp Ep wd ⟨a,vs,e1,na,ha,la⟩ hw ⟨h0,x,ex,hf⟩ hQ
  obtain rfl:=at_int hw
  subst e1
  obtain⟨u,hu,hd⟩:=at_map la ex
  have e:((i.toNat:Nat):Int)=i:=Int.toNat_of_nonneg h0
  exact .inl ⟨a,vs,i,u,rfl,rfl,.inl (.inl ha),by rw[← e];exact atI_nat hu,hQ x S H u hf (.refl wd) hd⟩
theorem os_eqI:OpS K (rEqA K) kI kI kB (fun x y=>ret (decide (x=y))):=by
  intro S F H x y v w Q Qp Ep wd hv hw hf hQ
  obtain rfl:=at_int hv
  obtain rfl:=at_int hw
  exact s_eq_int (hQ _ S H _ hf (.refl wd) mk_bl)
theorem os_neI:OpS K (rNeA K) kI kI kB (fun x y=>ret (!decide (x=y))):=by
  intro S F H x y v w Q Qp Ep wd hv hw hf hQ
  obtain rfl:=at_int hv
  obtain rfl:=at_int hw
  exact s_ne_int (hQ _ S H _ hf (.refl wd) mk_bl)
theorem os_eqS:OpS K (rEqA K) kS kS kB (fun x y=>ret (decide (x=y))):=by
  intro S F H x y v w Q Qp Ep wd hv hw hf hQ
  obtain rfl:=at_str hv
  obtain rfl:=at_str hw
  exact s_eq_str (hQ _ S H _ hf (.refl wd) mk_bl)
theorem os_neS:OpS K (rNeA K) kS kS kB (fun x y=>ret (!decide (x=y))):=by
  intro S F H x y v w Q Qp Ep wd hv hw hf hQ
  obtain rfl:=at_str hv
  obtain rfl:=at_str hw
  exact s_ne_str (hQ _ S H _ hf (.refl wd) mk_bl)
theorem os_eqP:OpS K (rEqA K) kPy kPy kB (fun d e=>wAss (SeqAt.shaped d=true∧SeqAt.shaped e=true) (ret (PyData.eqv d e))):=by
  intro S F H x y v w Q Qp Ep wd hv hw hf hQ
  exact .inr ⟨[],x,y,wd.one,DatP.dat _ _ hv,DatP.dat _ _ hw,hf.1.1,hf.1.2,hQ _ S H _ hf.2 (.refl wd) mk_bl⟩
theorem os_neP:OpS K (rNeA K) kPy kPy kB (fun d e=>wAss (SeqAt.shaped d=true∧SeqAt.shaped e=true) (ret (!PyData.eqv d e))):=by
  intro S F H x y v w Q Qp Ep wd hv hw hf hQ
  exact .inr ⟨[],x,y,wd.one,DatP.dat _ _ hv,DatP.dat _ _ hw,hf.1.1,hf.1.2,hQ _ S H _ hf.2 (.refl wd) mk_bl⟩
def isNone:PyData→Bool
  | .none=>true
  | _=>false
def Sm {α:Type} (r:α→Dm K):Prop:= ∀x Z H v,(r x).at_ Z H v→v≠ .non
theorem os_isNO {r:α→Dm K} (h:Sm r):OpS K (fun x y H Q=>y= .non∧Q (.bl (decide (x= .non))) H) (kO r) kN kB (fun d _=>ret d.isNone):=by
  intro S F H x y v w Q Qp Ep wd hv hw hf hQ
  refine⟨at_non (i:=()) hw,?_⟩
  have e:decide (v= .non)=x.isNone:=by
    cases x with
    | none => have : v = .non := at_non (i := ()) hv
              simp[this]
    | some a=>simpa using h a _ _ _ hv
  rw[e]
  exact hQ _ S H _ hf (.refl wd) mk_bl
theorem os_notNO {r:α→Dm K} (h:Sm r):OpS K (fun x y H Q=>y= .non∧Q (.bl (!decide (x= .non))) H) (kO r) kN kB (fun d _=>ret (!d.isNone)):=by
  intro S F H x y v w Q Qp Ep wd hv hw hf hQ
  refine⟨at_non (i:=()) hw,?_⟩
  have e:decide (v= .non)=x.isNone:=by
    cases x with
    | none => have : v = .non := at_non (i := ()) hv
              simp[this]
    | some a=>simpa using h a _ _ _ hv
  rw[e]
  exact hQ _ S H _ hf (.refl wd) mk_bl
theorem atL_ints {Z:Pl} {H:Hp} {ns:List Int} {vs:List V} (l:AtL Z H (ns.map (kI (K:=K))) vs):vs=ns.map V.int:=by
  exact (DatPL.dat _ _ (AtL.dat (K:=K) (f:=PyData.int) (r:=kI) (fun x Z H v h=>h) l)).ints
theorem atL_bls {Z:Pl} {H:Hp} {ns:List Bool} {vs:List V} (l:AtL Z H (ns.map (kB (K:=K))) vs):vs=ns.map V.bl:=by
  exact (DatPL.dat _ _ (AtL.dat (K:=K) (f:=PyData.bool) (r:=kB) (fun x Z H v h=>h) l)).bls
theorem atL_strs {Z:Pl} {H:Hp} {ns:List Str} {vs:List V} (l:AtL Z H (ns.map (kS (K:=K))) vs):vs=ns.map V.str:=by
  exact (DatPL.dat _ _ (AtL.dat (K:=K) (f:=PyData.str) (r:=kS) (fun x Z H v h=>h) l)).strs
theorem ints_at {Z:Pl} {H:Hp}: ∀ns:List Int,AtL Z H (ns.map (kI (K:=K))) (ns.map V.int)
  | []=>rfl
  | n::ns=>⟨.int n,_,rfl,mk_int,ints_at ns⟩
theorem strs_at {Z:Pl} {H:Hp}: ∀ns:List Str,AtL Z H (ns.map (kS (K:=K))) (ns.map V.str)
  | []=>rfl
  | n::ns=>⟨.str n,_,rfl,mk_str,strs_at ns⟩
theorem inV_strs (n:Str) (ns:List Str):inV (.str n) (ns.map V.str)=decide (n∈ns):=by
  unfold inV
  induction ns with
  | nil=>rfl
  | cons m ns ih=>
    rw[List.map_cons,List.any_cons,ih]
    have:eqV (V.str m) (V.str n)=decide (m=n):=by unfold eqV;simp[BEq.beq]
    rw[this]
    by_cases e:m=n
    · subst e;simp
    · have e': ¬ n=m:=fun z=>e z.symm
      simp[e,e']
theorem flat_strs (ns:List Str):(ns.map V.str).all flatV=true:=by induction ns with | nil=>rfl | cons _ _ ih=>simpa [flatV] using ih
theorem os_inI:OpS K (rInA K) kI (kL kI) kB (fun x y=>ret (decide (x∈y))):=by
  intro S F H x y v w Q Qp Ep wd hv ⟨a,vs,e,na,ha,la⟩ hf hQ
  obtain rfl:=at_int hv
  subst e
  obtain rfl:=atL_ints la
  refine .inr ⟨a,_,rfl,.inl (.inl (.inl ha)),rfl,flat_ints y,?_⟩
  show Q (.bl (inV _ _)) H
  rw[inV_ints]
  exact hQ _ S H _ hf (.refl wd) mk_bl
theorem os_niI:OpS K (rNotInA K) kI (kL kI) kB (fun x y=>ret (!decide (x∈y))):=by
  intro S F H x y v w Q Qp Ep wd hv ⟨a,vs,e,na,ha,la⟩ hf hQ
  obtain rfl:=at_int hv
  subst e
  obtain rfl:=atL_ints la
  refine .inr ⟨a,_,rfl,.inl (.inl (.inl ha)),rfl,flat_ints y,?_⟩
  show Q (.bl (!inV _ _)) H
  rw[inV_ints]
  exact hQ _ S H _ hf (.refl wd) mk_bl
theorem os_inST:OpS K (rInA K) kS (kT kS) kB (fun x y=>ret (decide (x∈y))):=by
  intro S F H x y v w Q Qp Ep wd hv ⟨a,vs,e,na,ha,la⟩ hf hQ
  obtain rfl:=at_str hv
  subst e
  obtain rfl:=atL_strs la
  refine .inr ⟨a,_,rfl,.inr ha,rfl,flat_strs y,?_⟩
  show Q (.bl (inV _ _)) H
  rw[inV_strs]
  exact hQ _ S H _ hf (.refl wd) mk_bl
def wInC {K:PySem.W.Frag} (x y:Str):W K Bool:=fun Q E S=> ∃c,x=⟨#[c]⟩∧Q (decide (c∈y.cps.toList)) S
theorem os_inC:OpS K (rInA K) kS kS kB (fun x y=>wInC x y):=by
  intro S F H x y v w Q Qp Ep wd hv hw ⟨c,e,hf⟩ hQ
  subst e
  obtain rfl:=at_str hv
  obtain rfl:=at_str hw
  exact s_in_c (hQ _ S H _ hf (.refl wd) mk_bl)
theorem at1 {Z:Pl} {H:Hp} {d:Dm K} {vs:List V} (h:AtL Z H [d] vs): ∃v,vs= [v]∧d.at_ Z H v:=by
  obtain⟨v,r,rfl,h1,rfl⟩:=h
  exact⟨v,rfl,h1⟩
theorem at2 {Z:Pl} {H:Hp} {d e:Dm K} {vs:List V} (h:AtL Z H [d,e] vs): ∃v w,vs= [v,w]∧d.at_ Z H v∧e.at_ Z H w:=by
  obtain⟨v,r,rfl,h1,w,r,rfl,h2,rfl⟩:=h
  exact⟨v,w,rfl,h1,h2⟩
theorem cb_lenL {r:α→Dm K}:CalB K (PC.rLen K) (fun x:List α×Unit=> [kL r x.1]) kI (fun x=>ret (x.1.length:Int)):=by
  intro S F H x vs Q Qp Ep wd h hf hQ
  obtain⟨v,rfl,⟨a,xs,rfl,n,s,l⟩⟩:=at1 h
  exact .inl ⟨a,xs,rfl,.inl (.inl (.inl s)),by rw[l.length,List.length_map];exact hQ _ S H _ hf (.refl wd) mk_int⟩
theorem cb_lenS:CalB K (PC.rLen K) (fun x:Str×Unit=> [kS x.1]) kI (fun x=>wAss (x.1.length≤50000) (ret (x.1.length:Int))):=by
  intro S F H x vs Q Qp Ep wd h hf hQ
  obtain⟨v,rfl,hv⟩:=at1 h
  obtain rfl:=at_str hv
  exact s_len_str (sl_of hf.1) (hQ _ S H _ hf.2 (.refl wd) mk_int)
theorem cb_tupleL {r:α→Dm K}:CalB K (rTuple K) (fun x:List α×Unit=> [kL r x.1]) (kT r) (fun x=>ret x.1):=by
  intro S F H x vs Q Qp Ep wd h hf hQ
  obtain⟨v,rfl,⟨a,xs,rfl,n,s,l⟩⟩:=at1 h
  exact⟨a,xs,rfl,.inl ⟨.inl (.inl s),new_tup wd l fun H' v r' h=>hQ _ S H' v hf r' (dP_dT h)⟩⟩
theorem cb_sum:CalB K (rSum K) (fun x:List Int×Unit=> [kL kI x.1]) kI (fun x=>ret x.1.sum):=by
  intro S F H x vs Q Qp Ep wd h hf hQ
  obtain⟨v,rfl,⟨a,xs,rfl,n,s,l⟩⟩:=at1 h
  obtain rfl:=atL_ints l
  exact⟨a,x.1,rfl,.inl (.inl s),hQ _ S H _ hf (.refl wd) mk_int⟩
theorem cb_all:CalB K (rAll K) (fun x:List Bool×Unit=> [kL kB x.1]) kB (fun x=>ret (x.1.all id)):=by
  intro S F H x vs Q Qp Ep wd h hf hQ
  obtain⟨v,rfl,⟨a,xs,rfl,n,s,l⟩⟩:=at1 h
  obtain rfl:=atL_bls l
  exact⟨a,x.1,rfl,.inl (.inl s),hQ _ S H _ hf (.refl wd) mk_bl⟩
theorem cb_max2:CalB K (fun xs H Q=> ∃i j,xs= [.int i,.int j]∧Q (.int (if j > i then j else i)) H) (fun x:Int×Int×Unit=> [kI x.1,kI x.2.1]) kI (fun x=>ret (max x.1 x.2.1)):=by
  intro S F H x vs Q Qp Ep wd h hf hQ
  obtain⟨v,w,rfl,h1,h2⟩:=at2 h
  obtain rfl:=at_int h1
  obtain rfl:=at_int h2
  refine⟨_,_,rfl,?_⟩
  have e:(if x.2.1 > x.1 then x.2.1 else x.1)=max x.1 x.2.1:=by omega
  rw[e]
  exact hQ _ S H _ hf (.refl wd) mk_int
theorem cb_min2:CalB K (fun xs H Q=> ∃i j,xs= [.int i,.int j]∧Q (.int (if j<i then j else i)) H) (fun x:Int×Int×Unit=> [kI x.1,kI x.2.1]) kI (fun x=>ret (min x.1 x.2.1)):=by
  intro S F H x vs Q Qp Ep wd h hf hQ
  obtain⟨v,w,rfl,h1,h2⟩:=at2 h
  obtain rfl:=at_int h1
  obtain rfl:=at_int h2
  refine⟨_,_,rfl,?_⟩
  have e:(if x.2.1<x.1 then x.2.1 else x.1)=min x.1 x.2.1:=by omega
  rw[e]
  exact hQ _ S H _ hf (.refl wd) mk_int
theorem cb_strI:CalB K (fun xs H Q=> ∃i,xs= [.int i]∧i.natAbs.log2<1920∧Q (.str (toString i)) H) (fun x:Int×Unit=> [kI x.1]) kS (fun x=>wAss (x.1.natAbs.log2<1920) (ret (toString x.1:Str))):=by
  intro S F H x vs Q Qp Ep wd h hf hQ
  obtain⟨v,rfl,h1⟩:=at1 h
  obtain rfl:=at_int h1
  exact⟨_,rfl,hf.1,hQ _ S H _ hf.2 (.refl wd) mk_str⟩
def kTy:String→Dm K:=fun T=>⟨fun _ _ v=>v= .ty T,fun _ h=>h⟩
theorem sim_ty {T:String}:Sim ε G (tC (.ty T)) kTy (ret T):=fun S F σ H Q Qp Ep w s hm hQ _=>hQ _ S H _ hm (.refl w) rfl
def IsTy (T:String):Prop:=T= "int" ∨T= "bool" ∨T= "str" ∨T= "list" ∨T= "tuple" ∨T= "dict"
theorem cb_isi:CalB K (rIsi K) (fun x:PyData×String×Unit=> [kPy x.1,kTy x.2.1]) kB (fun x=>wAss (IsTy x.2.1) (ret (isD x.1 x.2.1))):=by
  intro S F H x vs Q Qp Ep wd h hf hQ
  obtain⟨v,w,rfl,h1,h2⟩:=at2 h
  obtain rfl:w= .ty x.2.1:=h2
  exact s_isi (DatP.dat _ _ h1) hf.1 (hQ _ S H _ hf.2 (.refl wd) mk_bl)
theorem sim_bits {te:TE} {m:W K Int} (h:Sim ε G te kI m):Sim ε G (tBits te) kI (bnd m fun i=>ret (Builtin.Int.intBits i:Int)):=by
  intro S F σ H Q Qp Ep w s hm hQ hE
  exact h S F σ H _ _ Ep w s hm (fun x S' H' v hx hr hv=>⟨x,at_int hv,hQ _ S' H' _ hx hr mk_int⟩) hE
theorem at_rng {Z:Pl} {H:Hp} (a b:Int):AtL Z H ((rng a b).map (kI (K:=K))) (rgV a b):=by
  have e:(rng a b).map V.int=rgV a b:=by simp[rng,rgV,List.map_map,Function.comp_def]
  rw[← e]
  exact ints_at _
def SimO (ε:WX) (G:Gm K) (to:TO) (m:W K (Option Int)):Prop:=
  ∀S F σ H (Q:Option Int→Hp→Prop) (Qp:Option Int→Store K→Prop) (Ep:Err K→Store K→Prop),Wd S F H→Sat G (Zd S F) H σ→m Qp Ep S→
    (∀x S' H',Qp x S'→Nxt S F H S' H'→Q x H')→HanE ε S F H σ Ep→to σ H Q
theorem simO_no:SimO ε G tNoPart (ret none):=fun S F σ H Q Qp Ep w s hm hQ hE=>hQ none S H hm (.refl w)
theorem simO_some {te:TE} {m:W K Int} (h:Sim ε G te kI m):SimO ε G (tPart te) (bnd m fun i=>ret (some i)):=by
  intro S F σ H Q Qp Ep w s hm hQ hE
  exact h S F σ H _ _ Ep w s hm (fun x S' H' v hx hr hv=>⟨x,at_int hv,hQ _ S' H' hx hr⟩) hE
def sli {α:Type} (xs:List α) (lo hi:Option Int):List α:=(xs.drop (HT.sIx xs.length 0 lo)).take (HT.sIx xs.length xs.length hi - HT.sIx xs.length 0 lo)
theorem atL_cut {Z:Pl} {H:Hp} {r:α→Dm K} {xs:List α} {vs:List V} {lo hi:Option Int} (l:AtL Z H (xs.map r) vs):AtL Z H ((sli xs lo hi).map r) (cutV vs lo hi):=by
  unfold sli cutV
  rw[l.length,List.length_map,List.map_take,List.map_drop]
  exact (l.drop _).take _
def SlS (K:PySem.W.Frag) (r:V→Option Int→Option Int→Hp→VK→Prop) {α γ:Type} (r1:α→Dm K) (r3:γ→Dm K) (f:α→Option Int→Option Int→W K γ):Prop:=
  ∀S F H x lo hi v Q (Qp:γ→Store K→Prop) (Ep:Err K→Store K→Prop),Wd S F H→(r1 x).at_ (Zd S F) H v→f x lo hi Qp Ep S→(∀z S' H' u,Qp z S'→Nxt S F H S' H'→(r3 z).at_ (Zd S' F) H' u→Q u H')→r v lo hi H Q
theorem sim_sl {r:V→Option Int→Option Int→Hp→VK→Prop} {te:TE} {tl th:TO} {r1:α→Dm K} {r3:γ→Dm K} {m:W K α} {ml mh:W K (Option Int)} {f:α→Option Int→Option Int→W K γ}
    (o:SlS K r r1 r3 f) (a:Sim ε G te r1 m) (l:SimO ε G tl ml) (h:SimO ε G th mh):Sim ε G (tSl r te tl th) r3 (bnd m fun x=>bnd ml fun lo=>bnd mh fun hi=>f x lo hi):=by
  intro S F σ H Q Qp Ep w s hm hQ hE
  refine a S F σ H _ _ Ep w s hm (fun x S1 H1 v hx h1 hv=> ?_) hE
  refine l S1 F σ H1 _ _ Ep h1.wd (s.up h1.stp) hx (fun lo S2 H2 hy h2=> ?_) (hE.to h1)
  have h12:=h1.trans h2
  refine h S2 F σ H2 _ _ Ep h2.wd (s.up h12.stp) hy (fun hi S3 H3 hz h3=> ?_) (hE.to h12)
  have h13:=h12.trans h3
  exact o S3 F H3 x lo hi v Q _ Ep h3.wd ((h2.trans h3).up hv) hz (fun z S' H' u q r' hu=>hQ z S' H' u q (h13.trans r') hu)
theorem ss_L {r:α→Dm K}:SlS K (PC.rSl K) (kL r) (kL r) (fun x lo hi=>ret (sli x lo hi)):=by
  intro S F H x lo hi v Q Qp Ep wd ⟨a,xs,e,n,s,l⟩ hf hQ
  subst e
  exact .inl ⟨a,xs,rfl,.inl (.inl s),new_lst wd (atL_cut l) fun H' v r' h=>hQ _ S H' v hf r' h⟩
theorem ss_T {r:α→Dm K}:SlS K (PC.rSl K) (kT r) (kT r) (fun x lo hi=>ret (sli x lo hi)):=by
  intro S F H x lo hi v Q Qp Ep wd ⟨a,xs,e,n,s,l⟩ hf hQ
  subst e
  by_cases w:HT.sIx xs.length 0 lo=0∧HT.sIx xs.length xs.length hi=xs.length
  · refine .inr (.inl ⟨a,xs,rfl,s,w,hQ _ S H _ hf (.refl wd) ?_⟩)
    have e:sli x lo hi=x:=by
      have hl:xs.length=x.length:=by rw[l.length,List.length_map]
      unfold sli
      rw[← hl,w.1,w.2,hl]
      simp
    rw[e];exact⟨a,xs,rfl,n,s,l⟩
  · exact .inr (.inr (.inl ⟨a,xs,rfl,s,w,new_tup wd (atL_cut l) fun H' v r' h=>hQ _ S H' v hf r' (dP_dT h)⟩))
theorem ss_S:SlS K (PC.rSl K) kS kS (fun x lo hi=>wAss (x.length≤50000) (ret (cutS x lo hi))):=by
  intro S F H x lo hi v Q Qp Ep wd hv hf hQ
  obtain rfl:=at_str hv
  exact s_sl_str (sl_of hf.1) (hQ _ S H _ hf.2 (.refl wd) mk_str)
theorem sim_join {to te:TE} {m:W K Str} {n:W K (List Str)} (h:Sim ε G to kS m) (g:Sim ε G te (kL kS) n):
    Sim ε G (tM1 (rJoin K) to te) kS (bnd m fun a=>bnd n fun ys=>wAss ((ys.map (·.length)).sum+ys.length * a.length≤16777216) (ret (Txt.join a ys))):=by
  intro S F σ H Q Qp Ep w s hm hQ hE
  refine h S F σ H _ _ Ep w s hm (fun x S1 H1 v hx h1 hv=>⟨⟨x,at_str hv⟩,?_⟩) hE
  refine g S1 F σ H1 _ _ Ep h1.wd (s.up h1.stp) hx (fun y S2 H2 u hy h2 hu=> ?_) (hE.to h1)
  obtain⟨a,xs,rfl,na,ha,l⟩:=hu
  obtain rfl:=atL_strs l
  exact⟨x,a,y,at_str hv,rfl,.inl (.inl (.inl ha)),hy.1,hQ _ S2 H2 _ hy.2 (h1.trans h2) mk_str⟩
def wIxS {K:PySem.W.Frag} (x:Str) (i:Int):W K Str:=fun Q _ S=>x.length≤50000∧0≤i∧ ∃c,x.cps.toList[i.toNat]?=some c∧Q ⟨#[c]⟩ S
theorem os_ixS:OpS K (rIx K) kS kI kS (fun x i=>wIxS x i):=by
  intro S F H x i v w Q Qp Ep wd hv hw ⟨hl,h0,c,ec,hf⟩ hQ
  obtain rfl:=at_str hv
  obtain rfl:=at_int hw
  have e:((i.toNat:Nat):Int)=i:=Int.toNat_of_nonneg h0
  exact .inr (.inr ⟨x,i,c,rfl,rfl,sl_of hl,by rw[← e];exact atI_nat ec,hQ _ S H _ hf (.refl wd) mk_str⟩)
theorem sim_part {ta:TE} {r:α→Dm K} {s:β→Dm K} {m:W K α} {δ:α→List (Dm K)} (f:α→β) (n:Nat) (e: ∀x,r x=dP (δ x)) (g: ∀x,(δ x)[n]?=some (s (f x))) (h:Sim ε G ta r m):
    Sim ε G (tOp (rIx K) ta (tC (.int n))) s (bnd m fun x=>ret (f x)):=by
  intro S F σ H Q Qp Ep w st hm hQ hE
  refine h S F σ H _ _ Ep w st hm (fun x S1 H1 v hx h1 hv=> ?_) hE
  rw[e] at hv
  obtain⟨a,vs,rfl,na,ha,la⟩:=hv
  obtain⟨u,hu,hd⟩:=la.get (g x)
  exact .inr (.inl ⟨a,vs,n,u,rfl,rfl,.inl (.inl ha),atI_nat hu,hQ _ S1 H1 u hx h1 hd⟩)
theorem sim_p1 {ta:TE} {r:α→Dm K} {s:β→Dm K} {m:W K (α×β)} (h:Sim ε G ta (kP r s) m):Sim ε G (tOp (rIx K) ta (tC (.int 0))) r (bnd m fun x=>ret x.1):=sim_part (·.1) 0 (fun _=>rfl) (fun _=>rfl) h
theorem sim_p2 {ta:TE} {r:α→Dm K} {s:β→Dm K} {m:W K (α×β)} (h:Sim ε G ta (kP r s) m):Sim ε G (tOp (rIx K) ta (tC (.int 1))) s (bnd m fun x=>ret x.2):=sim_part (·.2) 1 (fun _=>rfl) (fun _=>rfl) h
section
variable {δ : Type} {r : α → Dm K} {s : β → Dm K} {t : γ → Dm K} {u : δ → Dm K} {ta : TE} {m : W K (α × β × γ × δ)}
end
theorem sim_pair {tr:TA} {r:α→Dm K} {s:β→Dm K} {n:W K (α×β×Unit)} (h:SimA ε G tr (fun x:α×β×Unit=> [r x.1,s x.2.1]) n):Sim ε G (tTup tr) (kP r s) (bnd n fun y=>ret (y.1,y.2.1)):=
  sim_tup (f:=fun y=>(y.1,y.2.1)) h (fun _=>rfl) (fun _=>by simp)
def SimJ (ε:WX) (G:Gm K) (ts:List TE) (m:Str→W K Str):Prop:=
  ∀S F σ H acc (Q:Str→Hp→Prop) (Qp:Str→Store K→Prop) (Ep:Err K→Store K→Prop),Wd S F H→Sat G (Zd S F) H σ→m acc Qp Ep S→(∀x S' H',Qp x S'→Nxt S F H S' H'→Q x H')→HanE ε S F H σ Ep→tJs ts acc σ H Q
theorem simJ_nil:SimJ (K:=K) ε G [] (fun acc=>ret acc):=fun S F σ H acc Q Qp Ep w s hm hQ hE=>hQ _ S _ hm (.refl w)
theorem simJ_cons {t:TE} {ts:List TE} {m:W K Str} {n:Str→W K Str} (h:Sim ε G t kS m) (g:SimJ ε G ts n):SimJ ε G (t::ts) (fun acc=>bnd m fun y=>wAss ((acc++y).length≤50000) (n (acc++y))):=by
  intro S F σ H acc Q Qp Ep w s hm hQ hE
  refine h S F σ H _ _ Ep w s hm (fun x S1 H1 v hx h1 hv=>⟨x,at_str hv,sl_of hx.1,?_⟩) hE
  exact g S1 F σ H1 _ _ _ Ep h1.wd (s.up h1.stp) hx.2 (fun y S' H' hy h2=>hQ y S' H' hy (h1.trans h2)) (hE.to h1)
theorem sim_joined {ts:List TE} {m:Str→W K Str} (h:SimJ ε G ts m):Sim ε G (fun σ H Q=>tJs ts Str.empty σ H fun out H1=>Q (.str out) H1) kS (m Str.empty):=
  fun S F σ H Q Qp Ep w s hm hQ hE=>h S F σ H _ _ Qp Ep w s hm (fun x S' H' hx hr=>hQ x S' H' _ hx hr mk_str) hE
theorem sim_fmtS {te:TE} {m:W K Str} (h:Sim ε G te kS m):Sim ε G (tFmt te) kS (bnd m fun y=>wAss (y.length≤50000) (ret y)):=by
  intro S F σ H Q Qp Ep w s hm hQ hE
  exact h S F σ H _ _ Ep w s hm (fun x S1 H1 v hx h1 hv=> .inl ⟨x,at_str hv,sl_of hx.1,hQ _ S1 _ _ hx.2 h1 mk_str⟩) hE
def wApp {K:PySem.W.Frag} {α:Type} (a:Addr) (d:Dm K) (k:W K α):W K α:=fun Q E S=> ∃ds,S a=some (.lst ds)∧ds.length<50000∧k Q E (S.set a (.lst (ds++ [d])))
def wSetI {K:PySem.W.Frag} {α:Type} (a:Addr) (i:Int) (d:Dm K) (k:W K α):W K α:=fun Q E S=> ∃ds,S a=some (.lst ds)∧0≤i∧i<ds.length∧k Q E (S.set a (.lst (ds.set i.toNat d)))
theorem Nxt.old {S1:Store K} {H1:Hp} (n:Nxt S F H S1 H1) {a:Addr} (h:H1 a=none):H a=none:=by
  cases e:H a with
  | none=>rfl
  | some o=>exact absurd h (n.st.occ a (by rw[e];exact fun z=>nomatch z))
theorem new_out {α:Type} {r:α→Dm K} {xs:List α} {vs:List V} {Q:VK} (w:Wd S F H) (h:AtL (Zd S F) H (xs.map r) vs)
    (q: ∀H' a vs,Nxt S F H S H'→H a=none→Wd S (fun b=>F b∨b=a) H'→ ¬ F a→H' a=some (.lst vs)→AtL (Zd S fun b=>F b∨b=a) H' (xs.map r) vs→Q (.ref a) H'): ∀n,H n=none→Q (.ref n) (upd H n (.lst vs)):=fun n hn=>
  q _ n vs (w.new hn) hn (w.moreF hn (.inl ⟨_,upd_same⟩)) (fun z=>w.free hn (.inr z)) upd_same (h.up (Stp.moreF w hn))
theorem simN_lstR2 {te tf:TE} {m n:W K Int} (h:Sim ε G te kI m) (g:Sim ε G tf kI n):SimN ε G (tLstRg (tRg2 te tf)) kI (bnd m fun a=>bnd n fun b=>wAss (RgOk a b) (ret (rng a b))):=by
  intro S F σ H Q Qp Ep w s hm hQ hE
  refine h S F σ H _ _ Ep w s hm (fun x S1 H1 v hx h1 hv=> ?_) hE
  refine g S1 F σ H1 _ _ Ep h1.wd (s.up h1.stp) hx (fun y S2 H2 u hy h2 hu=>⟨x,y,at_int hv,at_int hu,hy.1,?_⟩) (hE.to h1)
  exact new_out h2.wd (at_rng x y) fun H3 a vs n1 n2 n3 n4 n5 n6=>hQ _ S2 H3 a vs hy.2 (h1.trans (h2.trans n1)) ((h1.trans h2).old n2) n3 n4 n5 n6
theorem simN_repL {ta tb:TE} {r:α→Dm K} {ma:W K (List α)} {mb:W K Int} (a:Sim ε G ta (kL r) ma) (b:Sim ε G tb kI mb):
    SimN ε G (tOp rRep ta tb) r (bnd ma fun x=>bnd mb fun k=>wAss (-(2 ^ 62)≤k∧k<2 ^ 62∧x.length * k.toNat≤50000) (ret (List.replicate k.toNat x).flatten)):=by
  intro S F σ H Q Qp Ep w s hm hQ hE
  refine a S F σ H _ _ Ep w s hm (fun x S1 H1 v hx h1 hv=> ?_) hE
  refine b S1 F σ H1 _ _ Ep h1.wd (s.up h1.stp) hx (fun k S2 H2 u hk h2 hu=> ?_) (hE.to h1)
  obtain⟨⟨k1,k2,kl⟩,hq⟩:=hk
  have hv2:=h2.up hv
  obtain rfl:=at_int hu
  obtain⟨p,vs,rfl,n,hp,l⟩:=hv2
  refine⟨p,k,vs,rfl,rfl,hp,by omega,by omega,by rw[l.length,List.length_map];exact sl_of kl,?_⟩
  have lf: ∀j:Nat,AtL (Zd S2 F) H2 ((List.replicate j x).flatten.map r) (List.replicate j vs).flatten:=by
    intro j
    induction j with
    | zero=>exact rfl
    | succ j ih=>
      rw[List.replicate_succ,List.replicate_succ,List.flatten_cons,List.flatten_cons,List.map_append]
      exact l.append ih
  exact new_out h2.wd (lf _) fun H3 a vs n1 n2 n3 n4 n5 n6=>hQ _ S2 H3 a vs hq (h1.trans (h2.trans n1)) ((h1.trans h2).old n2) n3 n4 n5 n6
def wPutK {K:PySem.W.Frag} {β:Type} (a:Addr) (k:Key) (d:Dm K) (c:W K β):W K β:=fun Q E S=> ∃es,S a=some (.dic es)∧es.length<50000∧c Q E (S.set a (.dic (putD es k d)))
def wPutT {K:PySem.W.Frag} {β:Type} (a:Addr) (k:List Key) (d:Dm K) (c:W K β):W K β:=fun Q E S=> ∃es,S a=some (.dct es)∧es.length<50000∧c Q E (S.set a (.dct (putD es k d)))
section
variable {T ρ : Type} {Gh : Option (Gm K)} {Gof : T → Gm K} {rr : ρ → Dm K} {ts : List TS} {te to ti : TE} {r : α → Dm K} {rk : β → Dm K} {m : W K α} {mo : W K Addr} {mi : W K β} {k : W K (Flow T ρ)}
end
end
end TL

set_option Elab.async false
set_option linter.all false
set_option maxRecDepth 100000
set_option maxHeartbeats 2000000
namespace TL
open PySem PySem.Spec PyProof.Rows L2 PC

section
variable {K : PySem.W.Frag} {ε : WX} {G : Gm K} {α β γ τ : Type} {S : Store K} {F : Pl}
theorem sim_neg {te:TE} {m:W K Int} (h:Sim ε G te kI m):Sim ε G (tUn (rU fun i=> .int (-i)) te) kI (bnd m fun i=>ret (-i)):=
  sim_un (r1:=kI) (r3:=kI) (f:=fun i=>ret (-i)) (fun S F H x v Q Qp Ep wd hv hf hQ=>⟨x,at_int hv,hQ _ S H _ hf (.refl wd) mk_int⟩) h
theorem cb_lenSc:CalB K (PC.rLen K) (fun x:List Int×Unit=> [kSc x.1]) kI (fun x=>ret (x.1.length:Int)):=by
  intro S F H x vs Q Qp Ep wd h hf hQ
  obtain⟨v,rfl,⟨a,rfl,n,s⟩⟩:=at1 h
  exact .inl ⟨a,_,rfl,.inl s,by rw[List.length_map];exact hQ _ S H _ hf (.refl wd) mk_int⟩
theorem simN_rev {r:α→Dm K} {te:TE} {m:W K (List α)} (h:Sim ε G te (kL r) m):SimN ε G (tRevL K te) r (bnd m fun x=>ret x.reverse):=by
  intro S F σ H Q Qp Ep w s hm hQ hE
  refine h S F σ H _ _ Ep w s hm (fun x S1 H1 v hx h1 hv=> ?_) hE
  obtain⟨p,xs,rfl,np,hp,lp⟩:=hv
  exact⟨p,xs,rfl,.inl (.inl hp),new_out h1.wd (by rw[List.map_reverse];exact lp.rev) fun H3 a vs n1 n2 n3 n4 n5 n6=>hQ _ S1 H3 a vs hx (h1.trans n1) (h1.old n2) n3 n4 n5 n6⟩
theorem sm_I:Sm (K:=K) kI:=fun x Z H v h e=>by rw[at_int h] at e;cases e
theorem sm_T {r:α→Dm K}:Sm (kT r):=fun x Z H v ⟨a,xs,e1,_⟩ e=>by rw[e] at e1;cases e1
def wNiC {K:PySem.W.Frag} (x y:Str):W K Bool:=fun Q E S=> ∃c,x=⟨#[c]⟩∧Q (!decide (c∈y.cps.toList)) S
theorem os_niC:OpS K (rNotInA K) kS kS kB (fun x y=>wNiC x y):=by
  intro S F H x y v w Q Qp Ep wd hv hw ⟨c,e,hf⟩ hQ
  subst e
  obtain rfl:=at_str hv
  obtain rfl:=at_str hw
  exact s_notIn_c (hQ _ S H _ hf (.refl wd) mk_bl)
theorem cb_strO {C:Addr} {fs:α→List (Str×Dm K)} {r:α→Dm K} (e: ∀x,r x=dI C (fs x)) {w:α×Unit→W K Str}:
    CalB K (rStrI C (lift K (fun x:α×Unit=> [r x.1]) kS w)) (fun x:α×Unit=> [r x.1]) kS (fun x=>wCalm (w x)):=by
  intro S F H x vs Q Qp Ep wd h hf hQ
  obtain⟨v,rfl,h1⟩:=at1 h
  have h2:=h1
  rw[e] at h2
  obtain⟨a,dx,xs,rfl,_,e2,_⟩:=h2
  exact⟨a,dx,xs,rfl,e2,S,F,x,_,_,wd,⟨_,_,rfl,h1,rfl⟩,hf,fun n S' H' v hn r' hv=>⟨n,at_str hv,hQ n S' H' _ hn r' mk_str⟩,fun e S' H' c d he _ _=>he⟩
def wXf {K:PySem.W.Frag} {C:Addr} {α:Type} (f:Str) (r:α→Dm K) (e:Err K):W K α:=fun Q _ S=>e.1=C∧ ∃x,e.2.lookup f=some (r x)∧Q x S
theorem sim_xf {te:TE} {a C:Addr} {k:Value} {d:Option Addr} {f:Str} {r:α→Dm K} {m:W K (Err K)} (h:Sim ε G te (kErr a k d) m):Sim ε G (tXf a k d C f te) r (bnd m (wXf (C:=C) f r)):=by
  intro S F σ H Q Qp Ep w s hm hQ hE
  refine h S F σ H _ _ Ep w s hm (fun e S1 H1 v hx h1 hv=> ?_) hE
  obtain⟨ec,x,ex,hq⟩:=hx
  obtain⟨rfl,e1,b,kvs,e2,e3,e4,l⟩:=hv
  subst e1
  rcases l.look (f:=f) with ⟨z,_⟩ | ⟨dd,u,z1,z2,z3⟩
  · rw[ex] at z;cases z
  · rw[ex] at z1;cases z1
    exact⟨rfl,by rw[ec],b,kvs,u,e2,e4,z2,hQ x S1 H1 u hq h1 z3⟩
section
variable {T ρ : Type} {Gh : Option (Gm K)} {Gof : T → Gm K} {rr : ρ → Dm K} {ts : List TS} {te to ti : TE} {m : W K Int} {mo : W K Addr} {mi : W K Int} {k : W K (Flow T ρ)} {f : Int → Int → Int}
end
end
end TL
namespace TL
open PySem PySem.Spec PyProof.Rows L2 PC
def sp_top (K:PySem.W.Frag):Sp:=fun vs H Q E=> ∃a,∃ns:List Int,vs= [.ref a]∧One H∧SqL K H a (ns.map V.int)∧ns.length≤63∧ ∀H',Q (.bl true) H'
theorem law_in {K:PySem.W.Frag} {w:List Int×Unit→W K Bool} {vs:List V} {H:Hp} {Q:VK} {E:XK} (h:sp_top K vs H Q E)
    (hw: ∀ns:List Int,ns.length≤63→w (ns,()) (fun b _=>b=true) (fun _ _=>False) (fun _=>none)):lift K (fun x:List Int×Unit=> [kSc x.1]) kB w vs H Q E:=by
  obtain⟨a,ns,rfl,o1,hS,hl,q⟩:=h
  refine⟨fun _=>none,fun _=>False,(ns,()),_,_,⟨o1,(fun _ _ e=>by cases e),(fun _ z=>False.elim z),(fun _ z=>False.elim z)⟩,⟨_,_,rfl,⟨a,rfl,.inl (fun z=>z.elim (fun z=>z rfl) id),hS⟩,rfl⟩,hw ns hl,fun y S' H' v hy _ hv=> ?_,fun _ _ _ _ _ z=>z.elim⟩
  rw[at_bl hv,hy]
  exact q H'
theorem FnG.ex {P:Program} {w:World} {K:PySem.W.Frag} {mg:Str→Option Value} {base:Heap} {k:Nat} {f:Addr} {fd:FuncData} {ps:List Str} {ι:Type 1} {sp:ι→Sp}
    (F: ∀i,FnG P w K mg base k f fd ps (sp i)):FnG P w K mg base k f fd ps (fun vs H Q E=> ∃i,sp i vs H Q E):=
  ⟨fun vs H Q E ⟨i,h⟩=>(F i).len vs H Q E h,fun A o s H a us vs Q E g r e0 b rv ⟨i,h⟩=>(F i).run A o s H a us vs Q E g r e0 b rv h⟩
section
variable {K : PySem.W.Frag} {ε : WX} {α τ : Type}
theorem pe_revLK {X:Cx} {e:Expr} {te:TE} {k:Nat} {p1 p2 p3 pos:Pos} (hK:X.K=K) (he:PE X e te):PE X (.Subscript e (.Slice none none (some (.UnaryOp .USub (.Constant (.int 1) k p1) p2)) p3) pos) (tRevL K te):=by
  subst hK;exact pe_revL he
end
end TL
namespace TL
open PySem PySem.Spec PyProof.Rows L2 PC
section
variable {K : PySem.W.Frag} {ε : WX} {G : Gm K} {α β γ τ : Type} {S : Store K} {F : Pl} {Z : Pl} {H : Hp}
theorem atL_py: ∀ {ds:List PyData} {vs:List V},DatPL K Z H ds vs→AtL Z H (ds.map (kPy (K:=K))) vs
  | [],_,h=>by simp only[DatPL] at h;exact h
  | d::ds,_,h=>by
    simp only[DatPL] at h
    obtain⟨v,r,e,h1,t⟩:=h
    exact⟨v,r,e,h1,atL_py t⟩
theorem datp_seq {d:PyData} {v:V} {ds:List PyData} (h:DatP K Z H d v) (e:seqD d=some ds):
    ∃a xs,v= .ref a∧AtL Z H (ds.map (kPy (K:=K))) xs∧((¬ Z a∧Rd H a (.lst xs))∨((¬ Z a∨SqT K (fun _=>none) a xs)∧SqT K H a xs)):=by
  cases d with
  | list l=>
    simp only[DatP] at h
    obtain⟨a,xs,e1,n,s,l⟩:=h
    cases e
    exact⟨a,xs,e1,atL_py l,.inl ⟨n,s⟩⟩
  | tuple l=>
    simp only[DatP] at h
    obtain⟨a,xs,e1,n,s,l⟩:=h
    cases e
    exact⟨a,xs,e1,atL_py l,.inr ⟨n,s⟩⟩
  | none=>cases e
  | bool _=>cases e
  | int _=>cases e
  | str _=>cases e
  | dict _=>cases e
def Oc {K:PySem.W.Frag} {α:Type} (r:α→Dm K) (f:α→PyData):Prop:= ∀x Z H v,DatP K Z H (f x) v→(r x).at_ Z H v
def wAs {K:PySem.W.Frag} {α:Type} (f:α→PyData) (d:PyData):W K α:=fun Q _ S=> ∃x,d=f x∧Q x S
theorem sim_as {te:TE} {r:α→Dm K} {f:α→PyData} {m:W K PyData} (o:Oc r f) (h:Sim ε G te kPy m):Sim ε G te r (bnd m (wAs f)):=by
  intro S F σ H Q Qp Ep w s hm hQ hE
  refine h S F σ H _ _ Ep w s hm (fun d S1 H1 v hx h1 hv=> ?_) hE
  obtain⟨x,rfl,hq⟩:=hx
  exact hQ x S1 H1 v hq h1 (o _ _ _ _ hv)
theorem oc_I:Oc (K:=K) kI PyData.int:=fun _ _ _ _ h=>h
theorem oc_S:Oc (K:=K) kS PyData.str:=fun _ _ _ _ h=>h
def wSeq {K:PySem.W.Frag} {β:Type} (d:PyData) (k:List PyData→W K β):W K β:=fun Q E S=> ∃ds,seqD d=some ds∧k ds Q E S
theorem simI_py {i:Nat} {d:PyData} (h:G[i]?=some (some (kPy d))):SimI ε G (iOr (iList K (tVar i)) (iTup K (tVar i))) kPy (wSeq d fun xs=>ret (xs,nI)):=by
  intro S F σ H RI Qp Ep w s ⟨ds,e,hq⟩ hQ hE
  obtain⟨v,ev,hv⟩:=s.slot i _ h
  obtain⟨a,xs,rfl,l,q | q⟩:=datp_seq hv e
  · exact .inl ⟨_,ev,a,rfl,⟨xs,.inl q.2⟩,hQ ds _ _ S H hq (.refl w) (iter_list q.1 q.2 l)⟩
  · exact .inr ⟨_,ev,a,rfl,⟨xs,q.2⟩,hQ ds _ _ S H hq (.refl w) (iter_tup q.1 q.2 l)⟩
def wSortPy {K:PySem.W.Frag} (d:PyData):W K (List Int):=fun Q _ S=> ∃ns,seqD d=some (ns.map .int)∧Q (isort ns) S
theorem cb_sortedPy:CalB K (PC.rSorted K) (fun x:PyData×Unit=> [kPy x.1]) (kL kI) (fun x=>wSortPy x.1):=by
  intro S F H x vs Q Qp Ep wd h ⟨ns,e,hf⟩ hQ
  obtain⟨v,rfl,hv⟩:=at1 h
  obtain⟨a,xs,rfl,l,q⟩:=datp_seq hv e
  have el:xs=ns.map V.int:=by
    have:AtL (Zd S F) H (ns.map (kI (K:=K))) xs:=by rw[List.map_map] at l;exact l
    exact atL_ints this
  subst el
  refine⟨a,ns,rfl,q.imp (fun q=> .inl q.2) (fun q=>q.2),fun ms b hp hs hb=> ?_⟩
  obtain rfl:=isort_is hp hs
  exact hQ _ S _ _ hf (wd.new hb) ⟨b,_,rfl,wd.free hb,upd_same,ints_at _⟩
theorem cb_isiT2:CalB K (rIsiT K) (fun x:PyData×(String×String)×Unit=> [kPy x.1,kP kTy kTy x.2.1]) kB (fun x=>wAss (x.2.1=("list","tuple")) (ret (isD x.1 "list" || isD x.1 "tuple"))):=by
  intro S F H x vs Q Qp Ep wd h hf hQ
  obtain⟨v,w,rfl,h1,h2⟩:=at2 h
  obtain⟨a,xs,rfl,n,s,u1,r1,rfl,q1,u2,r2,rfl,q2,rfl⟩:=h2
  have e1:u1= .ty x.2.1.1:=q1
  have e2:u2= .ty x.2.1.2:=q2
  rw[hf.1] at e1 e2
  subst e1 e2
  exact s_isiLT (DatP.dat _ _ h1) s (hQ _ S H _ hf.2 (.refl wd) mk_bl)
end
end TL
namespace TL
open PySem PySem.Spec PyProof.Rows L2 PC
theorem nxt_pot {K:PySem.W.Frag} {S:Store K} {F:Pl} {H H':Hp} {p:Addr} (w:Wd S F H) (hp:S p=some .pot) (r:R p H H'):Nxt S F H S H':=by
  have st:Stp (Zd S F) H (Zd S F) H':=⟨fun b o n e=>r.keep b o (fun z=>n (.inl (by rw[z,hp];exact fun w=>nomatch w))) e,fun _ z=> .inl z⟩
  refine⟨⟨fun b o n e=>r.keep b o (fun z=>by rw[z,hp] at n;cases n) e,fun _ z=> .inl z,fun b z=> ?_⟩,r.one w.one,fun a c e=> ?_,fun a z=>(w.foc a z).keep fun o e=>r.keep a o (fun q=>by rw[q] at z;rw[w.dis _ z] at hp;cases hp) e,w.dis⟩
  · by_cases q:b=p
    · subst q;exact r.occ z
    · cases e:H b with
      | none=>exact absurd e z
      | some o=>rw[r.keep b o q e];exact fun w=>nomatch w
  · by_cases q:a=p
    · subst q
      rw[hp] at e
      cases e
      exact r.pot (w.cell _ _ hp)
    · exact (w.cell a c e).up st fun o e=>r.keep a o q e
end TL
namespace TL
open PySem PySem.Spec PyProof.Rows L2 PC
section
variable {K : PySem.W.Frag} {ε : WX} {G : Gm K} {α : Type} {S : Store K} {F : Pl}
end
end TL
namespace TL
open PySem PySem.Spec PyProof.Rows L2 PC
end TL

set_option Elab.async false
set_option linter.all false
set_option maxRecDepth 100000
set_option maxHeartbeats 2000000
namespace TL
open PySem PySem.Spec PyProof.Rows L2 PC
section
variable {K : PySem.W.Frag} {α β γ T ρ : Type} {S : Store K} {Q : α → Store K → Prop} {E : Err K → Store K → Prop}
theorem ret_bnd (x:α) (k:α→W K β):bnd (ret x) k=k x:=id rfl
theorem bnd_ret (m:W K α):bnd m (fun x=>ret x)=m:=id rfl
theorem bnd_bnd (m:W K α) (k:α→W K β) (l:β→W K γ):bnd (bnd m k) l=bnd m fun x=>bnd (k x) l:=id rfl
theorem raise_bnd (e:Err K) (k:α→W K β):bnd (wRaise e:W K α) k=wRaise e:=id rfl
theorem ass_bnd (c:Prop) (m:W K α) (k:α→W K β):bnd (wAss c m) k=wAss c (bnd m k):=id rfl
theorem if_bnd (b:Bool) (m n:W K α) (k:α→W K β):bnd (wIf b m n) k=wIf b (bnd m k) (bnd n k):=by cases b <;> exact id rfl
theorem if_t (m n:W K α):wIf true m n=m:=by funext Q E S;unfold wIf;rw[if_pos rfl]
theorem if_f (m n:W K α):wIf false m n=n:=by funext Q E S;unfold wIf;rw[if_neg (by decide)]
theorem if_not (b:Bool) (m n:W K α):wIf (!b) m n=wIf b n m:=by cases b <;> exact id rfl
theorem if_rets (b c d:Bool):(wIf b (ret c) (ret d):W K Bool)=ret (if b=true then c else d):=by cases b <;> exact id rfl
theorem ass_t {c:Prop} {m:W K α} (h:c):wAss c m=m:=by funext Q E S;exact propext ⟨fun x=>x.2,fun x=>⟨h,x⟩⟩
theorem ass_true (m:W K α):wAss True m=m:=ass_t trivial
theorem calm_ret (x:α):wCalm (ret x:W K α)=ret x:=id rfl
theorem calm_bnd (m:W K α) (k:α→W K β):wCalm (bnd m k)=bnd (wCalm m) fun x=>wCalm (k x):=id rfl
theorem calm_ass (c:Prop) (m:W K α):wCalm (wAss c m)=wAss c (wCalm m):=id rfl
theorem out_rt (x:α) (d:Option α):outW (ret (Flow.rt x)) d=(ret x:W K α):=id rfl
theorem out_nx (x:α):outW (ret (Flow.nx ())) (some x)=(ret x:W K α):=id rfl
theorem out_bnd (m:W K β) (k:β→W K (Flow Unit α)) (d:Option α):outW (bnd m k) d=bnd m fun x=>outW (k x) d:=id rfl
theorem out_raise (e:Err K) (d:Option α):outW (wRaise e) d=(wRaise e:W K α):=id rfl
theorem out_ass (c:Prop) (m:W K (Flow Unit α)) (d:Option α):outW (wAss c m) d=wAss c (outW m d):=id rfl
theorem out_if (b:Bool) (m n:W K (Flow Unit α)) (d:Option α):outW (wIf b m n) d=wIf b (outW m d) (outW n d):=by cases b <;> exact id rfl
theorem aft_nx {T':Type} (k:T'→W K (Flow T ρ)) (s:T'):aft k (.nx s)=k s:=id rfl
theorem aft_rt {T':Type} (k:T'→W K (Flow T ρ)) (x:ρ):aft k (.rt x)=ret (.rt x):=id rfl
theorem seq_bnd (d:PyData) (k:List PyData→W K α) (l:α→W K β):bnd (wSeq d k) l=wSeq d fun ds=>bnd (k ds) l:=by
  funext Q E S;exact id rfl
theorem pk_bnd {δ:Type} (r:δ→Dm K) (a:Addr) (k:List δ→W K α) (l:α→W K β):bnd (wPk r a k) l=wPk r a fun ds=>bnd (k ds) l:=id rfl
theorem setF_bnd {δ:Type} (C:Addr) (f:Str) (a:Addr) (d:Dm K) (k:W K α) (l:α→W K β):bnd (wSetF C f a d k) l=wSetF C f a d (bnd k l):=id rfl
theorem setI_bnd (a:Addr) (i:Int) (d:Dm K) (k:W K α) (l:α→W K β):bnd (wSetI a i d k) l=wSetI a i d (bnd k l):=id rfl
theorem app_bnd (a:Addr) (d:Dm K) (k:W K α) (l:α→W K β):bnd (wApp a d k) l=wApp a d (bnd k l):=id rfl
theorem putK_bnd (a:Addr) (i:Key) (d:Dm K) (k:W K α) (l:α→W K β):bnd (wPutK a i d k) l=wPutK a i d (bnd k l):=id rfl
theorem putT_bnd (a:Addr) (i:List Key) (d:Dm K) (k:W K α) (l:α→W K β):bnd (wPutT a i d k) l=wPutT a i d (bnd k l):=id rfl
theorem rcv_bnd (g:Store K→Prop) (m:W K α) (l:α→W K β):bnd (wRcv g m) l=wRcv g (bnd m l):=id rfl
theorem pk_out {δ:Type} (r:δ→Dm K) (a:Addr) (k:List δ→W K (Flow Unit α)) (d:Option α):outW (wPk r a k) d=wPk r a fun ds=>outW (k ds) d:=id rfl
theorem setF_out (C:Addr) (f:Str) (a:Addr) (d:Dm K) (k:W K (Flow Unit α)) (l:Option α):outW (wSetF C f a d k) l=wSetF C f a d (outW k l):=id rfl
theorem setI_out (a:Addr) (i:Int) (d:Dm K) (k:W K (Flow Unit α)) (l:Option α):outW (wSetI a i d k) l=wSetI a i d (outW k l):=id rfl
theorem app_out (a:Addr) (d:Dm K) (k:W K (Flow Unit α)) (l:Option α):outW (wApp a d k) l=wApp a d (outW k l):=id rfl
theorem putK_out (a:Addr) (i:Key) (d:Dm K) (k:W K (Flow Unit α)) (l:Option α):outW (wPutK a i d k) l=wPutK a i d (outW k l):=id rfl
theorem rcv_out (g:Store K→Prop) (m:W K (Flow Unit α)) (l:Option α):outW (wRcv g m) l=wRcv g (outW m l):=id rfl
theorem calm_calm (m:W K α):wCalm (wCalm m)=wCalm m:=id rfl
theorem aftT_nx {T':Type} (k:T'→W K (Flow T ρ)) (s:T'):aftT k (.nx s)=k s:=id rfl
theorem aftT_rt {T':Type} (k:T'→W K (Flow T ρ)) (x:ρ):aftT k (.rt x)=ret (.rt x):=id rfl
theorem as_int (i:Int):wAs PyData.int (.int i)=(ret i:W K Int):=by
  funext Q E S
  exact propext ⟨fun⟨x,e,h⟩=>by cases e;exact h,fun h=>⟨i,rfl,h⟩⟩
theorem seq_of {d:PyData} {ds:List PyData} {k:List PyData→W K α} (h:seqD d=some ds):wSeq d k=k ds:=by
  funext Q E S
  exact propext ⟨fun⟨x,e,h'⟩=>by rw[h] at e;cases e;exact h',fun q=>⟨ds,h,q⟩⟩
theorem sortPy_of {d:PyData} {ns:List Int} (h:seqD d=some (ns.map .int)):wSortPy d=(ret (isort ns):W K (List Int)):=by
  funext Q E S
  refine propext ⟨fun⟨x,e,h'⟩=> ?_,fun q=>⟨ns,h,q⟩⟩
  rw[h] at e
  have:=congrArg intsD (Option.some.inj e)
  rw[intsD_map,intsD_map] at this
  subst this;exact h'
theorem rcv_tt (m:W K α):wRcv (fun _=>True) m=m:=by funext Q E S;exact propext ⟨fun x=>x.2,fun x=>⟨trivial,x⟩⟩
theorem rng_0 (b:Nat):rng 0 (b:Int)=intsTo b:=by
  simp[rng,intsTo]
theorem fmap_eq {c:α→W K Bool} {f:α→W K β} {c':α→Bool} {f':α→β}: ∀ {xs:List α},(∀x∈xs,c x=ret (c' x))→(∀x∈xs,c' x=true→f x=ret (f' x))→fmapW nI c f xs=ret ((xs.filter c').map f')
  | [],_,_=>by funext Q E S;exact propext ⟨fun h=>h.2,fun h=>⟨trivial,h⟩⟩
  | x::xs,h,g=>by
    have ih:=fmap_eq (xs:=xs) (fun y m=>h y (List.mem_cons_of_mem _ m)) (fun y m=>g y (List.mem_cons_of_mem _ m))
    have h0:=h x List.mem_cons_self
    have g0:=g x List.mem_cons_self
    have e: ∀Q E S,fmapW nI c f (x::xs) Q E S=(bnd (c x) (fun b=>wIf b (bnd (f x) fun y=>bnd (fmapW nI c f xs) fun ys=>ret (y::ys)) (fmapW nI c f xs))) Q E S:=fun Q E S=>propext ⟨fun h=>h.2,fun h=>⟨trivial,h⟩⟩
    funext Q E S
    rw[e,h0,ret_bnd,ih]
    cases hc:c' x with
    | true=>rw[if_t,g0 hc,ret_bnd,ret_bnd,List.filter_cons_of_pos hc,List.map_cons]
    | false=>rw[if_f,List.filter_cons_of_neg (by rw[hc];decide)]
theorem fmap_all {f:α→W K β} {f':α→β} {xs:List α} (g: ∀x∈xs,f x=ret (f' x)):fmapW nI (fun _=>ret true) f xs=ret (xs.map f'):=by
  rw[fmap_eq (c':=fun _=>true) (f':=f') (fun _ _=>rfl) fun x m _=>g x m,List.filter_eq_self.mpr fun _ _=>rfl]
theorem fmap_ret (f:α→β) (xs:List α):fmapW nI (fun _=>(ret true:W K Bool)) (fun x=>ret (f x)) xs=ret (xs.map f):=fmap_all fun _ _=>rfl
theorem fmap_filt {c:α→W K Bool} {c':α→Bool} {xs:List α} (h: ∀x∈xs,c x=ret (c' x)):fmapW nI c (fun x=>ret x) xs=ret (xs.filter c'):=by
  rw[fmap_eq (f':=fun x=>x) h fun _ _ _=>rfl,List.map_id']
theorem ix_eq {xs:List α} {i:Int} {x:α} (h0:0≤i) (h:xs[i.toNat]?=some x):wIx xs i=(ret x:W K α):=by
  funext Q E S
  exact propext ⟨fun⟨_,y,e,q⟩=>by rw[h] at e;cases e;exact q,fun q=>⟨h0,x,h,q⟩⟩
theorem sli_one {α:Type} (xs:List α):sli xs (some 1) none=xs.drop 1:=by
  unfold sli
  rw[show HT.sIx xs.length 0 (some 1)=min 1 xs.length from HT.sIx_nat _ _ 1,HT.sIx_none]
  cases xs with
  | nil=>rfl
  | cons x xs=>
    rw[show min 1 (x::xs).length=1 by rw[List.length_cons];omega]
    exact List.take_of_length_le (by rw[List.length_drop];exact Nat.le_refl _)
theorem for_cons {f:α→T→W K (Flow T ρ)} {x:α} {xs:List α} {s s':T} (h:f x s=ret (.nx s')):forW nI f (x::xs) s=forW nI f xs s':=by
  funext Q E S
  have e: ∀Q E S,forW nI f (x::xs) s Q E S=f x s (fun q S'=>match q with | .nx s'=>forW nI f xs s' Q E S' | .bk s'=>Q (.nx s') S' | .rt y=>Q (.rt y) S') E S:=fun Q E S=>propext ⟨fun h=>h.2,fun h=>⟨trivial,h⟩⟩
  rw[e,h];rfl
theorem intsTo_len (n:Nat):(intsTo n).length=n:=by simp[intsTo]
theorem sli_mem {α:Type} {xs:List α} {lo hi:Option Int} {x:α} (h:x∈sli xs lo hi):x∈xs:=List.mem_of_mem_drop (List.mem_of_mem_take h)
theorem sli_take {α:Type} (xs:List α) {i:Int} (h0:0≤i):sli xs none (some i)=xs.take i.toNat:=by
  obtain⟨k,rfl⟩:=Int.eq_ofNat_of_zero_le h0
  unfold sli
  rw[HT.sIx_nat,HT.sIx_none,List.drop_zero,Nat.sub_zero,Int.toNat_natCast]
  by_cases h:k≤xs.length
  · rw[Nat.min_eq_left h]
  · rw[Nat.min_eq_right (by omega),List.take_of_length_le (Nat.le_refl _),List.take_of_length_le (by omega)]
theorem sli_drop {α:Type} (xs:List α) {i:Int} (h0:0≤i):sli xs (some i) none=xs.drop i.toNat:=by
  obtain⟨k,rfl⟩:=Int.eq_ofNat_of_zero_le h0
  unfold sli
  rw[HT.sIx_nat,HT.sIx_none,Int.toNat_natCast]
  by_cases h:k≤xs.length
  · rw[Nat.min_eq_left h,List.take_of_length_le (by rw[List.length_drop];exact Nat.le_refl _)]
  · rw[Nat.min_eq_right (by omega),Nat.sub_self,List.take_zero,List.drop_of_length_le (by omega)]
def Spec (m:W K α) (S:Store K) (P:α→Prop):Prop:= ∀Q E,(∀y,P y→Q y S)→m Q E S
theorem Spec.ap {m:W K β} {k:β→W K α} {P:β→Prop} (h:Spec m S P) (g: ∀y,P y→k y Q E S):(bnd m k) Q E S:=h _ _ g
variable {P : α → Prop}
theorem Spec.ret {x:α} (h:P x):Spec (TL.ret x) S P:=fun Q E q=>q x h
theorem Spec.bnd {m:W K β} {k:β→W K α} {R:β→Prop} (h:Spec m S R) (g: ∀y,R y→Spec (k y) S P):Spec (TL.bnd m k) S P:=fun Q E q=>h _ _ fun y r=>g y r Q E q
theorem Spec.bndc {m:W K β} {k:β→W K α} {R:β→Prop} (h:Spec m S R) (g: ∀y,R y→Spec (k y) S P):Spec (TL.bnd (wCalm m) k) S P:=fun Q E q=>h _ _ fun y r=>g y r Q E q
theorem Spec.calm {m:W K α} (h:Spec m S P):Spec (wCalm m) S P:=fun Q E q=>h _ _ q
theorem Spec.ite {b:Bool} {m n:W K α} (h:b=true→Spec m S P) (g:b=false→Spec n S P):Spec (wIf b m n) S P:=by
  cases b with
  | true=>rw[if_t];exact h rfl
  | false=>rw[if_f];exact g rfl
theorem Spec.ass {c:Prop} {m:W K α} (hc:c) (h:Spec m S P):Spec (wAss c m) S P:=fun Q E q=>⟨hc,h Q E q⟩
theorem Spec.imp {m:W K α} {R:α→Prop} (h:Spec m S R) (g: ∀x,R x→P x):Spec m S P:=fun Q E q=>h Q E fun y r=>q y (g y r)
theorem Spec.eq {m:W K α} {x:α} (h:Spec m S (· =x)) (q:P x):Spec m S P:=h.imp fun _ e=>e ▸ q
theorem Spec.ix {xs:List α} {i:Int} (h0:0≤i) (h:i<xs.length):Spec (wIx xs i) S (fun y=>y∈xs):=fun Q E q=>by
  have hi:i.toNat<xs.length:=by omega
  exact⟨h0,xs[i.toNat],List.getElem?_eq_getElem hi,q _ (List.getElem_mem _)⟩
def All2 (P:α→β→Prop):List α→List β→Prop
  | [],ys=>ys= []
  | x::xs,ys=> ∃y r,ys=y::r∧P x y∧All2 P xs r
theorem All2.len {P:α→β→Prop}: ∀ {xs:List α} {ys:List β},All2 P xs ys→ys.length=xs.length
  | [],_,h=>by cases h;rfl
  | _::_,_,⟨y,r,e,_,h⟩=>by subst e;rw[List.length_cons,List.length_cons,h.len]
theorem All2.mem {P:α→β→Prop} {y:β}: ∀ {xs:List α} {ys:List β},All2 P xs ys→y∈ys→ ∃x∈xs,P x y
  | [],_,h,m=>by cases h;simp at m
  | x::xs,_,⟨z,r,e,p,h⟩,m=>by
    subst e
    rcases List.mem_cons.mp m with rfl | m
    · exact⟨x,List.mem_cons_self,p⟩
    · obtain⟨x',m',p'⟩:=h.mem m
      exact⟨x',List.mem_cons_of_mem _ m',p'⟩
theorem All2.map {P:α→β→Prop} {f:α→γ} {g:β→γ} (hf: ∀x y,P x y→f x=g y): ∀ {xs:List α} {ys:List β},All2 P xs ys→xs.map f=ys.map g
  | [],_,h=>by cases h;rfl
  | x::xs,_,⟨z,r,e,p,h⟩=>by rw[e,List.map_cons,List.map_cons,hf _ _ p,All2.map hf h]
theorem All2.of {P:α→β→Prop} {f:α→β}: ∀ {xs:List α},(∀x∈xs,P x (f x))→All2 P xs (xs.map f)
  | [],_=>rfl
  | x::xs,h=>⟨f x,xs.map f,rfl,h x List.mem_cons_self,All2.of fun y m=>h y (List.mem_cons_of_mem _ m)⟩
theorem All2.imp {P R:α→β→Prop} (hf: ∀x y,P x y→R x y): ∀ {xs:List α} {ys:List β},All2 P xs ys→All2 R xs ys
  | [],_,h=>h
  | x::xs,_,⟨z,r,e,p,h⟩=>⟨z,r,e,hf _ _ p,h.imp hf⟩
theorem All2.eqmap {P:α→β→Prop} {f:α→β} (hf: ∀x y,P x y→y=f x): ∀ {xs:List α} {ys:List β},All2 P xs ys→ys=xs.map f
  | [],_,h=>h
  | x::xs,_,⟨z,r,e,p,h⟩=>by rw[e,List.map_cons,← All2.eqmap hf h,← hf _ _ p]
theorem Spec.fmap {f:α→W K β} {P:α→β→Prop}: ∀ {xs:List α},(∀x∈xs,Spec (f x) S (P x))→Spec (fmapW nI (fun _=>TL.ret true) f xs) S (All2 P xs)
  | [],_=>fun Q E q=>⟨trivial,q _ rfl⟩
  | x::xs,h=>fun Q E q=>⟨trivial,by
    have ih:=Spec.fmap (xs:=xs) fun y m=>h y (List.mem_cons_of_mem _ m)
    rw[ret_bnd,if_t]
    exact h x List.mem_cons_self _ _ fun y p=>ih _ _ fun ys ps=>q _ ⟨y,ys,rfl,p,ps⟩⟩
theorem Spec.filt {c:α→W K Bool}: ∀ {xs:List α},(∀x∈xs,Spec (c x) S (fun _=>True))→Spec (fmapW nI c (fun x=>TL.ret x) xs) S (fun ys=>ys.Sublist xs)
  | [],_=>fun Q E q=>⟨trivial,q _ (List.Sublist.refl _)⟩
  | x::xs,h=>fun Q E q=>⟨trivial,by
    have ih:=Spec.filt (xs:=xs) fun y m=>h y (List.mem_cons_of_mem _ m)
    refine h x List.mem_cons_self _ _ fun b _=> ?_
    cases b with
    | true=>exact if_t (K:=K) _ _ ▸ ih _ _ fun ys ps=>q _ (ps.cons_cons _)
    | false=>exact if_f (K:=K) _ _ ▸ ih _ _ fun ys ps=>q _ (ps.cons _)⟩
def LQ (N:T→Store K→Prop) (Q:Flow T ρ→Store K→Prop):Flow T ρ→Store K→Prop
  | .nx s,S=>N s S
  | .bk s,S=>Q (.nx s) S
  | .rt y,S=>Q (.rt y) S
theorem for_ap {I:Store K→Prop} {f:α→T→W K (Flow T ρ)} {Q:Flow T ρ→Store K→Prop} (J:Nat→T→Store K→Prop) {xs:List α}
    (st: ∀i x s S N,xs[i]?=some x→J i s S→(∀s S,J (i+1) s S→N s S)→I S∧f x s (LQ N Q) E S)
    (en: ∀s S,J xs.length s S→I S∧Q (.nx s) S) {s:T} {S:Store K} (h0:J 0 s S):forW I f xs s Q E S:=by
  have go: ∀(zs:List α) (n:Nat),(∀i x,zs[i]?=some x→xs[n+i]?=some x)→n+zs.length=xs.length→ ∀s S,J n s S→forW I f zs s Q E S:=by
    intro zs
    induction zs with
    | nil=>intro n _ hn s S h;exact en s S (by rw[← hn];exact h)
    | cons z zs ih=>
      intro n hz hn s S h
      have hf:=st n z s S (fun s' S'=>forW I f zs s' Q E S') (hz 0 z rfl) h (fun s' S' g=>ih (n+1) (fun i x e=>by rw[show n+1+i=n+(i+1) by omega];exact hz (i+1) x (by simpa using e)) (by rw[List.length_cons] at hn;omega) s' S' g)
      refine⟨hf.1,?_⟩
      have e:(LQ (fun s' S'=>forW I f zs s' Q E S') Q)=(fun q S'=>match q with | .nx s'=>forW I f zs s' Q E S' | .bk s'=>Q (.nx s') S' | .rt y=>Q (.rt y) S'):=by
        funext q S';cases q <;> rfl
      have h2:=hf.2
      rw[e] at h2
      exact h2
  exact go xs 0 (fun i x e=>by rw[Nat.zero_add];exact e) (by omega) s S h0
theorem Spec.for {f:α→T→W K (Flow T ρ)} (J:Nat→T→Prop) {R:Flow T ρ→Prop} {xs:List α}
    (st: ∀i x s,xs[i]?=some x→J i s→Spec (f x s) S (fun q=>match q with | .nx s'=>J (i+1) s' | .bk s'=>R (.nx s') | .rt y=>R (.rt y)))
    (en: ∀s,J xs.length s→R (.nx s)) {s:T} (h0:J 0 s):Spec (forW nI f xs s) S R:=fun Q E q=>
  for_ap (fun i s S'=>S'=S∧J i s) (fun i x s S' N e ⟨hS,hJ⟩ hN=>⟨trivial,by
      subst hS
      refine st i x s e hJ _ _ fun y hy=> ?_
      cases y with
      | nx s'=>exact hN _ _ ⟨rfl,hy⟩
      | bk s'=>exact q _ hy
      | rt y=>exact q _ hy⟩) (fun s S' ⟨hS,hJ⟩=>⟨trivial,by subst hS;exact q _ (en s hJ)⟩) ⟨rfl,h0⟩
theorem Spec.try {m:W K α} {h:Err K→W K α} (g:Spec m S P):Spec (wTry m h) S P:=fun Q E q=>g _ _ q
theorem setF_ap {C a:Addr} {f:Str} {d:Dm K} {k:W K α} {fs:List (Str×Dm K)} (e:S a=some (.ins C fs)) (l:fs.length<1000) (h:k Q E (S.set a (.ins C (setF f d fs)))):wSetF C f a d k Q E S:=⟨fs,e,l,h⟩
theorem getF_ap {C a:Addr} {f:Str} {s:β→Dm K} {k:β→W K α} {fs:List (Str×Dm K)} {x:β} (e:S a=some (.ins C fs)) (l:fs.lookup f=some (s x)) (h:k x Q E S):(TL.bnd (wGetF C f s a) k) Q E S:=⟨fs,x,e,l,h⟩
theorem mkfrz {C:Addr} {τ:Type} {w:Addr×τ→W K Unit} {fs:α→List (Str×Dm K)} {x:τ}
    (h: ∀a,S a=none→w (a,x) (fun _ S'=> ∃y,S' a=some (.ins C (fs y))∧Q y (S'.del a)) (fun e S'=>E e (S'.del a)) (S.set a (.ins C []))):(TL.bnd (wMk C w x) (wFrz C fs)) Q E S:=h
theorem while_ap {c:T→W K Bool} {f:T→W K (Flow T ρ)} {Q:Flow T ρ→Store K→Prop} {s0:T} {S0:Store K} (I:Nat→T→Store K→Prop) (n:Nat) (h0:I n s0 S0)
    (st: ∀n s S,I n s S→ ∃b,(∀R:Bool→Store K→Prop,R b S→c s R E S)∧(b=true→ ∀N:T→Store K→Prop,(∀s' S' n',n'<n→I n' s' S'→N s' S')→f s (LQ N Q) E S)∧(b=false→Q (.nx s) S)):whileW c f s0 Q E S0:=by
  refine⟨I,⟨n,h0⟩,fun n s S h=> ?_⟩
  obtain⟨b,h1,h2,h3⟩:=st n s S h
  refine h1 _ ?_
  cases b with
  | true=>
    show f s _ E S
    have e:(LQ (fun s' S'=> ∃n',n'<n∧I n' s' S') Q)=(fun q S'=>match q with | .nx s'=> ∃n',n'<n∧I n' s' S' | .bk s'=>Q (.nx s') S' | .rt y=>Q (.rt y) S'):=by
      funext q S';cases q <;> rfl
    exact e ▸ h2 rfl _ fun s' S' n' l i=>⟨n',l,i⟩
  | false=>exact h3 rfl
theorem while_eq {b:T→Bool} {g:T→T} {f:T→W K (Flow T ρ)} {Q:Flow T ρ→Store K→Prop} (J:T→Prop) (μ:T→Nat) (hf: ∀s,J s→b s=true→f s=ret (.nx (g s))∧J (g s)∧μ (g s)<μ s) {s0:T} {S0:Store K} (h0:J s0)
    (q: ∀s,J s→b s=false→Q (.nx s) S0):whileW (fun s=>ret (b s)) f s0 Q E S0:=
  while_ap (fun n s S=>S=S0∧J s∧n=μ s) (μ s0) ⟨rfl,h0,rfl⟩ fun n s S ⟨hS,hJ,hn⟩=>⟨b s,fun R r=>r,fun hb N hN=>by
    obtain⟨e,j,l⟩:=hf s hJ hb
    rw[e]
    exact hN _ _ _ (by omega) ⟨hS,j,rfl⟩,fun hb=>hS ▸ q s hJ hb⟩
theorem mk_ap {C:Addr} {τ:Type} {w:Addr×τ→W K Unit} {k:Addr→W K α} {x:τ}
    (h: ∀a,S a=none→w (a,x) (fun _ S'=>k a Q E S') (fun e S'=>E e (S'.del a)) (S.set a (.ins C []))):(TL.bnd (wMk C w x) k) Q E S:=h
def Ext (S S':Store K):Prop:= ∀p c,S p=some c→S' p=some c
theorem Ext.refl:Ext S S:=fun _ _ h=>h
theorem Ext.trans {S1 S2:Store K} (a:Ext S S1) (b:Ext S1 S2):Ext S S2:=fun p c h=>b p c (a p c h)
theorem Ext.set {a:Addr} {c:Cell K} (h:S a=none):Ext S (S.set a c):=fun p d e=>by
  rw[set_ne (fun z=>by rw[z,h] at e;cases e)];exact e
theorem Ext.over {S1:Store K} {a:Addr} {c:Cell K} (x:Ext S S1) (h:S a=none):Ext S (S1.set a c):=fun p d e=>by
  rw[set_ne (fun z=>by rw[z,h] at e;cases e)];exact x p d e
theorem Ext.del {S1:Store K} {a:Addr} (x:Ext S S1) (h:S a=none):Ext S (S1.del a):=fun p d e=>by
  rw[del_ne (fun z=>by rw[z,h] at e;cases e)];exact x p d e
def SpecX (m:W K α) (S:Store K) (P:α→Prop):Prop:= ∀Q E,(∀y S',Ext S S'→P y→Q y S')→m Q E S
theorem Spec.x {m:W K α} (h:Spec m S P):SpecX m S P:=fun Q E q=>h _ _ fun y r=>q y S Ext.refl r
theorem SpecX.ap {m:W K β} {k:β→W K α} {P:β→Prop} (h:SpecX m S P) (g: ∀y S',Ext S S'→P y→k y Q E S'):(TL.bnd m k) Q E S:=h _ _ g
theorem SpecX.ret {x:α} (h:P x):SpecX (TL.ret x) S P:=fun Q E q=>q x S Ext.refl h
theorem SpecX.bnd {m:W K β} {k:β→W K α} {R:β→Prop} (h:SpecX m S R) (g: ∀y S',Ext S S'→R y→SpecX (k y) S' P):SpecX (TL.bnd m k) S P:=fun Q E q=>h _ _ fun y S' x r=>g y S' x r Q E fun z S2 x2 p=>q z S2 (x.trans x2) p
theorem SpecX.bndc {m:W K β} {k:β→W K α} {R:β→Prop} (h:SpecX m S R) (g: ∀y S',Ext S S'→R y→SpecX (k y) S' P):SpecX (TL.bnd (wCalm m) k) S P:=fun Q E q=>h _ _ fun y S' x r=>g y S' x r Q E fun z S2 x2 p=>q z S2 (x.trans x2) p
theorem SpecX.sb {m:W K β} {k:β→W K α} {R:β→Prop} (h:Spec m S R) (g: ∀y,R y→SpecX (k y) S P):SpecX (TL.bnd m k) S P:=fun Q E q=>h _ _ fun y r=>g y r Q E q
theorem SpecX.calm {m:W K α} (h:SpecX m S P):SpecX (wCalm m) S P:=fun Q E q=>h _ _ q
theorem SpecX.ite {b:Bool} {m n:W K α} (h:b=true→SpecX m S P) (g:b=false→SpecX n S P):SpecX (wIf b m n) S P:=by
  cases b with
  | true=>rw[if_t];exact h rfl
  | false=>rw[if_f];exact g rfl
theorem SpecX.ass {c:Prop} {m:W K α} (hc:c) (h:SpecX m S P):SpecX (wAss c m) S P:=fun Q E q=>⟨hc,h Q E q⟩
theorem SpecX.imp {m:W K α} {R:α→Prop} (h:SpecX m S R) (g: ∀x,R x→P x):SpecX m S P:=fun Q E q=>h Q E fun y S' x r=>q y S' x (g y r)
theorem SpecX.fmap {f:α→W K β} {P:α→β→Prop}: ∀ {xs:List α} {S:Store K},(∀x∈xs,∀S',Ext S S'→SpecX (f x) S' (P x))→SpecX (fmapW nI (fun _=>TL.ret true) f xs) S (All2 P xs)
  | [],S,_=>fun Q E q=>⟨trivial,q _ _ Ext.refl rfl⟩
  | x::xs,S,h=>fun Q E q=>⟨trivial,by
    rw[ret_bnd,if_t]
    exact h x List.mem_cons_self S Ext.refl _ _ fun y S1 x1 p=>SpecX.fmap (fun z m S2 x2=>h z (List.mem_cons_of_mem _ m) S2 (x1.trans x2)) _ _ fun ys S3 x3 ps=>q _ S3 (x1.trans x3) ⟨y,ys,rfl,p,ps⟩⟩
theorem SpecX.for {f:α→T→W K (Flow T ρ)} (J:Nat→T→Prop) {R:Flow T ρ→Prop} {xs:List α}
    (st: ∀i x s S',xs[i]?=some x→Ext S S'→J i s→SpecX (f x s) S' (fun q=>match q with | .nx s'=>J (i+1) s' | .bk s'=>R (.nx s') | .rt y=>R (.rt y)))
    (en: ∀s,J xs.length s→R (.nx s)) {s:T} (h0:J 0 s):SpecX (forW nI f xs s) S R:=fun Q E q=>
  for_ap (fun i s S'=>Ext S S'∧J i s) (fun i x s S' N e ⟨hS,hJ⟩ hN=>⟨trivial,by
      refine st i x s S' e hS hJ _ _ fun y S2 x2 hy=> ?_
      cases y with
      | nx s'=>exact hN _ _ ⟨hS.trans x2,hy⟩
      | bk s'=>exact q _ _ (hS.trans x2) hy
      | rt y=>exact q _ _ (hS.trans x2) hy⟩) (fun s S' ⟨hS,hJ⟩=>⟨trivial,q _ _ hS (en s hJ)⟩) ⟨Ext.refl,h0⟩
end
def Shp (n:Nat) (d:PyData):Prop:=d.canLay0=true∧d.depth≤n
theorem Shp.shaped {n:Nat} {d:PyData} (h:Shp n d) (hn:n≤64):SeqAt.shaped d=true:=by
  unfold SeqAt.shaped
  rw[h.1,decide_eq_true (Nat.le_trans h.2 hn)];rfl
theorem shp_int {i:Int} {n:Nat}:Shp n (.int i):=⟨by simp[PyData.canLay0],by simp[PyData.depth]⟩
theorem shp_bool {i:Bool} {n:Nat}:Shp n (.bool i):=⟨by simp[PyData.canLay0],by simp[PyData.depth]⟩
theorem shp_str {i:Str} {n:Nat} (h:PyData.strOk i=true):Shp n (.str i):=⟨by simp[PyData.canLay0,h],by simp[PyData.depth]⟩
theorem shp_all {n:Nat}: ∀ {ds:List PyData},(∀d∈ds,Shp n d)→PyData.canLayAll0 ds=true∧PyData.depthAll ds≤n
  | [],_=>⟨by simp[PyData.canLayAll0],by simp[PyData.depthAll]⟩
  | d::ds,h=>by
    have h1:=h d List.mem_cons_self
    have h2:=shp_all (ds:=ds) fun e m=>h e (List.mem_cons_of_mem _ m)
    exact⟨by simp[PyData.canLayAll0,h1.1,h2.1],by simp only[PyData.depthAll];exact Nat.max_le.mpr ⟨h1.2,h2.2⟩⟩
theorem shp_lst {n:Nat} {ds:List PyData} (h: ∀d∈ds,Shp n d):Shp (n+1) (.list ds):=
  ⟨by simp[PyData.canLay0,(shp_all h).1],by simp only[PyData.depth];exact Nat.succ_le_succ (shp_all h).2⟩
theorem shp_tup {n:Nat} {ds:List PyData} (h: ∀d∈ds,Shp n d):Shp (n+1) (.tuple ds):=
  ⟨by simp[PyData.canLay0,(shp_all h).1],by simp only[PyData.depth];exact Nat.succ_le_succ (shp_all h).2⟩
theorem shp_ints (ns:List Int):Shp 1 (.list (ns.map .int)):=shp_lst fun d h=>by obtain⟨_,_,rfl⟩:=List.mem_map.mp h;exact shp_int
theorem shp_tints (ns:List Int):Shp 1 (.tuple (ns.map .int)):=shp_tup fun d h=>by obtain⟨_,_,rfl⟩:=List.mem_map.mp h;exact shp_int
def EqC {α:Type} [DecidableEq α] (f:α→PyData):Prop:= ∀a b,PyData.eqv (f a) (f b)=decide (a=b)
theorem eqc_int:EqC PyData.int:=fun a b=>by simp[PyData.eqv];rfl
theorem eqc_str:EqC PyData.str:=fun a b=>by
  simp only[PyData.eqv]
  by_cases h:a=b
  · simp[h]
  · simp[h]
theorem eqc_all {α:Type} [DecidableEq α] {f:α→PyData} (h:EqC f): ∀xs ys:List α,PyData.eqvAll (xs.map f) (ys.map f)=decide (xs=ys)
  | [],[]=>by simp[PyData.eqvAll]
  | [],_::_=>by simp[PyData.eqvAll]
  | _::_,[]=>by simp[PyData.eqvAll]
  | x::xs,y::ys=>by
    simp only[List.map_cons,PyData.eqvAll,h x y,eqc_all h xs ys,List.cons.injEq]
    by_cases a:x=y <;> by_cases b:xs=ys <;> simp[a,b]
theorem eqc_lst {α:Type} [DecidableEq α] {f:α→PyData} (h:EqC f):EqC fun xs:List α=> .list (xs.map f):=fun a b=>by simp only[PyData.eqv];exact eqc_all h a b
theorem eqc_tup {α:Type} [DecidableEq α] {f:α→PyData} (h:EqC f):EqC fun xs:List α=> .tuple (xs.map f):=fun a b=>by simp only[PyData.eqv];exact eqc_all h a b
theorem eqv_same {d:PyData} {n:Nat} (h:Shp n d):PyData.eqv d d=true:=PySem.SeqAt.eqv_refl d h.1
section
variable {X : Cx} {K : PySem.W.Frag} {T ρ : Type}
end
end TL

set_option Elab.async false
set_option linter.all false
set_option maxRecDepth 100000
set_option maxHeartbeats 2000000
namespace PC
open PySem PySem.SeqAt PySem.Spec PyProof.Rows L2
open AutoSeq1 (wpAny_loadPart')
open MeetsSeq MeetsSeq2 MeetsSeq3 SeqRoads2
section
variable {prog : Program} {w : World} {A : Around} {R : Result → Shared → Prop}
end
end PC
namespace PC
open PySem PySem.Spec PyProof.Rows L2
section
variable {X : Cx} {k : Nat} {f C : Addr} {fd : FuncData} {ps : List Str} {sp : Sp}
end
end PC
namespace TL
open PySem PySem.Spec PyProof.Rows L2 PC
section
variable {K : PySem.W.Frag} {α : Type}
end
end TL
namespace PC
open PySem PySem.Spec PyProof.Rows L2
end PC
namespace TL
open PySem PySem.Spec PyProof.Rows L2 PC
section
variable {K : PySem.W.Frag} {ε : WX} {G : Gm K}
end
end TL
namespace TL
open PySem PySem.Spec PyProof.Rows L2 PC
end TL
namespace PC
open PySem PySem.Spec PyProof.Rows L2
end PC
namespace TL
open PySem PySem.Spec PyProof.Rows L2 PC
section
variable {K : PySem.W.Frag} {α : Type}
end
end TL
namespace TL
open PySem PySem.Spec PyProof.Rows L2 PC
section
variable {K : PySem.W.Frag} {α β : Type} {S : Store K} {Q : α → Store K → Prop} {E : Err K → Store K → Prop}
end
end TL
namespace TL
open PySem PySem.Spec PyProof.Rows L2 PC
section
variable {K : PySem.W.Frag} {α : Type} {ε : WX} {G : Gm K}
def wSome (o:Option α):W K α:=fun Q _ S=> ∃y,o=some y∧Q y S
theorem sim_some {te:TE} {r:α→Dm K} {m:W K (Option α)} (e:Sim ε G te (kO r) m):Sim ε G te r (bnd m wSome):=by
  intro S F σ H Q Qp Ep w st hm hQ hE
  refine e S F σ H _ _ Ep w st hm (fun o S1 H1 v hx h1 hv=> ?_) hE
  obtain⟨y,rfl,hy⟩:=hx
  exact hQ y S1 H1 v hy h1 hv
theorem some_bnd {β:Type} (y:α) (k:α→W K β):bnd (wSome (some y)) k=k y:=by
  funext Q E S
  exact propext ⟨fun⟨_,e,h⟩=>by cases e;exact h,fun h=>⟨y,rfl,h⟩⟩
end
end TL
namespace TL
open PySem PySem.Spec PyProof.Rows L2 PC
section
variable {K : PySem.W.Frag} {α : Type}
end
end TL
namespace TL
open PySem PySem.Spec PyProof.Rows L2 PC
section
variable {K : PySem.W.Frag} {α : Type} {S : Store K}
end
end TL

set_option Elab.async false
set_option linter.all false
set_option maxRecDepth 100000
set_option maxHeartbeats 2000000
namespace PC
open PySem PySem.Spec PyProof.Rows L2
section
variable {prog : Program} {w : World} {A : Around} {E : Value → Shared → Prop} {s : Shared}
end
end PC

namespace TL
open PySem PySem.Spec PyProof.Rows L2 PC
section
variable {K : PySem.W.Frag} {ε : WX} {G : Gm K} {α β : Type}
def oPy (f:α→PyData):Option α→PyData
  | none=> .none
  | some x=>f x
theorem co_OQ {r:α→Dm K} {f:α→PyData} (h:Co r kPy f):Co (kO r) kPy (oPy f):=fun x Z H v q=>by
  cases x with
  | none=>exact q
  | some y=>exact h y Z H v q
end
end TL

namespace PC
open PySem PySem.Spec PyProof.Rows L2
section
variable {X : Cx} {pos p2 : Pos}
end
end PC
namespace TL
open PySem PySem.Spec PyProof.Rows L2 PC
section
variable {K : PySem.W.Frag} {ε : WX} {G : Gm K} {α β : Type}
end
end TL
namespace TL
open PySem PySem.Spec PyProof.Rows L2 PC
section
variable {K : PySem.W.Frag} {ε : WX} {G : Gm K} {α β : Type}
theorem Wd.same {S:Store K} {F:Pl} {H H':Hp} (w:Wd S F H) (s:Same H H'):Nxt S F H S H':=by
  refine⟨⟨fun b o _ e=>s b o e,fun _ z=> .inl z,fun b z=> ?_⟩,⟨?_,fun a c e=>(w.cell a c e).up (Stp.same s) (fun o q=>s a o q),fun a z=>(w.foc a z).keep fun o q=>s a o q,w.dis⟩⟩
  · cases e:H b with
    | none=>exact absurd e z
    | some o=>rw[s b o e];exact nofun
  · obtain⟨o,u,e⟩:=w.one
    exact⟨o,u,s _ _ e⟩
end
end TL
namespace TL
open PySem PySem.Spec PyProof.Rows L2 PC
section
variable {K : PySem.W.Frag}
end
end TL
namespace TL
open PySem PySem.Spec PyProof.Rows L2 PC
section
variable {K : PySem.W.Frag} {ε : WX} {G : Gm K} {α β : Type}
end
end TL
namespace TL
open PySem PySem.Spec PyProof.Rows L2 PC
section
variable {K : PySem.W.Frag} {ε : WX} {G : Gm K} {α β γ : Type}
def kX (r:α→Dm K):List α→Dm K:=fun xs=>dP (xs.map r)
theorem co_XT {r:α→Dm K}:Co (kX r) (kT r) id:=fun _ _ _ _ h=>dP_dT h
theorem cb_tupleLX {r:α→Dm K}:CalB K (rTuple K) (fun x:List α×Unit=> [kL r x.1]) (kX r) (fun x=>ret x.1):=by
  intro S F H x vs Q Qp Ep wd h hf hQ
  obtain⟨v,rfl,⟨a,xs,rfl,n,s,l⟩⟩:=at1 h
  exact⟨a,xs,rfl,.inl ⟨.inl (.inl s),new_tup wd l fun H' v r' h=>hQ _ S H' v hf r' h⟩⟩
end
section
variable {K : PySem.W.Frag} {ε : WX} {G : Gm K} {α β : Type} {T ρ : Type} {Gh : Option (Gm K)} {Gof : T → Gm K} {rr : ρ → Dm K} {ts : List TS} {te to ti : TE} {r : α → Dm K} {rk : β → Dm K} {m : W K α} {mo : W K Addr} {mi : W K β} {k : W K (Flow T ρ)}
end
section
variable {K : PySem.W.Frag} {α β γ : Type} {S : Store K} {E : Err K → Store K → Prop}
theorem putT_out (a:Addr) (i:List Key) (d:Dm K) (k:W K (Flow Unit α)) (l:Option α):outW (wPutT a i d k) l=wPutT a i d (outW k l):=id rfl
end
end TL
namespace TL
open PySem PySem.Spec PyProof.Rows L2 PC
section
variable {K : PySem.W.Frag}
end
end TL

set_option Elab.async false
set_option linter.all false
set_option maxRecDepth 100000
set_option maxHeartbeats 2000000
namespace TL
open PySem PySem.Spec PyProof.Rows L2 PC
section
variable {K : PySem.W.Frag} {ε : WX} {G : Gm K} {α β γ τ : Type} {S : Store K}
theorem sim_dnewP:Sim ε G tDNewK kPy (ret (PyData.dict [])):=by
  intro S F σ H Q Qp Ep w s hm hQ hE d hd
  refine hQ _ S _ _ hm (w.new hd) ?_
  show DatP K _ _ (.dict []) _
  simp only[DatP]
  exact⟨d,[],rfl,w.free hd,upd_same,by simp only[DatPK]⟩
def kCls:Value→Dm K:=fun u=>⟨fun _ _ v=>ClsV v u,fun _ h=>h⟩
theorem sim_clsR {C:Addr}:Sim ε G (tC (.ref C)) kCls (ret (Value.ref C)):=fun S F σ H Q Qp Ep w s hm hQ _=>hQ _ S H _ hm (.refl w) (ClsV.own _)
theorem sim_clsT {T:String}:Sim ε G (tC (.ty T)) kCls (ret (Value.type T)):=fun S F σ H Q Qp Ep w s hm hQ _=>hQ _ S H _ hm (.refl w) (ClsV.ty _)
theorem sim_tupX {tr:TA} {δ:τ→List (Dm K)} {n:W K τ} {r:α→Dm K} (f:τ→List α) (e: ∀y,δ y=(f y).map r) (hl: ∀y,(f y).length≤50000) (h:SimA ε G tr δ n):Sim ε G (tTup tr) (kX r) (bnd n fun y=>ret (f y)):=
  sim_tup h (fun y=>by unfold kX;rw[e]) fun y=>by rw[e,List.length_map];exact hl y
def wIsE (e:Err K) (u:Value):W K Bool:=fun Q _ S=>ErrQ K e.1∧ClsQ K∧ ∃b,PySem.W.kitOne K (.ref e.1) u=some b∧Q b S
def wIsGo (e:Err K):List Value→W K Bool
  | []=>ret false
  | u::us=>bnd (wIsE e u) fun b=>wIf b (ret true) (wIsGo e us)
def wIsEs (e:Err K) (us:List Value):W K Bool:=fun Q E S=>ErrQ K e.1∧ClsQ K∧wIsGo e us Q E S
theorem isGo_any {e:Err K} {Q:Bool→Store K→Prop} {E:Err K→Store K→Prop}: ∀ {us:List Value},wIsGo e us Q E S→ ∃b,PySem.W.kitAny K (.ref e.1) us=some b∧Q b S
  | [],h=>⟨false,kita_nil,h⟩
  | u::us,⟨_,_,b,hb,h⟩=>by
    cases b with
    | true=>exact⟨true,kita_yes hb,wIf_t (b:=true) h⟩
    | false=>
      obtain⟨b,h1,h2⟩:=isGo_any (us:=us) (wIf_f (b:=true) h)
      exact⟨b,kita_no hb h1,h2⟩
theorem atL_cls {Z:Pl} {H:Hp}: ∀ {us:List Value} {vs:List V},AtL Z H (us.map (kCls (K:=K))) vs→Paired ClsV vs us
  | [],_,h=>by cases h;exact .nil
  | u::us,_,⟨v,r,e,h,t⟩=>by subst e;exact .cons h (atL_cls t)
theorem cb_isE {a:Addr} {k:Value} {d:Option Addr}:CalB K (rIsErr K a k d) (fun x:Err K×Value×Unit=> [kErr a k d x.1,kCls x.2.1]) kB (fun x=>wIsE x.1 x.2.1):=by
  intro S F H x vs Q Qp Ep wd h ⟨hq,hc,b,hb,hQ⟩ q
  obtain⟨v,w,rfl,⟨rfl,hk,dd,kvs,hd,_,hH,_⟩,hw⟩:=at2 h
  exact⟨x.1.1,w,b,dd,kvs,rfl,hk,hd,hH,hq,hc,.inl ⟨_,hw,hb⟩,q b S H _ hQ (.refl wd) mk_bl⟩
theorem cb_isEs {a:Addr} {k:Value} {d:Option Addr}:CalB K (rIsErr K a k d) (fun x:Err K×List Value×Unit=> [kErr a k d x.1,kX kCls x.2.1]) kB (fun x=>wIsEs x.1 x.2.1):=by
  intro S F H x vs Q Qp Ep wd h ⟨hq,hc,hg⟩ q
  obtain⟨v,w,rfl,⟨rfl,hk,dd,kvs,hd,_,hH,_⟩,hw⟩:=at2 h
  obtain⟨tp,cs,rfl,_,hT,l⟩:=hw
  obtain⟨b,h1,h2⟩:=isGo_any hg
  exact⟨x.1.1,.ref tp,b,dd,kvs,rfl,hk,hd,hH,hq,hc,.inr ⟨tp,cs,_,rfl,hT,atL_cls l,h1⟩,q b S H _ h2 (.refl wd) mk_bl⟩
theorem isE_of {C:Addr} {fs:List (Str×Dm K)} {u:Value} {b:Bool} (q:ErrQ K C) (c:ClsQ K) (h:PySem.W.kitOne K (.ref C) u=some b):wIsE (C,fs) u=ret b:=by
  funext Q E S
  refine propext ⟨fun⟨_,_,b',hb,hQ⟩=> ?_,fun hQ=>⟨q,c,b,h,hQ⟩⟩
  have:b'=b:=by
    have e:some b'=some b:=hb.symm.trans h
    exact Option.some.inj e
  subst this;exact hQ
theorem isEs_of {C:Addr} {fs:List (Str×Dm K)} {us:List Value} (q:ErrQ K C) (c:ClsQ K):wIsEs (C,fs) us=wIsGo (C,fs) us:=by
  funext Q E S
  exact propext ⟨fun h=>h.2.2,fun h=>⟨q,c,h⟩⟩
theorem isGo_nil {e:Err K}:wIsGo e []=ret false:=id rfl
theorem isGo_cons {e:Err K} {u:Value} {us:List Value}:wIsGo e (u::us)=bnd (wIsE e u) fun b=>wIf b (ret true) (wIsGo e us):=id rfl
theorem catch_y {C D:Addr} {fs:List (Str×Dm K)} {h n:Err K→W K α} (e:PySem.W.exmOne K (.ref C) (.ref D)=some true):wCatch D h n (C,fs)=h (C,fs):=by
  funext Q E S
  refine propext ⟨fun⟨b,hb,h1,_⟩=> ?_,fun hh=>⟨true,e,fun _=>hh,fun z=>nomatch z⟩⟩
  have:b=true:=Option.some.inj ((show some b=some true from hb.symm.trans e))
  exact h1 this
theorem catch_n {C D:Addr} {fs:List (Str×Dm K)} {h n:Err K→W K α} (e:PySem.W.exmOne K (.ref C) (.ref D)=some false):wCatch D h n (C,fs)=n (C,fs):=by
  funext Q E S
  refine propext ⟨fun⟨b,hb,_,h1⟩=> ?_,fun hh=>⟨false,e,fun z=>(nomatch z),fun _=>hh⟩⟩
  have:b=false:=Option.some.inj ((show some b=some false from hb.symm.trans e))
  exact h1 this
theorem xf_of {β:Type} {C:Addr} {f:Str} {s:β→Dm K} {fs:List (Str×Dm K)} {x:β} {k:β→W K α} {Q:α→Store K→Prop} {E:Err K→Store K→Prop} (l:fs.lookup f=some (s x)) (h:k x Q E S):(bnd (wXf (C:=C) f s (C,fs)) k) Q E S:=⟨rfl,x,l,h⟩
end
end TL

set_option Elab.async false
set_option linter.all false
set_option maxRecDepth 100000
set_option maxHeartbeats 2000000
namespace PC
open PySem PySem.Spec PyProof.Rows L2

section
variable {M : Model} {A : Around} {E : Value → Shared → Prop} {s : Shared}
end

section
variable {M : Model} {A : Around} {E : Value → Shared → Prop} {s : Shared} {Z : Obj → Prop} {B : Heap} {env : Env} {outer : List Env} {L C a : Addr}
theorem looks_any {fl:Value} {Q:Unit→Shared→Prop} (hZ:HandSPX.Steady Z) (hfr:A.frames=some (env::outer)) (hf:env.frame=some L)
    (st:B.StaysIn s.heap) (no:B.get? a=none) (ff:s.heap.FunFrames B (env::outer)) (ht:HandSPX.TracedZ s.heap B a Z fl)
    (hQ: ∀h',HandSPX.HeldZ B (env::outer) a Z L h'→s.heap.UpToSlots h'→Q () { s with heap:=h' }):wpAny M A (noteFrame (.ref a) env) Q E s:=by
  by_cases hq:(fl == rawInt L)=true
  · have e:fl=rawInt L:=by simpa using hq
    subst e
    exact HandSPX.againZ hf ht (hQ s.heap ⟨st,no,ff,ht⟩ (Heap.UpToSlots.refl _))
  obtain⟨ob,fv,tb,ot,tv,eo,zo,dob,q1,tn,te,tg,td,q3⟩:=ht
  unfold noteFrame
  simp only[hf]
  refine wpAny_bind (wpAny_field eo dob q1 ?_)
  rw[if_pos (show (Value.ref tb !=Value.none)=true from by simp)]
  refine wpAny_bind (wpAny_field tg td q3 ?_)
  rw[if_neg hq]
  refine wpAny_bind (wpAny_setField tg td (Array.getElem?_eq_some_iff.mp q3).1 ?_)
  have keepO: ∀b,b≠tb→(s.heap.update tb (Obj.mapFields (·.setIfInBounds 3 Value.none))).get? b=s.heap.get? b:=fun b hb=>Heap.get?_update_other _ _ (Ne.symm hb)
  have notT: ∀b o,s.heap.get? b=some o→(∀fv,o.data≠ .fields fv)→b≠tb:=fun b o hb hnf q=>by
    rw[q,tg] at hb;injection hb with hb;subst hb;exact hnf tv td
  refine HandSPX.wpAny_entryZ hZ hfr (ff.of_keeps fun b o hb hnf=>⟨o,(keepO b (notT b o hb hnf)).trans hb,rfl⟩) hf ((keepO a (Ne.symm te)).trans eo)
    (fun b o hbo=>(keepO b fun q=>by rw[q,tn] at hbo;cases hbo).trans (st b o hbo)) no dob (Array.getElem?_eq_some_iff.mp q1).1 zo fun h' nt=> ?_
  obtain⟨x1,x2,x3,x4⟩:=nt
  exact hQ h' ⟨x1,no,x2,x3⟩ fun b o hb hnf=>x4 b o ((keepO b (notT b o hb hnf)).trans hb) hnf
theorem sky_note {Q:Unit→Shared→Prop} (hZ:HandSPX.Steady Z) (hfr:A.frames=some (env::outer)) (hf:env.frame=some L)
    (x:Sky B (env::outer) a Z C s.heap) (hQ: ∀h',HandSPX.HeldZ B (env::outer) a Z L h'→s.heap.UpToSlots h'→Q () { s with heap:=h' }):
    wpAny M A (noteFrame (.ref a) env) Q E s:=by
  rcases x with ⟨hB,hn,hl,oe,vs,he,hz,hd,h1⟩ | fl | ⟨f1,f2,f3,f4⟩
  · exact HandSPX.look_newZ hZ hfr hl hf he hB hn hd h1 hz hQ
  · exact HandSPX.looks_onZ hZ hfr hf fl hQ
  · exact looks_any hZ hfr hf f1 f2 f3 f4 hQ
end

section
variable {X : Cx} {σ : L2.St} {H : Hp} {s : Shared}
end
end PC

namespace TL
open PySem PySem.Spec PyProof.Rows L2 PC
section
variable {K : PySem.W.Frag} {ε : WX} {G : Gm K} {α β γ τ : Type}
end
end TL

set_option Elab.async false
set_option linter.all false
set_option maxRecDepth 100000
set_option maxHeartbeats 2000000
namespace PC
open PySem PySem.Spec PyProof.Rows L2

section
variable {M : Model} {A : Around} {E : Value → Shared → Prop} {s : Shared} {K : PySem.W.Frag} {x C f : Addr} {ox : Obj} {od : Option Obj}
end

section
variable {H : Hp} {a : Addr}
end
section
variable {X : Cx} {k : Nat} {f C : Addr} {fd : FuncData} {p : Str} {sp : Sp}
structure LoopAt (X:Cx) (A:Around) (base:Heap) (a:Addr):Prop where
  fr:A.frames=some X.stack
  gd:GOkA X.K A base
  mod:Mod X.K X.mg base
  at_: ∃o,base.get? a=some o
  na:X.K.lookup a=none
  sub: ∀b o,base.get? b=some o→X.base.get? b=some o∨b=a
end
section
variable {X : Cx} {k : Nat} {f C : Addr} {fd : FuncData} {p : Str} {sp : Sp} {pins : List (Addr × Obj)} {σ : L2.St} {H : Hp} {s : Shared} {a : Addr} {vs : List V}
end
end PC

namespace TL
open PySem PySem.Spec PyProof.Rows L2 PC
section
variable {K : PySem.W.Frag} {α : Type} {H : Hp} {a : Addr}
variable {S : Store K} {E : Err K → Store K → Prop}
variable {ε : WX} {G : Gm K} {β : Type}
end
end TL

set_option Elab.async false
set_option linter.all false
set_option maxRecDepth 100000
set_option maxHeartbeats 2000000
namespace PC
open PySem PySem.Spec PyProof.Rows PySem.SeqAt L2
open AutoSeq1 (wpAny_loadPart')
section
variable {M : Model} {A : Around} {E : Value → Shared → Prop} {s : Shared} {K : PySem.W.Frag} {x C f : Addr} {ox : Obj} {od : Option Obj}
end
section
variable {K : PySem.W.Frag} {x C f dx : Addr}
end
section
variable {prog : Program} {w : World} {A : Around} {E : Value → Shared → Prop} {s : Shared} {K : PySem.W.Frag} {x C f : Addr} {ox : Obj} {od : Option Obj} {u tb : Value}
end

def BT:List String:= ["NoneType","bool","int","str","list","tuple","dict"]
structure AlT (K:PySem.W.Frag) (C:Addr):Prop where
  sub: ∀T∈BT,PySem.W.subIn K (.ref C) (.type T)=some false
  tc:PySem.W.typeIn K (.ref C)=some (.type "type")
  ic:PySem.W.isClsIn K C=true
theorem rev_no {K:PySem.W.Frag} {C:Addr}: ∀T∈BT,PySem.W.subIn K (.type T) (.ref C)=some false:=by
  intro T h
  simp only[BT,List.mem_cons,List.not_mem_nil,or_false] at h
  rcases h with rfl | rfl | rfl | rfl | rfl | rfl | rfl <;> rfl
theorem AlT.first {K:PySem.W.Frag} {C:Addr} {T:String} (h:T∈BT):PySem.W.notFirst K C (.type T)=true:=by
  unfold PySem.W.notFirst
  rw[rev_no T h]
  simp
theorem AlT.is {K:PySem.W.Frag} {C:Addr} {T:String} (t:AlT K C) (h:T∈BT):PySem.W.kitOne K (.type T) (.ref C)=some false:=by
  have e:(Value.type T == Value.ref C)=false:=rfl
  have ic:(PySem.W.clsIn K C).isSome=true:=t.ic
  unfold PySem.W.kitOne PySem.W.kitCls
  rw[if_neg (by rw[e];decide)]
  dsimp only
  rw[ic,t.tc,if_pos (by simp)]
  exact rev_no T h
inductive TyA (K:PySem.W.Frag) (H:Hp):V→String→Prop where
  | non:TyA K H .non "NoneType"
  | bl (b:Bool):TyA K H (.bl b) "bool"
  | int (i:Int):TyA K H (.int i) "int"
  | str (x:Str):TyA K H (.str x) "str"
  | lst {a:Addr} {xs:List V} (e:Rd H a (.lst xs)):TyA K H (.ref a) "list"
  | tup {a:Addr} {xs:List V} (e:SqT K H a xs):TyA K H (.ref a) "tuple"
  | dct {a:Addr} {es:List (Key×V)} (e:H a=some (.dK es)):TyA K H (.ref a) "dict"
section
variable {K : PySem.W.Frag} {H : Hp} {x : V} {T : String}
theorem TyA.mem (h:TyA K H x T):T∈BT:=by cases h <;> simp[BT]
end
section
variable {X : Cx} {pins : List (Addr × Obj)} {σ : L2.St} {H : Hp} {s : Shared} {x : V} {u : Value} {T : String} {a C dx : Addr} {fs : List (Str × V)}
end
section
variable {X : Cx} {k : Nat} {f C : Addr} {fd : FuncData} {ps : List Str} {sp : Sp}
end
end PC
namespace TL
open PySem PySem.Spec PyProof.Rows L2 PC
section
variable {K : PySem.W.Frag} {α β : Type}
inductive AlD:Dm K→Prop where
  | py (d:PyData):AlD (kPy d)
  | lst (ds:List (Dm K)):AlD (dL ds)
end
end TL

set_option Elab.async false
set_option linter.all false
set_option maxRecDepth 100000
set_option maxHeartbeats 2000000
namespace PC
open PySem PySem.Spec PyProof.Rows L2 LamX

abbrev LamTl:=XK→Hp→VK→Prop
def tCall (i:Nat) (f c':Addr) (q:Str) (W:WX) (tl:LamTl):TE:=fun σ H Q=>σ[i]?=some (some (.ref f))∧H c'=some (CodeO c' q)∧tl (fun c d H=>W c d σ H) H Q
section
variable {X : Cx} {pins : List (Addr × Obj)} {σ : L2.St} {H : Hp} {s : Shared}
end
def GivesT (P:Program) (w:World) (K:PySem.W.Frag) (mg:Str→Option Value) (base:Heap) (k:Nat) (g:Addr) (x:Str) (st:Stmt) (Ng:List Str) (a:Str) (TT:LamTl→Addr→Addr→Str→Hp→VK→Prop):Prop:=
  ∀(cdv:Value) (A:Around) (outer:List Env) (s:Shared) (H:Hp) (Q:VK) (f c':Addr) (q:Str) (tl:LamTl),GOkA K A base→Room k (A.deeper (envOfC x (defScope st) s.heap.objs.size g cdv))→
    (∀(W:WX) (pn:List (Addr×Obj)) (xe:Value→Shared→Prop) (p1 p2:Pos),Takes ((cxg P w K mg base Ng x st g cdv A outer s H E0).tr pn xe) W→PE ((cxg P w K mg base Ng x st g cdv A outer s H E0).tr pn xe) (.Call (.Name a p1) [] [] p2) (tCall 0 f c' q W tl))→
    TT tl f c' q H Q→ ∃t,PSs (cxg P w K mg base Ng x st g cdv A outer s H E0) (defBody st) t∧t { nx:=fun _ H'=>Q .non H',rt:=Q } (L2.start Ng [.ref f]) H
end PC
namespace TL
open PySem PySem.Spec PyProof.Rows L2 PC LamX
section
variable {K : PySem.W.Frag} {α ρ : Type} {ε : WX} {G : Gm K}
theorem Wd.kind {S:Store K} {F:Pl} {H:Hp} {c:Addr} {q:Str} (w:Wd S F H) (h:H c=none∨H c=some (CodeO c q)): ¬ Zd S F c:=fun z=>by
  have lst: ∀ {o:HO},H c=some o→(∀φ,o≠ .ext φ)→False:=fun {o} e n=>by
    rcases h with h | h
    · rw[h] at e;cases e
    · rw[h] at e;cases e;exact n _ rfl
  rcases z with z | z
  · cases e:S c with
    | none=>exact z e
    | some x=>
      have k:=w.cell c x e
      cases x with
      | pot=>obtain⟨_,_,e,_⟩:=k;exact lst e fun _ z=>nomatch z
      | lst ds=>obtain⟨_,e,_⟩:=k;exact lst e fun _ z=>nomatch z
      | dic es=>obtain⟨_,e,_⟩:=k;exact lst e fun _ z=>nomatch z
      | dct es=>obtain⟨_,e,_⟩:=k;exact lst e fun _ z=>nomatch z
      | tab q=>obtain⟨_,e,_⟩:=k;exact lst e fun _ z=>nomatch z
      | ins C fs=>obtain⟨_,_,e,_⟩:=k;exact lst e fun _ z=>nomatch z
  · rcases w.foc c z with ⟨_,e⟩ | ⟨_,e⟩ | ⟨_,e⟩ <;> exact lst e fun _ z=>nomatch z
end
end TL

set_option Elab.async false
set_option linter.all false
set_option maxRecDepth 100000
set_option maxHeartbeats 2000000
namespace PC
open PySem PySem.Spec PyProof.Rows L2 LamX
section
variable {P : Program} {w : World} {K : PySem.W.Frag} {mg : Str → Option Value} {base : Heap}
theorem GivesT.mono {j k:Nat} {g:Addr} {x:Str} {st:Stmt} {Ng:List Str} {a:Str} {TT:LamTl→Addr→Addr→Str→Hp→VK→Prop} (G:GivesT P w K mg base j g x st Ng a TT) (h:j≤k):GivesT P w K mg base k g x st Ng a TT:=
  fun cdv A outer s H Q f c' q tl hg hr=>G cdv A outer s H Q f c' q tl hg (hr.mono h)
end
section
variable {P : Program} {w : World} {K : PySem.W.Frag} {mg mb : Str → Option Value} {k : Nat} {fa a : Addr} {fd : FuncData}
  {x : Str} {sp : Sp} {s₁ : Shared} {vs : List Value} {ns : List Int} {cs : List (Addr × Addr)}
end
end PC
namespace TL
open PySem PySem.Spec PyProof.Rows L2 PC LamX
section
variable {P : Program} {w : World} {K : PySem.W.Frag} {mg : Str → Option Value} {base : Heap} {α τ : Type}
end
end TL
namespace TL
open PySem PySem.Spec PyProof.Rows L2 PC
end TL
namespace TL
open PySem PySem.Spec PyProof.Rows L2 PC LamX
section
variable {K : PySem.W.Frag} {α ρ : Type} {ε : WX} {G : Gm K}
end
end TL

namespace PC
open PySem PySem.Spec PySem.W
end PC

set_option Elab.async false
set_option linter.all false
set_option maxRecDepth 100000
set_option maxHeartbeats 2000000
namespace PC
open PySem PySem.Spec PyProof.Rows L2
open PySem.W (EachIs)
section
variable {X : Cx} {k : Nat} {K : PySem.W.Frag}
end
mutual
theorem reads_lt {h:Heap}: ∀ {v:Value} {d:PyData} {as:List Addr},Reads h v d as→ ∀a∈as,a<h.objs.size
  | _,_,_,.none,a,m=>nomatch m
  | _,_,_,.bool _,a,m=>nomatch m
  | _,_,_,.int _ _,a,m=>nomatch m
  | _,_,_,.str _ _,a,m=>nomatch m
  | _,_,_,.list ho _ _ r,a,m=>(List.mem_cons.mp m).elim (fun e=>e ▸ Heap.lt_size ho) (readsAll_lt r a)
  | _,_,_,.tuple _ _ _ r,a,m=>readsAll_lt r a m
  | _,_,_,.dict ho _ _ r q,a,m=>(List.mem_append.mp m).elim (fun m=>(List.mem_cons.mp m).elim (fun e=>e ▸ Heap.lt_size ho) (readsAll_lt r a)) (readsAll_lt q a)
theorem readsAll_lt {h:Heap}: ∀ {vs:List Value} {ds:List PyData} {as:List Addr},ReadsAll h vs ds as→ ∀a∈as,a<h.objs.size
  | _,_,_,.nil,a,m=>nomatch m
  | _,_,_,.cons r q,a,m=>(List.mem_append.mp m).elim (reads_lt r a) (readsAll_lt q a)
end
section
variable {X : Cx} {k : Nat} {K : PySem.W.Frag}
end
end PC
namespace TL
open PySem PySem.Spec PyProof.Rows L2 PC
section
variable {K : PySem.W.Frag} {ε : WX} {G : Gm K} {α β γ τ : Type} {S : Store K}
end
end TL
namespace TL
open PySem PySem.Spec PyProof.Rows L2 PC
section
variable {K : PySem.W.Frag} {ε : WX} {G : Gm K} {α β γ δ τ : Type} {S : Store K}
end
section
variable {K : PySem.W.Frag} {ε : WX} {Gh : Option (Gm K)} {G : Gm K} {α β γ τ S' ρ : Type} {T : Type} {Gof : T → Gm K} {rr : ρ → Dm K} {ts : List TS}
end
section
variable {K : PySem.W.Frag} {α β γ δ : Type}
end
end TL
namespace PC
open PySem PySem.Spec PyProof.Rows L2
section
variable {X : Cx} {K : PySem.W.Frag} {o e value : Expr} {f : Str} {pos tpos : Pos} {ta tv : TE}
end
end PC
namespace TL
open PySem PySem.Spec PyProof.Rows L2 PC
section
variable {K : PySem.W.Frag}
end
end TL

set_option Elab.async false
set_option linter.all false
set_option maxRecDepth 100000
set_option maxHeartbeats 2000000
namespace TL
open PySem PySem.Spec PyProof.Rows L2 PC
section
variable {K : PySem.W.Frag} {ε : WX} {Gh : Option (Gm K)} {G : Gm K} {α β γ τ S' ρ : Type} {T : Type} {Gof : T → Gm K} {rr : ρ → Dm K} {ts : List TS}
end
section
variable {K : PySem.W.Frag} {ε : WX} {Gh : Option (Gm K)} {G : Gm K} {α β γ τ S' ρ : Type} {T : Type} {Gof : T → Gm K} {rr : ρ → Dm K} {ts : List TS}
end
end TL

set_option Elab.async false
set_option linter.all false
set_option maxRecDepth 100000
set_option maxHeartbeats 2000000
namespace PC
open PySem PySem.SeqAt PySem.Spec PyProof.Rows L2
open AutoSeq1 (wpAny_loadPart')
open MeetsSeq MeetsSeq2 MeetsSeq3 SeqRoads2
section
variable {prog : Program} {w : World} {A : Around} {R : Result → Shared → Prop}
end
abbrev EqvB:=V→V→Bool→Hp→Prop
def MonB (D:EqvB):Prop:= ∀x y b H H',L2.Ext H H'→D x y b H→D x y b H'
structure SubG (X:Cx) (n:Nat) (A:Around):Prop where
  room:Room n A
  fr:A.frames=X.A.frames
  g:GOkA X.K A X.base
theorem SubG.in1 {X:Cx} {n:Nat} {A:Around} (s:SubG X (n+1) A):SubG X n A.in1:=⟨s.room.in1,s.fr,s.g⟩
theorem SubG.mono {X:Cx} {n m:Nat} {A:Around} (s:SubG X n A) (h:m≤n):SubG X m A:=⟨s.room.mono h,s.fr,s.g⟩
def EqB (X:Cx) (n:Nat) (D:EqvB):Prop:=
  ∀(A:Around) (pins:List (Addr×Obj)) (s:Shared) (σ:L2.St) (H:Hp) (x y:V) (u v:Value) (b:Bool),SubG X n A→Inv X pins σ H s→RelV x u→RelV y v→D x y b H→
    wpAny (model X.prog X.w) A (eqBool u v) (fun r s'=>r=b∧ ∃H',Inv X pins σ H' s'∧L2.Ext H H') X.xe s
section
variable {X : Cx} {n m : Nat} {D D' : EqvB}
theorem EqB.mono (h:EqB X n D) (hn:n≤m):EqB X m D:=fun A pins s σ H x y u v b sb=>h A pins s σ H x y u v b (sb.mono hn)
theorem EqB.or (h:EqB X n D) (h':EqB X n D'):EqB X n (fun x y b H=>D x y b H∨D' x y b H):=fun A pins s σ H x y u v b sb I rx ry d=>by
  rcases d with d | d
  · exact h A pins s σ H x y u v b sb I rx ry d
  · exact h' A pins s σ H x y u v b sb I rx ry d
theorem MonB.or (h:MonB D) (h':MonB D'):MonB (fun x y b H=>D x y b H∨D' x y b H):=fun x y b H H' e d=>d.elim (fun d=> .inl (h x y b H H' e d)) fun d=> .inr (h' x y b H H' e d)
end
end PC

set_option Elab.async false
set_option linter.all false
set_option maxRecDepth 100000
set_option maxHeartbeats 2000000
namespace PC
open PySem PySem.Spec PyProof.Rows L2
section
variable {X : Cx} {k : Nat} {f C : Addr} {fd : FuncData} {ps : List Str} {sp : Sp}
end
end PC
namespace TL
open PySem PySem.Spec PyProof.Rows L2 PC
section
variable {K : PySem.W.Frag} {α : Type} {Z : Pl} {H : Hp}
end
end TL

set_option Elab.async false
set_option linter.all false
set_option maxRecDepth 100000
set_option maxHeartbeats 2000000
namespace PC
open PySem PySem.Spec PyProof.Rows PySem.W L2
section
variable {X : Cx} {ks : List Str} {f C : Addr} {x m : Str} {p pos apos : Pos} {o e : Expr} {es : List Expr} {kws : List Keyword} {to : TE} {t tk : TA}
    {rk : L2.St → List V → List V → Hp → VK → Prop} {pl : Sem Bool}
end
end PC
namespace TL
open PySem PySem.Spec PyProof.Rows L2 PC
section
variable {K : PySem.W.Frag} {α β : Type} {ε : WX} {G : Gm K}
end
end TL

set_option Elab.async false
set_option linter.all false
set_option maxRecDepth 100000
set_option maxHeartbeats 2000000
namespace PC
open PySem PySem.Spec PyProof.Rows L2
section
variable {X : Cx} {n k : Nat} {D : EqvB} {f C : Addr} {fd : FuncData} {ps : List Str} {sp : Sp}
end
end PC
namespace TL
open PySem PySem.Spec PyProof.Rows L2 PC
section
variable {K : PySem.W.Frag} {α : Type}
end
section
variable {K : PySem.W.Frag} {ε : WX} {G : Gm K} {α : Type}
end
end TL

set_option Elab.async false
set_option linter.all false
set_option maxRecDepth 100000
set_option maxHeartbeats 2000000
namespace TL
open PySem PySem.Spec PyProof.Rows L2 PC
section
variable {K : PySem.W.Frag} {α β γ : Type} {ε : WX} {G : Gm K}
inductive Thg (α:Type)
  | cell (a:Addr)
  | dat (d:PyData)
  | obj (x:α)
  | lst (xs:List (PyData ⊕ α))
  | tup (xs:List (PyData ⊕ α))
end
end TL

set_option Elab.async false
set_option linter.all false
set_option maxRecDepth 100000
set_option maxHeartbeats 2000000
namespace PC
open PySem PySem.Spec PyProof.Rows L2 PySem.SeqAt
def IteS (z:Str):It:=
  ⟨fun i _=>i<z.cps.size,
   fun i H v H'=> ∃T c,v= .ref T∧H T=none∧H'=upd H T (.tup [.int (i:Nat),.str ⟨#[c]⟩])∧z.cps[i]?=some c,
   fun i _=>i=z.cps.size⟩
theorem turn_enumS {P:Program} {w:World} {K:PySem.W.Frag} {elts:List Expr} {kk:Nat} {tpos:Pos} (z:Str) (t:Tok) (e it:Addr) (hei:e≠it):
    Turn P w K (.Tuple elts kk tpos) (IteS z) [e,it] e
      (fun i h=>(∃old,IsEnum h e it ((i:Nat):Int) old)∧h.IsStrIter it (strIterType z) z t i∧e≠it) where
  mem:=by simp
  obj:=fun i h st b hb=>by
    obtain⟨⟨old,he⟩,⟨o,ho,hc,hd⟩,_⟩:=st
    rcases (show b=e∨b=it by simpa using hb) with z | z
    · subst z
      exact⟨_,he,fun v q=>nomatch q⟩
    · subst z
      exact⟨o,ho,fun v q=>by rw[hd] at q;cases q⟩
  keep:=fun i h h' st k=>
    let ⟨⟨old,he⟩,⟨o,ho,r⟩,hne⟩:=st
    ⟨⟨old,k e (by simp) _ he⟩,⟨o,k it (by simp) o ho,r⟩,hne⟩
  item:=by
    intro X hP hw hK hc i pins s σ H E I hf st hg
    subst hP hw hK
    obtain⟨⟨old,he⟩,hit,hne⟩:=st
    have le:e<s.heap.objs.size:=Heap.lt_size he
    have li:it<s.heap.objs.size:=by
      obtain⟨_,q,_⟩:=hit
      exact Heap.lt_size q
    refine wpAny_pyNext_enum_itemD (Draws.text (A:=X.A.in1) (I.ok.hd hc) it z t) he hit hg hne (by simp[hne])
      fun y h' tk hy ho st' hT hsz hk=> ?_
    obtain⟨c,u,ec,rfl⟩:=hy
    refine⟨_,rfl,wpAny_letOwnedTupleGo_enum (s:= { s with heap:=h',toks:=tk+1 }) ho fun h'' he' sb=> ?_⟩
    have hT2:h''.get? s.heap.objs.size=some { cls:= .type "tuple",data:= .seq #[.int i tk,.str ⟨#[c]⟩ u] }:=
      (sb.2 _ (Nat.ne_of_gt le)).trans hT
    have new:ObjOk X.prog X.w (upd H s.heap.objs.size (.tup [.int (i:Nat),.str ⟨#[c]⟩])) h'' s.heap.objs.size (.tup [.int (i:Nat),.str ⟨#[c]⟩]):=
      ⟨by show 2≤sizeLine;decide,[.int i tk,.str ⟨#[c]⟩ u],.cons ⟨_,rfl⟩ (.cons ⟨_,rfl⟩ .nil),⟨_,hT2,rfl,_,rfl⟩⟩
    have I1:Inv X pins σ (upd H s.heap.objs.size (.tup [.int (i:Nat),.str ⟨#[c]⟩])) { s with heap:=h'',toks:=tk+1 }:=
      I.turnedNew (ch:= [e,it]) (fun b ob hb q=>(sb.2 b (fun z=>hb (by simp[z]))).trans
        (hk b ob (fun z=>hb (by simp[z])) (fun z=>hb (by simp[z])) q)) hf (Nat.le_refl _) new
    refine⟨.ref s.heap.objs.size,_,I1,rfl,⟨_,c,rfl,I.hok.fresh (Nat.le_refl _),rfl,ec⟩,
      ⟨⟨.str ⟨#[c]⟩ u,?_⟩,?_,hne⟩,fun b hb=> ?_⟩
    · have e1:((i+1:Nat):Int)=(i:Int)+1:=by omega
      rw[e1]
      exact he'
    · obtain⟨o,q,r⟩:=st'
      exact⟨o,(sb.2 it (Ne.symm hne)).trans q,r⟩
    · have lb:b<s.heap.objs.size:=by
        rcases (show b=e∨b=it by simpa using hb) with z | z
        · rw[z];exact le
        · rw[z];exact li
      rw[upd_ne (Nat.ne_of_lt lb)]
      exact (hf b hb).1
  done:=by
    intro X hP hw hK hc i pins s σ H E I hf st hg
    subst hP hw hK
    obtain⟨⟨old,he⟩,hit,hne⟩:=st
    obtain⟨f0,f1,f2,f3,f4,f5⟩:=hf it (by simp)
    obtain rfl:i=z.cps.size:=hg
    exact wpAny_pyNext_enum_endD (Draws.text (A:=X.A.in1) (I.ok.hd hc) it z t) he hit fun h' eb=>⟨rfl,I.turned (t':=s.toks) (fun b o hb q=>eb b o hb q) f0 f1 f3 f4 f5⟩
  self:=fun A i s Q E st h=>let ⟨⟨_,he⟩,_⟩:=st;wpAny_pyIter_enum he h
def iEnumS (ta:TA):TI:=fun σ H R=>ta σ H fun vs H1=> ∃z,vs= [.str z]∧R (IteS z) H1
theorem pi_enumS {X:Cx} {e:Expr} {ta:TA} {p pos tpos:Pos} {elts:List Expr} {kk:Nat} (hg:Gl X "enumerate") (hm:X.mg "enumerate" =none)
    (ha:PA X [e] ta) (hs:starEach [e] X.env= [(false,eval e X.env)]:=by rfl):
    PI X (.Tuple elts kk tpos) (.Call (.Name "enumerate" p) [e] [] pos) (iEnumS ta):=by
  refine⟨fun pins s σ H R I h=> ?_⟩
  refine Call_ (ld_blt I hg hm boot_enumerate (callWith_type1 (thn (ha.run pos pins s σ H _ I h) fun us s1 hh=> ?_) hs rfl))
  obtain⟨vs,H1,I1,r1,z,ex,q⟩:=hh
  subst ex
  cases r1 with
  | cons r rr=>
    cases rr
    obtain⟨t,rfl⟩:=(show ∃t,_=Value.str z t from r)
    have fp: ∀b∈ [s1.heap.objs.size+1,s1.heap.objs.size],FpOk X pins H1 b:=fun b hb=>by
      have le:s1.heap.objs.size≤b:=by
        rcases (show b=s1.heap.objs.size+1∨b=s1.heap.objs.size by simpa using hb) with z | z
        · rw[z];exact Nat.le_succ _
        · rw[z];exact Nat.le_refl _
      exact I1.fpOk le (I1.hok.fresh le)
    refine call_enumerate_str fun h' he hit hsz hk=>wpAny_pyIter_enum he ?_
    exact⟨s1.heap.objs.size+1,[s1.heap.objs.size+1,s1.heap.objs.size],_,_,H1,rfl,I1.kept (t':=s1.toks) hk,
      turn_enumS z t (s1.heap.objs.size+1) s1.heap.objs.size (Nat.succ_ne_self _),⟨⟨.none,he⟩,hit,Nat.succ_ne_self _⟩,fp,q⟩
theorem walk_enumS {z:Str}:Walk (IteS z) z.cps.size (fun _=>True) (YPair (fun i=>some (.int (i:Nat))) (fun i=>(z.cps[i]?).map fun c=>V.str ⟨#[c]⟩)):=by
  refine⟨fun i _ hi _=>hi,fun _ _=>rfl,fun i H v H' hi _ y=> ?_⟩
  obtain⟨T,c,h1,h2,h3,h4⟩:=y
  exact⟨T,.int (i:Nat),.str ⟨#[c]⟩,h1,h2,h3,rfl,by show Option.map _ z.cps[i]?=_;rw[h4];rfl⟩
structure FunP (K:PySem.W.Frag) (x qual:Str) (st:Stmt) (f:Addr) (fd:FuncData):Prop where
  ex: ∃(oc:Value) (od:Option Addr) (dV kV doc pm:Value) (an:Option Addr) (cdv ct:Value) (osl:Array (Option Value)),
    fd=PySem.W.fnOf x qual (defArgs st) (defBody st) (defScope st) dV kV doc pm an cdv ct∧K.lookup f=some ⟨oc,od,.func fd,osl⟩∧PySem.W.codeIn K cdv qual=true
  kp:PySem.W.keepIn K (.ref f)=true
theorem funP_mk {K:PySem.W.Frag} {x qual:Str} {st:Stmt} {f:Addr} {oc:Value} {od an:Option Addr} {osl:Array (Option Value)} {dV kV doc pm cdv ct:Value} (l:K.lookup f=some ⟨oc,od,.func (PySem.W.fnOf x qual (defArgs st) (defBody st) (defScope st) dV kV doc pm an cdv ct),osl⟩)
    (c:PySem.W.codeIn K cdv qual=true) (k:PySem.W.keepIn K (.ref f)=true):FunP K x qual st f (PySem.W.fnOf x qual (defArgs st) (defBody st) (defScope st) dV kV doc pm an cdv ct):=⟨⟨oc,od,dV,kV,doc,pm,an,cdv,ct,osl,rfl,l,c⟩,k⟩
theorem funD_ofP {K:PySem.W.Frag} {x qual:Str} {st:Stmt} {f T:Addr} {oc:Value} {od an:Option Addr} {osl:Array (Option Value)} {kV doc pm cdv ct:Value} {ct2:Value} {dd:Option Addr} {n:Nat} {its:List Value} {sl:Array (Option Value)} {dvs:List V} (hd:dvs≠ []) (l:K.lookup f=some ⟨oc,od,.func (PySem.W.fnOf x qual (defArgs st) (defBody st) (defScope st) (.ref T) kV doc pm an cdv ct),osl⟩)
    (c:PySem.W.codeIn K cdv qual=true) (k:PySem.W.keepIn K (.ref f)=true) (lT:K.lookup T=some ⟨ct2,dd,.seq its.toArray n,sl⟩) (hv:Vals dvs its):
    FunD K x qual (defArgs st) (defBody st) (defScope st) dvs [] f (PySem.W.fnOf x qual (defArgs st) (defBody st) (defScope st) (.ref T) kV doc pm an cdv ct):=
  ⟨⟨oc,od,.ref T,kV,doc,pm,an,cdv,ct,osl,rfl,l,c,.inr ⟨hd,T,_,its,n,rfl,lT,rfl,hv⟩,.inl rfl⟩,k⟩
section
variable {P : Program} {w : World} {K : PySem.W.Frag} {mg : Str → Option Value} {base : Heap}
theorem FnG.okXP {x qual:Str} {st:Stmt} {f:Addr} {fd:FuncData} {N ps:List Str} {k:Nat} {sp:Sp}
    (F:FunP K x qual st f fd) (S:FnScope N ps (defScope st))
    (len: ∀vs H Q E,sp vs H Q E→vs.length=ps.length)
    (body: ∀(cdv:Value) (A:Around) (outer:List Env) (s:Shared) (H:Hp) (vs:List V) (Q:VK) (E:XK),
      GOkA K A base→Room k (A.deeper (envOfC qual (defScope st) s.heap.objs.size f cdv))→sp vs H Q E→
      ∃t,PSs (cxg P w K mg base N qual st f cdv A outer s H E) (defBody st) t∧
        t { nx:=fun _ H'=>Q .non H',rt:=Q } (start N vs) H):
    FnG P w K mg base (k+1) f fd ps sp:=by
  obtain⟨oc,od,dV,kV,doc,pm,an,cdv,ct,osl,rfl,lk,hcd⟩:=F.ex
  refine⟨len,fun A outer s H args us vs Q E hg hr e0 hb rv hsp=> ?_⟩
  have bk: ∀b o,base.get? b=some o→s.heap.get? b=some o:=fun b o e=>(e0.bs b o e).1
  have cells: ∀y∈ps.zip us,(defScope st).names.lookup y.1=some .local∨
      ((defScope st).names.lookup y.1=some .cell∧
        ((cellsFrom (s.heap.objs.size+1) (defScope st).names []).lookup y.1).isSome=true):=by
    rintro ⟨n,v⟩ hy
    rcases S.par n (List.of_mem_zip hy).1 with z | z
    · exact .inl z
    · exact .inr ⟨z,PySem.W.cellsFrom_some _ _ _ (.inl z)⟩
  refine codeAny_call_function hr.depth ((e0.mod.kin.keeps bk) _ _ lk) rfl S.co S.gen rfl
    (PySem.W.codeRec_of (e0.mod.kin.keeps bk) hcd) (hb _ _ _ _ ?_)
  refine wpAny_newFunctionEnv_cells S.kind cells fun env he s1 x=> ?_
  subst he
  refine⟨(e0.mod.nolimit.keeps bk).keeps x.toInCall.keep,codeAny_func ?_⟩
  obtain⟨t,ht,hq⟩:=body cdv A outer s H vs Q E hg (hr.deeper _) hsp
  refine wpAny_mono (ht.run [] s1 (start N vs) H _
    (inv_start S hr.hd e0 (len _ _ _ _ hsp) rv x) hq) (fun fl s' hs=> ?_) fun e s' hs=>hs
  cases fl with
  | ret u=>
    obtain⟨v,_,H',J,r,q⟩:=hs
    exact⟨v,H',J.os,J.bare,J.base,J.hok,r,q⟩
  | next=>
    obtain⟨_,H',J,q⟩:=hs
    exact⟨V.non,H',J.os,J.bare,J.base,J.hok,rfl,q⟩
  | brk=>obtain⟨_,_,_,q⟩:=hs;exact q.elim
  | cont=>obtain⟨_,_,_,q⟩:=hs;exact q.elim
end
end PC
namespace TL
open PySem PySem.Spec PyProof.Rows L2 PC
section
variable {P : Program} {w : World} {K : PySem.W.Frag} {mg : Str → Option Value} {base : Heap} {τ α β : Type}
theorem okLP {x qual:Str} {st:Stmt} {f:Addr} {fd:FuncData} {N ps:List Str} {k:Nat} {δ:τ→List (Dm K)} {r:α→Dm K} {wf:τ→W K α}
    (F:FunP K x qual st f fd) (S:FnScope N ps (defScope st)) (hl: ∀x,(δ x).length=ps.length) (d:Option α) (hd: ∀y,d=some y→r y=dPy .none)
    (body: ∀(cdv:Value) (A:Around) (outer:List Env) (s:Shared) (H:Hp) (E:XK),GOkA K A base→Room k (A.deeper (envOfC qual (defScope st) s.heap.objs.size f cdv))→
      ∃t,PSs (cxg P w K mg base N qual st f cdv A outer s H E) (defBody st) t∧ ∃m:τ→W K (Flow Unit α),
        (∀x,SimS (fun c d _ H=>E c d H) none (envOf (δ x) N.length) [t] (fun _:Unit=>List.replicate N.length none) r (m x))∧ ∀x Q E S,wf x Q E S→outW (m x) d Q E S):
    FnG P w K mg base (k+1) f fd ps (lift K δ r wf):=by
  refine FnG.okXP F S (fun vs H Q E h=> ?_) (fun cdv A outer s H vs Q E hg hr h=> ?_)
  · obtain⟨S0,F0,x,Qp,Ep,wd,ha,_⟩:=h
    rw[ha.length,hl]
  · obtain⟨t,ht,m,hs,hw⟩:=body cdv A outer s H E hg hr
    refine⟨t,ht,?_⟩
    obtain⟨S0,F0,x,Qp,Ep,wd,ha,hf,hQ,hE⟩:=h
    have q:=hw x Qp Ep S0 hf
    refine hs x S0 F0 H S0 H _ { nx:=fun _ H'=>Q .non H',rt:=Q } _ Ep ⟨.refl wd,sat_start ha⟩ q (fun _ S' H' σ' z c'=> ?_) (fun _ _ _ _ z _=>z.elim) (fun y S' H' v z r' hv=>hQ y S' H' v z r' hv)
      (fun e S' H' c dd σ' he r' _ hk=>hE e S' H' c dd he r' hk)
    cases d with
    | none=>exact z.elim
    | some y=>exact hQ y S' H' .non z c'.nx (by rw[hd y rfl];exact mk_non)
end
section
variable {K : PySem.W.Frag} {ε : WX} {G : Gm K} {α β : Type}
theorem simI_enumS {ta:TA} {m:W K (Str×Unit)} (h:SimA ε G ta (fun x:Str×Unit=> [kS x.1]) m):
    SimI ε G (iEnumS ta) (kP kI kS) (bnd m fun x=>ret (enumI (signs x.1),nI)):=by
  intro S F σ H RI Qp Ep w st hm hQ hE
  refine h S F σ H _ _ Ep w st hm (fun x S' H' vs hx hr hv=> ?_) hE
  obtain⟨v,rfl,hv1⟩:=at1 hv
  refine⟨x.1,by rw[at_str hv1],hQ _ _ _ S' H' hx hr ?_⟩
  have hl:x.1.cps.size=(enumI (signs x.1)).length:=by rw[enumI_len];simp[signs]
  refine iter_pair _ (hl ▸ walk_enumS (z:=x.1)) fun F' S2 H2 hf st w2=>⟨trivial,fun i v z e ez=> ?_,fun i v z e ez=> ?_⟩
  · cases e
    rw[(enumI_get ez).1];exact mk_int
  · obtain⟨c,ec,rfl⟩:=Option.map_eq_some_iff.mp e
    have e2:=(enumI_get ez).2
    unfold signs at e2
    rw[List.getElem?_map,Array.getElem?_toList,ec] at e2
    rw[← Option.some.inj e2];exact mk_str
theorem simN_split {to te:TE} {m:W K Str} {n:W K Str} (h:Sim ε G to kS m) (g:Sim ε G te kS n):
    SimN ε G (tM1 (fun x xs H Q=> ∃a b,x= .str a∧xs= [.str b]∧(b.length == 0)=false∧a.length+2≤sizeLine∧rNewStrs (Txt.split a b) H Q) to te) kS
      (bnd m fun a=>bnd n fun b=>wAss (b.length≠0∧a.length≤50000) (ret (Txt.split a b))):=by
  intro S F σ H Q Qp Ep w s hm hQ hE
  refine h S F σ H _ _ Ep w s hm (fun x S1 H1 v hx h1 hv=>⟨⟨x,at_str hv⟩,?_⟩) hE
  refine g S1 F σ H1 _ _ Ep h1.wd (s.up h1.stp) hx (fun y S2 H2 u hy h2 hu=> ?_) (hE.to h1)
  refine⟨x,y,at_str hv,by rw[at_str hu],by simpa using hy.1.1,Nat.le_trans (Nat.add_le_add_right hy.1.2 2) (by decide),?_⟩
  exact new_out h2.wd (strs_at _) fun H3 a vs n1 n2 n3 n4 n5 n6=>hQ _ S2 H3 a vs hy.2 (h1.trans (h2.trans n1)) ((h1.trans h2).old n2) n3 n4 n5 n6
theorem sim_partition {to te:TE} {m:W K Str} {n:W K Str} (h:Sim ε G to kS m) (g:Sim ε G te kS n):
    Sim ε G (tM1 (fun x xs H Q=> ∃a b,x= .str a∧xs= [.str b]∧(b.length == 0)=false∧a.length≤sizeLine∧ ∀p,H p=none→Q (.ref p) (upd H p (.tup [.str (Txt.partition a b).1,.str (Txt.partition a b).2.1,.str (Txt.partition a b).2.2]))) to te) (kP3 kS kS kS)
      (bnd m fun a=>bnd n fun b=>wAss (b.length≠0∧a.length≤50000) (ret (Txt.partition a b))):=by
  intro S F σ H Q Qp Ep w s hm hQ hE
  refine h S F σ H _ _ Ep w s hm (fun x S1 H1 v hx h1 hv=>⟨⟨x,at_str hv⟩,?_⟩) hE
  refine g S1 F σ H1 _ _ Ep h1.wd (s.up h1.stp) hx (fun y S2 H2 u hy h2 hu=> ?_) (hE.to h1)
  refine⟨x,y,at_str hv,by rw[at_str hu],by simpa using hy.1.1,Nat.le_trans hy.1.2 (by decide),?_⟩
  exact new_tup (ds:= [kS (Txt.partition x y).1,kS (Txt.partition x y).2.1,kS (Txt.partition x y).2.2]) h2.wd ⟨_,_,rfl,mk_str,_,_,rfl,mk_str,_,_,rfl,mk_str,rfl⟩ fun H3 v n1 hv=>hQ _ S2 H3 v hy.2 (h1.trans (h2.trans n1)) hv
def wInt (x:Str):W K Int:=fun Q _ S=> ∃n,PySem.intText? x=some n∧x.length≤640∧Q n S
theorem cb_intS:CalB K (fun xs H Q=> ∃a n,xs= [.str a]∧PySem.intText? a=some n∧a.length≤640∧Q (.int n) H) (fun x:Str×Unit=> [kS x.1]) kI (fun x=>wInt x.1):=by
  intro S F H x vs Q Qp Ep wd h ⟨n,e,l,hf⟩ hQ
  obtain⟨v,rfl,hv⟩:=at1 h
  exact⟨x.1,n,by rw[at_str hv],e,l,hQ n S H _ hf (.refl wd) mk_int⟩
def wSomes (xs:List (Option α)):W K (List α):=fun Q _ S=> ∃ys:List α,xs=ys.map some∧Q ys S
theorem sim_somesT {te:TE} {r:α→Dm K} {m:W K (List (Option α))} (h:Sim ε G te (kT (kO r)) m):Sim ε G te (kT r) (bnd m wSomes):=by
  intro S F σ H Q Qp Ep w s hm hQ hE
  refine h S F σ H _ _ Ep w s hm (fun x S1 H1 v hx h1 hv=> ?_) hE
  obtain⟨ys,rfl,hq⟩:=hx
  refine hQ ys S1 H1 v hq h1 ?_
  obtain⟨a,vs,e,n,s2,l⟩:=hv
  exact⟨a,vs,e,n,s2,by rwa [List.map_map] at l⟩
end
end TL

set_option Elab.async false
set_option linter.all false
set_option maxRecDepth 100000
set_option maxHeartbeats 2000000
namespace PC
open PySem PySem.Spec PyProof.Rows PySem.SeqAt L2
section
variable {K : PySem.W.Frag} {C D : Addr} {H : Hp}
structure Apart (K:PySem.W.Frag) (D C:Addr):Prop where
  sub:PySem.W.subIn K (.ref D) (.ref C)=some false
  me:PySem.W.subIn K (.ref C) (.ref C)=some true
  cls:Cls K D
  ty:InstT K D
  cq:ClsQ K
theorem Apart.first (p:Apart K D C):PySem.W.notFirst K C (.ref D)=true:=by
  unfold PySem.W.notFirst
  rw[p.sub];simp
theorem Apart.is (p:Apart K D C) (t:AlT K C):PySem.W.kitOne K (.ref D) (.ref C)=some false:=by
  have e: ¬ (Value.ref D == Value.ref C)=true:=fun z=>by
    have e2:Value.ref D=Value.ref C:=by simpa using z
    have a:=p.sub
    rw[e2,p.me] at a
    cases a
  have ic:(PySem.W.clsIn K C).isSome=true:=t.ic
  unfold PySem.W.kitOne PySem.W.kitCls
  rw[if_neg e]
  dsimp only
  rw[ic,t.tc,if_pos (by simp)]
  exact p.sub
inductive TyW (K:PySem.W.Frag) (C:Addr) (H:Hp):V→Value→Prop where
  | al {x:V} {T:String} (h:TyA K H x T):TyW K C H x (.type T)
  | own {a D dx:Addr} {fs:List (Str×V)} (e:H a=some (.ins D dx fs)) (p:Apart K D C):TyW K C H (.ref a) (.ref D)
theorem TyW.first {x:V} {t:Value} (h:TyW K C H x t):PySem.W.notFirst K C t=true:=by
  cases h with
  | al h=>exact AlT.first h.mem
  | own e p=>exact p.first
theorem TyW.is {x:V} {t:Value} (h:TyW K C H x t) (al:AlT K C):PySem.W.kitOne K t (.ref C)=some false:=by
  cases h with
  | al h=>exact al.is h.mem
  | own e p=>exact p.is al
end
section
variable {X : Cx} {k k2 : Nat} {f C g D : Addr} {fd gd : FuncData} {ps qs : List Str} {sp sq : Sp}
end
end PC
namespace TL
open PySem PySem.Spec PyProof.Rows L2 PC
section
variable {K : PySem.W.Frag} {α β : Type} {C D : Addr}
end
section
variable {K : PySem.W.Frag}
end
section
variable {K : PySem.W.Frag} {ε : WX} {G : Gm K} {α : Type}
end
end TL

set_option Elab.async false
set_option linter.all false
set_option maxRecDepth 100000
set_option maxHeartbeats 2000000
namespace PC
open PySem PySem.Spec PyProof.Rows L2 PySem.W
structure FnE (P:Program) (w:World) (K:PySem.W.Frag) (mg:Str→Option Value) (base:Heap) (a:Addr) (c:Value) (d:Option Addr)
    (k:Nat) (f:Addr) (fd:FuncData) (ps:List Str) (sp:Sp):Prop where
  len: ∀vs H Q E,sp vs H Q E→vs.length=ps.length
  run: ∀(A:Around) (outer:List Env) (s:Shared) (H:Hp) (args:Args) (us:List Value) (vs:List V) (Q:VK) (E:XK) (oe:Obj),
    L2H.RoomH k A→Zc c d oe→(∃vs,oe.data= .fields vs)→L2H.PinOk outer H s (a,oe)→Env0 P w K mg base A outer s H→
    BindsTo s fd args (ps.zip us)→Vals vs us→sp vs H Q E→
    codeAny (model P w) A (.call (.ref f) args) (CR (L2.CX P w) outer P w H s Q E) s
abbrev cxe (P:Program) (w:World) (K:PySem.W.Frag) (mg:Str→Option Value) (base:Heap) (N:List Str) (qual:Str)
    (st:Stmt) (f:Addr) (cdv:Value) (A:Around) (outer:List Env) (s:Shared) (H:Hp) (E:XK) (p:Addr×Obj):Cx:=
  L2H.cxH (L2.CX P w) P w K mg base N qual (defScope st) f cdv A outer s H E p
section
variable {P : Program} {w : World} {K : PySem.W.Frag} {mg : Str → Option Value} {base : Heap} {a : Addr} {c : Value} {d : Option Addr}
theorem FnE.okX {x qual:Str} {st:Stmt} {f:Addr} {fd:FuncData} {N ps:List Str} {k:Nat} {sp:Sp}
    (F:Fun K x qual st f fd) (S:FnScope N ps (defScope st))
    (len: ∀vs H Q E,sp vs H Q E→vs.length=ps.length)
    (body: ∀(cdv:Value) (A:Around) (outer:List Env) (s:Shared) (H:Hp) (vs:List V) (Q:VK) (E:XK) (oe:Obj),
      L2H.RoomH k (A.deeper (envOfC qual (defScope st) s.heap.objs.size f cdv))→Zc c d oe→(∃vs,oe.data= .fields vs)→sp vs H Q E→
      ∃t,PSs (cxe P w K mg base N qual st f cdv A outer s H E (a,oe)) (defBody st) t∧
        t { nx:=fun _ H'=>Q .non H',rt:=Q } (start N vs) H):
    FnE P w K mg base a c d (k+1) f fd ps sp:=by
  obtain⟨oc,od,kV,doc,pm,an,cdv,ct,osl,rfl,lk,hcd⟩:=F.ex
  refine⟨len,fun A outer s H args us vs Q E oe hr hz hf hpin e0 hb rv hsp=> ?_⟩
  have bk: ∀b o,base.get? b=some o→s.heap.get? b=some o:=fun b o e=>(e0.bs b o e).1
  have cells: ∀y∈ps.zip us,(defScope st).names.lookup y.1=some .local∨
      ((defScope st).names.lookup y.1=some .cell∧
        ((cellsFrom (s.heap.objs.size+1) (defScope st).names []).lookup y.1).isSome=true):=by
    rintro ⟨n,v⟩ hy
    rcases S.par n (List.of_mem_zip hy).1 with z | z
    · exact .inl z
    · exact .inr ⟨z,PySem.W.cellsFrom_some _ _ _ (.inl z)⟩
  refine codeAny_call_function hr.depth ((e0.mod.kin.keeps bk) _ _ lk) rfl S.co S.gen rfl
    (PySem.W.codeRec_of (e0.mod.kin.keeps bk) hcd) (hb _ _ _ _ ?_)
  refine wpAny_newFunctionEnv_cells S.kind cells fun env he s1 x=> ?_
  subst he
  refine⟨(e0.mod.nolimit.keeps bk).keeps x.toInCall.keep,codeAny_func ?_⟩
  obtain⟨t,ht,hq⟩:=body cdv A outer s H vs Q E oe (hr.deeper _) hz hf hsp
  refine wpAny_mono (ht.run [] s1 (start N vs) H _
    (L2H.inv_startH S hpin e0 (len _ _ _ _ hsp) rv x) hq) (fun fl s' hs=> ?_) fun e s' hs=>hs
  cases fl with
  | ret u=>
    obtain⟨v,_,H',J,r,q⟩:=hs
    exact⟨v,H',J.os,J.bare,J.base,J.hok,r,q⟩
  | next=>
    obtain⟨_,H',J,q⟩:=hs
    exact⟨V.non,H',J.os,J.bare,J.base,J.hok,rfl,q⟩
  | brk=>obtain⟨_,_,_,q⟩:=hs;exact q.elim
  | cont=>obtain⟨_,_,_,q⟩:=hs;exact q.elim
end
section
variable {X : Cx} {k : Nat} {f a : Addr} {c : Value} {d : Option Addr} {oe : Obj} {fd : FuncData} {ps : List Str} {sp : Sp} {dvs : List V} {ds : List Value} {W : WX}
end
section
variable {X : Cx} {a : Addr} {oe : Obj} {cls : Value} {d : Option Addr}
end
end PC
namespace TL
open PySem PySem.Spec PyProof.Rows L2 PC
section
variable {P : Program} {w : World} {K : PySem.W.Frag} {mg : Str → Option Value} {base : Heap} {α τ : Type} {a : Addr} {c : Value} {d : Option Addr}
end
section
variable {K : PySem.W.Frag} {ε : WX} {G : Gm K} {α : Type}
end
end TL
namespace TL
open PySem PySem.Spec PyProof.Rows L2 PC
end TL
namespace TL
open PySem PySem.Spec PyProof.Rows L2 PC
section
variable {K : PySem.W.Frag} {ε : WX} {G : Gm K} {S : Store K} {F : Pl}
end
end TL

set_option Elab.async false
set_option linter.all false
set_option maxRecDepth 100000
set_option maxHeartbeats 2000000
namespace TL
open PySem PySem.Spec PyProof.Rows L2 PC
section
variable {K : PySem.W.Frag} {ε : WX} {G : Gm K} {α β γ τ : Type} {S : Store K}
end
end TL
namespace TL
open PySem PySem.Spec PyProof.Rows L2 PC
end TL

set_option Elab.async false
set_option linter.all false
set_option maxRecDepth 100000
set_option maxHeartbeats 2000000
namespace PC
open PySem PySem.Spec PyProof.Rows L2 PySem.W

structure FnN (P:Program) (w:World) (K:PySem.W.Frag) (mg:Str→Option Value) (base:Heap)
    (k:Nat) (f:Addr) (fd:FuncData) (ps:List Str) (sp:Sp):Prop where
  len: ∀vs H Q E,sp vs H Q E→vs.length=ps.length
  run: ∀(A:Around) (outer:List Env) (s:Shared) (H:Hp) (args:Args)
      (us:List Value) (vs:List V) (Q:VK) (E:XK),
    GOkA K A base→Room k A→Env0 P w K mg base A outer s H→
    BindsTo s fd args (ps.zip us)→Vals vs us→sp vs H Q E→
    codeAny (model P w) A (.call (.ref f) args) (CR (L2N.CX P w) outer P w H s Q E) s

section
variable {P : Program} {w : World} {K : PySem.W.Frag} {mg : Str → Option Value} {base : Heap}

theorem FnN.mono {j k:Nat} {f:Addr} {fd:FuncData} {ps:List Str} {sp:Sp}
    (F:FnN P w K mg base j f fd ps sp) (h:j≤k):FnN P w K mg base k f fd ps sp:=
  ⟨F.len,fun A o s H a us vs Q E g r=>F.run A o s H a us vs Q E g (r.mono h)⟩
theorem FnN.imp {k:Nat} {f:Addr} {fd:FuncData} {ps:List Str} {sp sp':Sp}
    (F:FnN P w K mg base k f fd ps sp) (h: ∀vs H Q E,sp' vs H Q E→sp vs H Q E):FnN P w K mg base k f fd ps sp':=
  ⟨fun vs H Q E q=>F.len vs H Q E (h _ _ _ _ q),
    fun A o s H a us vs Q E g r e0 b rv q=>F.run A o s H a us vs Q E g r e0 b rv (h _ _ _ _ q)⟩

abbrev cxn (P:Program) (w:World) (K:PySem.W.Frag) (mg:Str→Option Value) (base:Heap) (N:List Str) (qual:Str)
    (st:Stmt) (f:Addr) (cdv:Value) (A:Around) (outer:List Env) (s:Shared) (H:Hp) (E:XK):Cx:=
  cxOf (L2N.CX P w) P w K mg base N qual (defScope st) f cdv A outer s H E

theorem FnN.okX {x qual:Str} {st:Stmt} {f:Addr} {fd:FuncData} {N ps:List Str} {k:Nat} {sp:Sp}
    (F:Fun K x qual st f fd) (S:FnScope N ps (defScope st))
    (len: ∀vs H Q E,sp vs H Q E→vs.length=ps.length)
    (body: ∀(cdv:Value) (A:Around) (outer:List Env) (s:Shared) (H:Hp) (vs:List V) (Q:VK) (E:XK),
      GOkA K A base→Room k (A.deeper (envOfC qual (defScope st) s.heap.objs.size f cdv))→sp vs H Q E→
      ∃t,PSs (cxn P w K mg base N qual st f cdv A outer s H E) (defBody st) t∧
        t { nx:=fun _ H'=>Q .non H',rt:=Q } (start N vs) H):
    FnN P w K mg base (k+1) f fd ps sp:=by
  obtain⟨oc,od,kV,doc,pm,an,cdv,ct,osl,rfl,lk,hcd⟩:=F.ex
  refine⟨len,fun A outer s H args us vs Q E hg hr e0 hb rv hsp=> ?_⟩
  have bk: ∀b o,base.get? b=some o→s.heap.get? b=some o:=fun b o e=>(e0.bs b o e).1
  have cells: ∀y∈ps.zip us,(defScope st).names.lookup y.1=some .local∨
      ((defScope st).names.lookup y.1=some .cell∧
        ((cellsFrom (s.heap.objs.size+1) (defScope st).names []).lookup y.1).isSome=true):=by
    rintro ⟨n,v⟩ hy
    rcases S.par n (List.of_mem_zip hy).1 with z | z
    · exact .inl z
    · exact .inr ⟨z,PySem.W.cellsFrom_some _ _ _ (.inl z)⟩
  refine codeAny_call_function hr.depth ((e0.mod.kin.keeps bk) _ _ lk) rfl S.co S.gen rfl
    (PySem.W.codeRec_of (e0.mod.kin.keeps bk) hcd) (hb _ _ _ _ ?_)
  refine wpAny_newFunctionEnv_cells S.kind cells fun env he s1 x=> ?_
  subst he
  refine⟨(e0.mod.nolimit.keeps bk).keeps x.toInCall.keep,codeAny_func ?_⟩
  obtain⟨t,ht,hq⟩:=body cdv A outer s H vs Q E hg (hr.deeper _) hsp
  refine wpAny_mono (ht.run [] s1 (start N vs) H _
    (inv_start S hr.hd e0 (len _ _ _ _ hsp) rv x) hq) (fun fl s' hs=> ?_) fun e s' hs=>hs
  cases fl with
  | ret u=>
    obtain⟨v,_,H',J,r,q⟩:=hs
    exact⟨v,H',J.os,J.bare,J.base,J.hok,r,q⟩
  | next=>
    obtain⟨_,H',J,q⟩:=hs
    exact⟨V.non,H',J.os,J.bare,J.base,J.hok,rfl,q⟩
  | brk=>obtain⟨_,_,_,q⟩:=hs;exact q.elim
  | cont=>obtain⟨_,_,_,q⟩:=hs;exact q.elim

end

section
variable {P : Program} {w : World} {K : PySem.W.Frag} {mg : Str → Option Value} {base : Heap}
theorem FnN.wk {k:Nat} {f:Addr} {fd:FuncData} {ps:List Str} {sp:Sp} (F:FnN P w K mg base k f fd ps sp):FnG P w K mg base k f fd ps sp:=
  ⟨F.len,fun A outer s H args us vs Q E hg hr e0 hb rv hsp=>codeAny_mono (F.run A outer s H args us vs Q E hg hr e0 hb rv hsp) fun r s' hq=>by
    match r,hq with
    | .error e,hq=>
      obtain⟨a,B,H',cls,d,rfl,fl,rest⟩:=hq
      exact⟨a,B,H',cls,d,rfl,L2H.flyingZ_imp (fun o z=>z.zc) fl,rest⟩
    | .ok (.ret u),hq=>exact hq
    | .ok .next,hq=>exact hq.elim
    | .ok .brk,hq=>exact hq.elim
    | .ok .cont,hq=>exact hq.elim⟩
end

section
variable {X : Cx} {k : Nat} {f : Addr} {fd : FuncData} {ps ks : List Str} {sp : Sp} {dvs : List V} {ds : List Value} {W : WX}
theorem FnN.atS (F:FnN X.prog X.w X.K X.mg X.base k f fd ps sp) (hg:GOk X) (hr:Room k X.A)
    (hb:Binds X.K fd ps ds) (hd:Vals dvs ds) (tk:L2N.Takes X W):
    CallS X (.ref f) (fun σ vs H Q=>sp (vs++dvs) H Q (fun cls d H=>W cls d σ H)):=by
  intro pins s σ H vs us Q I rv h
  have r2:Vals (vs++dvs) (us++ds):=rv.append hd
  have hl:(us++ds).length=ps.length:=by rw[← r2.length];exact F.len _ _ _ _ h
  refine wpAny_call (codeAny_mono (F.run X.A X.stack s H ⟨us,[]⟩ (us++ds) (vs++dvs) Q _ hg hr I.env0
    (hb s us I.kIn hl) r2 h) fun r s' hq=> ?_)
  match r,hq with
  | .error e,hq=>exact tk e s' (L2N.XE.of_call I (fun _ _ _ h=>h) hq)
  | .ok (.ret u),hq=>exact I.after hq
  | .ok .next,hq=>exact hq.elim
  | .ok .brk,hq=>exact hq.elim
  | .ok .cont,hq=>exact hq.elim
theorem FnN.atKS {g:List Value→List Value→List Value} {gV:List V→List V→List V}
    (F:FnN X.prog X.w X.K X.mg X.base k f fd ps sp) (hg:GOk X) (hr:Room k X.A)
    (hb:KBinds X.K fd ps ks g gV) (tk:L2N.Takes X W):
    CallKS X (.ref f) ks (fun σ vs zs H Q=>sp (gV vs zs) H Q (fun cls d H=>W cls d σ H)):=by
  intro pins s σ H vs zs us ws Q I rv rz h
  have r2:=hb.rel rv rz
  have hl:(g us ws).length=ps.length:=by rw[← r2.length];exact F.len _ _ _ _ h
  refine wpAny_call (codeAny_mono (F.run X.A X.stack s H ⟨us,ks.zip ws⟩ (g us ws) (gV vs zs) Q _ hg hr I.env0
    (hb.to s us ws I.kIn hl) r2 h) fun r s' hq=> ?_)
  match r,hq with
  | .error e,hq=>exact tk e s' (L2N.XE.of_call I (fun _ _ _ h=>h) hq)
  | .ok (.ret u),hq=>exact I.after hq
  | .ok .next,hq=>exact hq.elim
  | .ok .brk,hq=>exact hq.elim
  | .ok .cont,hq=>exact hq.elim
end

section
variable {X : Cx} {k : Nat} {f C : Addr} {fd : FuncData} {ps ks : List Str} {sp : Sp} {dvs : List V} {ds : List Value} {W : WX}
theorem out_ofN {pins:List (Addr×Obj)} {σ:L2.St} {H:Hp} {s:Shared} {Q:VK} (I:Inv X pins σ H s) (tk:L2N.Takes X W) {r:Result} {s':Shared}
    (hq:CR (L2N.CX X.prog X.w) X.stack X.prog X.w H s Q (fun cls d H=>W cls d σ H) r s'):
    OutP X pins σ Q r s':=by
  match r,hq with
  | .error e,hq=>exact tk e s' (L2N.XE.of_call I (fun _ _ _ h=>h) hq)
  | .ok (.ret u),hq=>exact I.after hq
  | .ok .next,hq=>exact hq.elim
  | .ok .brk,hq=>exact hq.elim
  | .ok .cont,hq=>exact hq.elim
theorem FnN.make (F:FnN X.prog X.w X.K X.mg X.base k f fd ps sp) (M:Mk X.K C f) (hg:GOk X) (hr:Room (k+1) X.A)
    (hb:Binds X.K fd ps ds) (hd:Vals dvs ds) (tk:L2N.Takes X W):CallS X (.ref C) (mkSp C sp dvs W):=by
  intro pins s σ H vs us Q I r h
  have hq:=h (s.heap.objs.size+1) s.heap.objs.size (I.hok.fresh (Nat.le_succ _)) (I.hok.fresh (Nat.le_refl _)) (Nat.ne_of_lt (Nat.lt_succ_self _))
  have I2:=Inv.made (C:=C) I
  have r2:Vals (V.ref (s.heap.objs.size+1)::(vs++dvs)) (Value.ref (s.heap.objs.size+1)::(us++ds)):= .cons rfl (r.append hd)
  have hl:(Value.ref (s.heap.objs.size+1)::us++ds).length=ps.length:=by
    have e:=r2.length
    rw[F.len _ _ _ _ hq] at e
    exact e.symm
  refine wpAny_call (make_map (f:=f) I.kIn M.makes M.init (beq_iff_eq.mp M.fn) (codeAny_mono
    (F.run _ X.stack _ _ ⟨Value.ref (s.heap.objs.size+1)::us,[]⟩ _ _ _ _ (under_guards hg) (hr.make C us []) (I2.env0.make C us [])
      (hb _ (Value.ref (s.heap.objs.size+1)::us) I2.kIn hl) r2 hq) fun r s' hq'=> ?_))
  have o:=out_ofN I2 tk hq'
  clear hq'
  match r,o with
  | .error e,o=>exact o
  | .ok (.ret u),o=>
    obtain⟨v,H',I3,rv,ev,q3⟩:=o
    subst ev
    exact⟨rv,⟨V.ref (s.heap.objs.size+1),H',I3,rfl,q3⟩⟩
  | .ok .next,o=>exact o.elim
  | .ok .brk,o=>exact o.elim
  | .ok .cont,o=>exact o.elim
theorem FnN.makeK {g:List Value→List Value→List Value} {gV:List V→List V→List V}
    (F:FnN X.prog X.w X.K X.mg X.base k f fd ps sp) (M:Mk X.K C f) (hg:GOk X) (hr:Room (k+1) X.A)
    (hb:KBinds X.K fd ps ks g gV) (tk:L2N.Takes X W):CallKS X (.ref C) ks (mkSpK C sp gV W):=by
  intro pins s σ H vs zs us ws Q I r rz h
  have hq:=h (s.heap.objs.size+1) s.heap.objs.size (I.hok.fresh (Nat.le_succ _)) (I.hok.fresh (Nat.le_refl _)) (Nat.ne_of_lt (Nat.lt_succ_self _))
  have I2:=Inv.made (C:=C) I
  have r2:=hb.rel (vs:= .ref (s.heap.objs.size+1)::vs) (us:= .ref (s.heap.objs.size+1)::us) (.cons rfl r) rz
  have hl:(g (Value.ref (s.heap.objs.size+1)::us) ws).length=ps.length:=by
    rw[← r2.length]
    exact F.len _ _ _ _ hq
  refine wpAny_call (make_map (f:=f) I.kIn M.makes M.init (beq_iff_eq.mp M.fn) (codeAny_mono
    (F.run _ X.stack _ _ ⟨Value.ref (s.heap.objs.size+1)::us,ks.zip ws⟩ _ _ _ _ (under_guards hg) (hr.make C us (ks.zip ws))
      (I2.env0.make C us (ks.zip ws)) (hb.to _ (Value.ref (s.heap.objs.size+1)::us) ws I2.kIn hl) r2 hq) fun r s' hq'=> ?_))
  have o:=out_ofN I2 tk hq'
  clear hq'
  match r,o with
  | .error e,o=>exact o
  | .ok (.ret u),o=>
    obtain⟨v,H',I3,rv,ev,q3⟩:=o
    subst ev
    exact⟨rv,⟨V.ref (s.heap.objs.size+1),H',I3,rfl,q3⟩⟩
  | .ok .next,o=>exact o.elim
  | .ok .brk,o=>exact o.elim
  | .ok .cont,o=>exact o.elim
end

section
variable {X : Cx} {nm base : Str} {B newId initId : String} {tl : List Value} {f : Str} {fs : List Str} {C D fI : Addr} {st : Stmt}
theorem pmk_errN {e:Expr} {es:List Expr} {ta:TA} {p pos:Pos} {k:Nat} (T:ErrT X.K X.mg nm base B newId initId tl f fs C D fI st)
    (rel:ErRel f fs) (hr:L2H.RoomH (k+1) X.A) (ha:PA X (e::es) ta) (hg:Gl X nm) (hdb:(nm == ("__debug__" :Str))=false:=by decide)
    (he:starEach (e::es) X.env=(false,eval e X.env)::starEach es X.env:=by rfl)
    (hpl:(backTo pos (starEach es X.env)).any (·.1)=false:=by rfl):
    L2H.PMk5 X (.Call (.Name nm p) (e::es) [] pos) (tErr C f fs ta):=by
  intro pins s σ H Q I h
  refine wpAny_Call_Name_kw (ld_glob I hg T.gC ?_ hdb)
  refine callWith_K (h₀:=X.base) I.ok.mod.kin T.kC (thn (ha.run pos pins s σ H _ I h) fun us s1 hh=> ?_) he hpl
  obtain⟨vs,H1,I1,r1,v,ws,ev,hl,q1⟩:=hh
  subst ev
  refine⟨I1.kIn,?_⟩
  cases r1 with
  | @cons _ u0 _ ur rv rw=>
    have hlu:ur.length=fs.length:=(Paired.length rw).symm.trans hl
    have hlim:=I1.nolimit
    have hgl:s1.heap.Ns mainGlobals X.mg:=I1.mod.glob.keeps I1.bk
    obtain⟨u,g,dr,tk,os⟩:=s1
    refine wpAny_call (er_made T I1.kIn hgl hlim (by have:=hr.dp;omega) hlu fun h' tk' a d M=> ?_)
    show L2N.MkP X pins σ Q (.ref a) ⟨h',g,dr,tk',os⟩∧L2H.Six (.ref a) ⟨h',g,dr,tk',os⟩
    obtain⟨t1,hoe⟩:=M.obj
    obtain⟨G,g1,g2⟩:=restrict h' fun b=>decide (b≠a)
    have ga: ∀b,b≠a→G.get? b=h'.get? b:=fun b hb=>g1 b (decide_eq_true hb)
    have gn:G.get? a=none:=g2 a (by simp)
    have old: ∀b o,u.get? b=some o→G.get? b=some o:=fun b o z=>
      (ga b (Nat.ne_of_lt (Nat.lt_of_lt_of_le (Heap.lt_size z) M.new))).trans (M.keep b o z)
    have ob:ObjOk X.prog X.w (upd H1 d (.xd ((fs.zip ws).reverse++ [(f,v)]))) G d (.xd ((fs.zip ws).reverse++ [(f,v)])):=
      ⟨_,M.ns.at (fun o z=>(ga d M.dne).trans z),rel v u0 ws ur rv rw hl⟩
    have J:Inv X pins σ (upd H1 d (.xd ((fs.zip ws).reverse++ [(f,v)]))) ⟨G,g,dr,tk',os⟩:=I1.laid (t':=tk') old M.dbig ob
    refine⟨⟨a,_,_,⟨G,g,dr,tk',os⟩,_,.ref C,some d,rfl,J,fun b o z=> ?_,gn,hoe,⟨rfl,rfl,fun vs e=>by cases e;rfl⟩,rfl,rfl,?_,rfl,I1.bare,
      raises_own T.eC T.tC,q1 d (I1.hok.fresh M.dbig)⟩,fun a2 oe2 vs2 ea hg2 hd2=> ?_⟩
    · by_cases hb:b=a
      · subst hb
        have z':G.get? b=some o:=z
        rw[gn] at z'
        cases z'
      · exact (ga b hb).symm.trans z
    · rw[upd_ne (Ne.symm M.dne)]
      exact I1.hok.fresh M.new
    · cases ea
      have z:h'.get? a=some oe2:=hg2
      rw[hoe] at z
      cases z
      cases hd2
      show (4:Nat)<6
      decide
theorem ps_errN {e:Expr} {es:List Expr} {ta:TA} {W:WX} {p pos pos2:Pos} {k:Nat} (hc:X.calm=true)
    (T:ErrT X.K X.mg nm base B newId initId tl f fs C D fI st) (rel:ErRel f fs) (hr:Room (k+1) X.A) (tk:L2N.Takes X W)
    (ha:PA X (e::es) ta) (hg:Gl X nm) (hdb:(nm == ("__debug__" :Str))=false:=by decide)
    (he:starEach (e::es) X.env=(false,eval e X.env)::starEach es X.env:=by rfl)
    (hpl:(backTo pos (starEach es X.env)).any (·.1)=false:=by rfl):
    PS X (.Raise (some (.Call (.Name nm p) (e::es) [] pos)) none pos2) (fun _ σ H=>tErr C f fs ta σ H fun cls d H'=>W cls d σ H'):=
  L2N.ps_raise hc tk (pmk_errN T rel (L2H.roomH_of hr) ha hg hdb he hpl).pmk
end
end PC

namespace TL
open PySem PySem.Spec PyProof.Rows L2 PC
section
variable {P : Program} {w : World} {K : PySem.W.Frag} {mg : Str → Option Value} {base : Heap} {α τ : Type}
theorem okLN {x qual:Str} {st:Stmt} {f:Addr} {fd:FuncData} {N ps:List Str} {k:Nat} {δ:τ→List (Dm K)} {r:α→Dm K} {wf:τ→W K α}
    (F:Fun K x qual st f fd) (S:FnScope N ps (defScope st)) (hl: ∀x,(δ x).length=ps.length) (d:Option α) (hd: ∀y,d=some y→r y=dPy .none)
    (body: ∀(cdv:Value) (A:Around) (outer:List Env) (s:Shared) (H:Hp) (E:XK),GOkA K A base→Room k (A.deeper (envOfC qual (defScope st) s.heap.objs.size f cdv))→
      ∃t,PSs (cxn P w K mg base N qual st f cdv A outer s H E) (defBody st) t∧ ∃m:τ→W K (Flow Unit α),
        (∀x,SimS (fun c d _ H=>E c d H) none (envOf (δ x) N.length) [t] (fun _:Unit=>List.replicate N.length none) r (m x))∧ ∀x Q E S,wf x Q E S→outW (m x) d Q E S):
    FnN P w K mg base (k+1) f fd ps (lift K δ r wf):=by
  refine FnN.okX F S (fun vs H Q E h=> ?_) (fun cdv A outer s H vs Q E hg hr h=> ?_)
  · obtain⟨S0,F0,x,Qp,Ep,wd,ha,_⟩:=h
    rw[ha.length,hl]
  · obtain⟨t,ht,m,hs,hw⟩:=body cdv A outer s H E hg hr
    refine⟨t,ht,?_⟩
    obtain⟨S0,F0,x,Qp,Ep,wd,ha,hf,hQ,hE⟩:=h
    have q:=hw x Qp Ep S0 hf
    refine hs x S0 F0 H S0 H _ { nx:=fun _ H'=>Q .non H',rt:=Q } _ Ep ⟨.refl wd,sat_start ha⟩ q (fun _ S' H' σ' z c'=> ?_) (fun _ _ _ _ z _=>z.elim) (fun y S' H' v z r' hv=>hQ y S' H' v z r' hv)
      (fun e S' H' c dd σ' he r' _ hk=>hE e S' H' c dd he r' hk)
    cases d with
    | none=>exact z.elim
    | some y=>exact hQ y S' H' .non z c'.nx (by rw[hd y rfl];exact mk_non)
end
end TL

namespace PC
open PySem PySem.Spec PyProof.Rows L2
section
variable {M : Model} {A : Around} {E : Value → Shared → Prop} {s : Shared} {Z : Obj → Prop} {B : Heap} {env : Env} {outer : List Env} {L C a : Addr}
end
section
variable {X : Cx} {σ : L2.St} {H : Hp} {s : Shared}
end
end PC
namespace PC
open PySem PySem.Spec PyProof.Rows L2 HotX
section
variable {X : Cx} {pins : List (Addr × Obj)} {σ : L2.St} {H : Hp} {s : Shared}
theorem ns_slots {h h':Heap} {L:Addr} {m:Str→Option Value} (hn:h.Ns L m) (hk:h.UpToSlots h'):h'.Ns L m:=by
  obtain⟨oL,es,ep,hoL,hdL,r⟩:=hn
  obtain⟨sl,e⟩:=hk L oL hoL fun vs q=>by rw[hdL] at q;cases q
  exact⟨_,es,ep,e,hdL,r⟩
theorem gone_inv {i:Nat} {n:Str} {m m2:Str→Option Value} {h':Heap} {t':Nat} (I:Inv X pins σ H s) (hN:X.N.Nodup) (hi:X.N[i]?=some n) (hl:X.env.kindOf n=some .local)
    (hn:s.heap.Ns X.env.locals m) (hn':h'.Ns X.env.locals m2) (hm: ∀x,x≠n→m2 x=m x) (hs:Heap.SameBut X.env.locals s.heap h'):Inv X pins (σ.set i none) H { s with heap:=h',toks:=t' }:=by
  obtain⟨m0,hn0,hlk⟩:=id I.loc
  have neL: ∀b o,X.s_0.heap.get? b=some o→b≠X.env.locals:=fun b o e=>Nat.ne_of_lt (Nat.lt_of_lt_of_le (Heap.lt_size e) I.ok.above)
  refine⟨I.ok,I.os,I.bare,⟨fun b o e n hb hx=> ?_,fun b o e n hb hx=> ?_,I.base.free,fun b o e hx=> ?_,I.base.tups,I.base.frzs,I.base.tbls⟩,⟨_,hn',fun j y v' e1 e2 e3=> ?_⟩,fun y c e=> ?_,I.free,I.freeC,fun p hp=> ?_,fun b ob e=> ?_,by simpa using I.len⟩
  · exact (hs.2 b (neL b o e)).trans (I.base.keep b o e n hb hx)
  · obtain⟨sl,e1⟩:=I.base.slot b o e n hb hx
    exact⟨sl,(hs.2 b (neL b o e)).trans e1⟩
  · obtain⟨o',e1⟩:=I.base.there b o e hx
    exact⟨o',(hs.2 b (neL b o e)).trans e1⟩
  · by_cases hj:j=i
    · subst hj
      by_cases hlt:j<σ.length
      · rw[List.getElem?_set_self hlt] at e2;cases e2
      · rw[List.getElem?_eq_none (by simpa using hlt)] at e2;cases e2
    · rw[List.getElem?_set_ne (Ne.symm hj)] at e2
      obtain⟨u',r',q⟩:=hlk j y v' e1 e2 e3
      refine⟨u',r',?_⟩
      rcases q with ⟨k,e⟩ | ⟨k,c,e,z⟩
      · have ny:y≠n:=fun e=>hj (nodup_ix hN e1 (e ▸ hi))
        exact .inl ⟨k,(hm y ny).trans ((hn.agree hn0 y).trans e)⟩
      · exact .inr ⟨k,c,e,z.sameBut hs (I.cne y c e)⟩
  · obtain⟨w',z⟩:=I.cell y c e
    exact⟨w',z.sameBut hs (I.cne y c e)⟩
  · obtain⟨e,n,ne,nf,d⟩:=I.pin p hp
    exact⟨(hs.2 p.1 ne).trans e,n,ne,nf,d⟩
  · refine (I.hok b ob e).stay (fun c w' hc q=>(hs.2 c ?_).trans q) (fun _ q=>q) fun _ _ q=>q
    intro z
    subst z
    rcases hc with hc | hc
    · rw[← hc,I.free] at e;cases e
    · rw[I.free] at hc;cases hc
abbrev suiteE (X:Cx) (a:Addr) (pn:List (Addr×Obj)) (xe:Value→Shared→Prop):Cx:= { X with A:=X.A.mark (some (.ref a)),calm:=false,pn:=pn,xe:=xe }
theorem suiteE_of {a:Addr} {pn pn':List (Addr×Obj)} {xe:Value→Shared→Prop} (I:Inv (X.suite a pn) pn' σ H s):Inv (suiteE X a pn xe) pn' σ H s:=
  ⟨⟨I.ok.mod,I.ok.kind,I.ok.glob,I.ok.blt,I.ok.above,I.ok.inj,I.ok.has,I.ok.cab,I.ok.hd,I.ok.frames,I.ok.stk,I.ok.exf,I.ok.bs,I.ok.bsz,I.ok.noex,I.ok.exfs,I.ok.funs,I.ok.frf⟩,I.os,I.bare,I.base,I.loc,I.cell,I.free,I.freeC,I.pin,I.hok,I.len⟩
theorem unsuiteE {a:Addr} {q:Addr×Obj} {pn':List (Addr×Obj)} {xe:Value→Shared→Prop} (I:Inv (suiteE X a (q::(X.pn++pins)) xe) pn' σ H s) (ok:X.Ok):Inv X pins σ H s:=
  ⟨ok,I.os,I.bare,I.base,I.loc,I.cell,I.free,I.freeC,fun p hp=>I.pin p (List.mem_append_left _ (List.mem_cons_of_mem _ hp)),I.hok,I.len⟩
theorem suite_error {W:WX} {i:Nat} {n:Str} {a:Addr} {q:Addr×Obj} {pos:Pos} {xe:Value→Shared→Prop} (hst:X.stack=X.env::X.outer) (hfr:X.env.frame=some X.env.locals) (nd:X.N.Nodup)
    (hi:X.N[i]?=some n) (hl:X.env.kindOf n=some .local) (ok:X.Ok) (out:Takes X W) {xE:Value→Shared→Prop} (hpa: ∀e s',X.xe e s'→xE e s')
    {E1 E2:Value→Shared→Prop} {u:Value} {s':Shared} (x:XE (suiteE X a (q::(X.pn++pins)) xe) (fun c d σ H=>W c d (σ.set i none) H) u s'):
    wpAny (model X.prog X.w) (X.A.mark (some (.ref a))) (noteFrame u X.env) (fun _ s3=>wpAny (model X.prog X.w) (X.A.mark (some (.ref a))) (do bindName X.env n .none;unbindBehindTheSuite X.env n pos)
      (fun _ s4=>wpAny (model X.prog X.w) (X.A.mark (some (.ref a))) (passOn "try.except-as" u X.env:Sem Flow) (fun _ _=>False) xE s4) E1 s3) E2 s':=by
  obtain⟨b,B,sI,pins',τ,G,cls,d,rfl,I0,nb,up,sky,na,os,ag,w⟩:=x
  have I:Inv X pins τ G sI:=unsuiteE I0 ok
  have hA:(X.A.mark (some (.ref a))).frames=some (X.env::X.outer):=by
    have z:X.A.frames=some (X.env::X.outer):=by rw[ok.frames,hst]
    exact z
  have sky':Sky B (X.env::X.outer) b (Zc cls d) X.env.locals s'.heap:=by rw[← hst];exact sky
  refine sky_note Zc.steady hA hfr sky' fun h1 hh up1=> ?_
  have J1:Inv X pins τ G { s' with heap:=h1 }:=I.landed nb hh.1 (up.trans up1) os ag
  obtain⟨m,hn,_⟩:=id I.loc
  have hn1:h1.Ns X.env.locals m:=ns_slots hn (up.trans up1)
  have hcls:(X.env.scope.kind == .class || (X.env.scope.kind == .module && X.env.locals !=X.env.globals))=false:=by rw[ok.kind];rfl
  refine wpAny_nameGoes_keeps hl hn1 hcls fun h2 v hn2 sb=> ?_
  obtain⟨f1,f2,f3,oe,vs,T,oT,ts,he,hz,hd,q1,hnT,hTe,hT,hdT,q3⟩:=hh
  obtain⟨o2,es2,ep2,c2,cd2,cr2⟩:=id hn2
  obtain⟨oL,_,_,cL,cdL,_⟩:=id hn1
  have bL:B.get? X.env.locals=none:=(f3.mem (List.mem_filterMap.mpr ⟨X.env,List.mem_cons_self,hfr⟩)).1
  have nbL:b≠X.env.locals:=fun z=>by
    rw[z,cL] at he;cases he
    rw[cdL] at hd;cases hd
  have nTL:T≠X.env.locals:=fun z=>by
    rw[z,cL] at hT;cases hT
    rw[cdL] at hdT;cases hdT
  have hh2:HandSPX.HeldZ B (X.env::X.outer) b (Zc cls d) X.env.locals h2:=
    ⟨fun b' o' e=>(sb.2 b' fun z=>by rw[z,bL] at e;cases e).trans (f1 b' o' e),f2,Heap.FunFrames.sameBut sb hn2 f3,oe,vs,T,oT,ts,(sb.2 b nbL).trans he,hz,hd,q1,hnT,hTe,(sb.2 T nTL).trans hT,hdT,q3⟩
  obtain⟨oI,_,_,eI,dI,_⟩:=id hn
  have fr:o2.isFreed=false:=(Heap.get?_some_iff.mp c2).2
  have uL:(sI.heap.update X.env.locals fun _=>o2).get? X.env.locals=some o2:=Heap.get?_update_self (fun _=>o2) eI fr
  have uo: ∀b',b'≠X.env.locals→(sI.heap.update X.env.locals fun _=>o2).get? b'=sI.heap.get? b':=fun b' hb=>Heap.get?_update_other _ _ (Ne.symm hb)
  have hnU:(sI.heap.update X.env.locals fun _=>o2).Ns X.env.locals (fun x=>if x=n then v else m x):=⟨o2,es2,ep2,uL,cd2,cr2⟩
  have J2:Inv X pins (τ.set i none) G { sI with heap:=sI.heap.update X.env.locals fun _=>o2,toks:=sI.toks }:=
    gone_inv I nd hi hl hn hnU (fun x hx=>if_neg hx) ⟨by first | exact Heap.size_update _ _ _ | simp,uo⟩
  unfold PySem.passOn
  obtain⟨_,_,_,oe2,vs2,T2,oT2,ts2,he2,hz2,hd2,q2,_⟩:=id hh2
  refine wpAny_bind (wpAny_field he2 hd2 q2 ?_)
  rw[if_neg (show ¬ ((Value.ref T2 == Value.none)=true) from by simp)]
  have fin:wpAny (model X.prog X.w) (X.A.mark (some (.ref a))) (setFlight (.ref b) X.env.frame) (fun _ s4=>wpAny (model X.prog X.w) (X.A.mark (some (.ref a))) (throw (.ref b):Sem Flow) (fun _ _=>False) xE s4) xE { s' with heap:=h2,toks:=s'.toks+1 }:=by
    rw[hfr]
    refine HandSPX.setFlight_onZ hh2 fun h4 hh4 up4=>wpAny_throw (hpa _ _ (out _ _ ?_))
    refine⟨b,B,_,pins,_,G,cls,d,rfl,J2,fun b' o' e hb=> ?_,fun b' o' e hnf=> ?_,.inr (.inr (by rw[hst];exact hh4)),na,os,ag,w⟩
    · have hbL:b'≠X.env.locals:=fun z=>hb (by rw[z,hst];exact List.mem_filterMap.mpr ⟨X.env,List.mem_cons_self,hfr⟩)
      exact nb b' o' ((uo b' hbL).symm.trans e) hb
    · have e2: ∃sl,h2.get? b'=some { o' with slots:=sl }:=by
        by_cases z:b'=X.env.locals
        · subst z
          rw[show (sI.heap.update X.env.locals fun _=>o2).get? X.env.locals=some o2 from uL] at e
          cases e;exact⟨_,c2⟩
        · obtain⟨sl1,z1⟩:=up b' o' ((uo b' z).symm.trans e) hnf
          obtain⟨sl2,z2⟩:=up1 b' _ z1 hnf
          exact⟨sl2,(sb.2 b' z).trans z2⟩
      obtain⟨sl,z⟩:=e2
      obtain⟨sl3,z3⟩:=up4 b' _ z hnf
      exact⟨sl3,z3⟩
  first
    | exact wpAny_bind (wpAny_pure (wpAny_bind fin))
    | exact wpAny_bind fin
end
end PC
namespace PC
open PySem PySem.Spec PyProof.Rows L2 HotX
inductive ClOkX (X:Cx) (W:WX):List ExceptHandler→List Clause→Prop
  | nil:ClOkX X W [] []
  | cons {x n:Str} {c:Value} {i:Nat} {t:Addr→Value→Option Addr→TS} {s1:Stmt} {ss:List Stmt} {p q:Pos} {hs:List ExceptHandler} {l:List Clause}
      (hi:X.N[i]?=some n) (hl:X.env.kindOf n=some .local) (hc:Names X x c)
      (body: ∀(a:Addr) (o:Obj) (k:Value) (d:Option Addr) (pn:List (Addr×Obj)) (xe:Value→Shared→Prop),L2N.Zn k d o→(∃vs,o.data= .fields vs)→
        Takes (suiteE X a ((a,o)::pn) xe) (fun c d σ H=>W c d (σ.set i none) H)→PSs (suiteE X a ((a,o)::pn) xe) (s1::ss) (t a k d))
      (rest:ClOkX X W hs l):ClOkX X W (.ExceptHandler (some (.Name x p)) (some n) (s1::ss) q::hs) ((c,i,t)::l)
section
variable {X : Cx} {W : WX} {D : Ends}
theorem clauses_runX (hst:X.stack=X.env::X.outer) (hfr:X.env.frame=some X.env.locals) (nd:X.N.Nodup) (out:Takes X W) (hpa: ∀hd:Option Value,PassesOwnAt (model X.prog X.w) (X.A.mark hd) X.A X.env X.xe)
    {B:Heap} {s0 s1:Shared} {pins:List (Addr×Obj)} {σ:L2.St} {H:Hp} {a:Addr} {k:Value} {d:Option Addr} (ok:X.Ok) (I:Inv X pins σ H s0)
    (nb: ∀b o,s0.heap.get? b=some o→b ∉ frs X.stack→B.get? b=some o) (fl:HandSPX.FlyingZ B (X.env::X.outer) a (L2N.Zn k d) s1.heap) (up:s0.heap.UpToSlots s1.heap)
    (na:H a=none) (os:s1.os=s0.os) (ag:AllBare s1.gens):
    ∀ {hs:List ExceptHandler} {l:List Clause},ClOkX X W hs l→wCl X.K W D l k d σ H→wpAny (model X.prog X.w) X.A (handleBy (.ref a) X.env hs) (SP X pins D) X.xe s1:=by
  have J:Inv X pins σ H s1:=I.landed nb fl.1 up os ag
  obtain⟨o1,_,e1,z1,dd1⟩:=fl.there
  have apart:=far_of fl.2.2.1 e1 dd1
  have a1:a≠X.env.locals:=fun z=>apart (List.mem_filterMap.mpr ⟨_,List.mem_cons_self,z ▸ hfr⟩)
  have a2:a ∉ X.fs:=fun m=>by
    obtain⟨y,hy,ey⟩:=List.mem_filterMap.mp m
    exact apart (List.mem_filterMap.mpr ⟨y,.tail _ hy,ey⟩)
  intro hs l ck
  induction ck with
  | nil=>
    intro wish
    obtain⟨_,_,_,o2,us,T,_,_,e2,_,dd2,u1,_⟩:=id fl
    refine wpAny_handleBy_nil ?_
    unfold PySem.passOn
    refine wpAny_bind (wpAny_field e2 dd2 u1 ?_)
    rw[if_neg (by simp)]
    have leave:wpAny (model X.prog X.w) X.A (setFlight (.ref a) X.env.frame) (fun _ t=>wpAny (model X.prog X.w) X.A (throw (.ref a):Sem Flow) (SP X pins D) X.xe t) X.xe s1:=by
      rw[hfr]
      refine HandSPX.setFlight_upZ (L2H.flyingZ_imp (fun o z=>L2N.Zn.zc z) fl) fun g held up2=>wpAny_throw (out _ _ ⟨a,B,s0,pins,σ,H,k,d,rfl,I,nb,up.trans up2,?_,na,os,ag,wish⟩)
      rw[hst]
      exact .inr (.inr held)
    first
      | exact wpAny_bind (wpAny_pure (wpAny_bind leave))
      | exact wpAny_bind leave
  | @cons x n c i t y1 ys p q hs l hi hl hc body _ ih=>
    rintro ⟨b,eb,yes,no⟩
    have V1:=J.suite e1 dd1 na a1 a2
    have known:PySem.W.Looks (model X.prog X.w) s1.heap (typeOf (.ref a)) k:=fun A Q E st kp qq=>wpAny_typeOf_ref (kp _ _ e1) (by rw[z1.1];exact qq)
    have asked:=PySem.W.exm_one (M:=model X.prog X.w) J.kIn known eb
    have named:wpAny (model X.prog X.w) (X.A.mark (some (.ref a))) (eval (.Name x p) X.env) (fun u st=>u=c∧s1=st) (fun _ _=>False) s1:=by
      rcases hc with ⟨g,ndb,m | ⟨m,bv,nn⟩⟩
      · exact ld_glob (X:=X.suite a ((a,o1)::(X.pn++pins))) V1 g m ⟨rfl,rfl⟩ ndb
      · exact ld_blt (X:=X.suite a ((a,o1)::(X.pn++pins))) V1 g m bv ⟨rfl,rfl⟩ nn ndb
    refine wpAny_handleBy_cons (codeAny_handlers_test ?_) (fun w=>nomatch w)
    refine wpAny_mono named ?_ fun _ _ w=>w.elim
    rintro _ _ ⟨rfl,rfl⟩
    refine asked.here ?_
    cases b with
    | false=>exact ih (no rfl)
    | true=>
      refine codeAny_handlers_suite_as (HandSPX.lands_againZ fl fun g fl2 up2=> ?_)
      have J2:Inv X pins σ H { s1 with heap:=g }:=I.landed nb fl2.1 (up.trans up2) os ag
      obtain⟨o2,vs2,e2,z2,dd2⟩:=fl2.there
      refine store_ok (X:=X.suite a ((a,o2)::(X.pn++pins))) (v:= .ref a) (J2.suite e2 dd2 na a1 a2) nd hi (.inl hl) rfl (fun t2 S2=> ?_) (.inr hl)
      have drop: ∀ {τ:L2.St} {G:Hp} {t3:Shared} {R:Shared→Prop} {xe:Value→Shared→Prop},Inv (suiteE X a ((a,o2)::(X.pn++pins)) xe) [] τ G t3→(∀t4,Inv X pins (τ.set i none) G t4→R t4)→
          wpAny (model X.prog X.w) X.A (do bindName X.env n .none;unbindBehindTheSuite X.env n q) (fun _ t4=>R t4) X.xe t3:=fun S hR=>gone_ok (unsuiteE S ok) nd hi hl hR
      refine wpAny_mono ((body a o2 k d (X.pn++pins) _ z2 ⟨_,dd2⟩ (fun u s' x=>
        suite_error (pos:=q) hst hfr nd hi hl ok out (fun e s' z=>hpa (some (.ref a)) e s' z) (E1:=fun y s4=>wpAny (model X.prog X.w) (X.A.mark (some (.ref a))) (setFlight u none) (fun _ s5=>notedBy (model X.prog X.w) (X.A.mark (some (.ref a))) X.env (cameBackBy (model X.prog X.w) X.A X.env X.xe) y s5) (notedBy (model X.prog X.w) (X.A.mark (some (.ref a))) X.env (cameBackBy (model X.prog X.w) X.A X.env X.xe)) s4)
          (E2:=notedBy (model X.prog X.w) (X.A.mark (some (.ref a))) X.env (cameBackBy (model X.prog X.w) X.A X.env X.xe)) x)).run [] t2 _ H _ (suiteE_of S2) (yes rfl a na)) (fun f t3 hf=> ?_) fun _ _ w=>w
      cases f with
      | next=>exact drop hf.choose_spec.choose_spec.1 fun t4 S4=>⟨_,_,S4,hf.choose_spec.choose_spec.2⟩
      | brk=>exact drop hf.choose_spec.choose_spec.1 fun t4 S4=>⟨_,_,S4,hf.choose_spec.choose_spec.2⟩
      | cont=>exact drop hf.choose_spec.choose_spec.1 fun t4 S4=>⟨_,_,S4,hf.choose_spec.choose_spec.2⟩
      | ret u=>
        obtain⟨v,τ,G,S3,rv,qq⟩:=hf
        exact drop S3 fun t4 S4=>⟨v,_,G,S4,rv,qq⟩
theorem ps_try_clausesX {body:List Stmt} {h0:ExceptHandler} {hs:List ExceptHandler} {l:List Clause} {pos:Pos} {tb:WX→TS}
    (hst:X.stack=X.env::X.outer) (hfr:X.env.frame=some X.env.locals) (nd:X.N.Nodup) (out:Takes X W) (hpa: ∀hd:Option Value,PassesOwnAt (model X.prog X.w) (X.A.mark hd) X.A X.env X.xe)
    (hb: ∀(V:WX) (pn:List (Addr×Obj)) (xe:Value→Shared→Prop),L2N.Takes (X.tr pn xe) V→PassesOwn (model X.prog X.w) X.A X.env xe→PSs (X.tr pn xe) body (tb V))
    (ck:ClOkX X W (h0::hs) l):PS X (.Try body (h0::hs) [] [] pos) (fun D σ H=>tb (wCl X.K W D l) D σ H):=by
  constructor
  intro pins s σ H D I h
  have ok:=I.ok
  refine wpAny_Try_except (wpAny_mono ((hb (wCl X.K W D l) (X.pn++pins) _ (fun u t fly=> ?_) PassesOwn.looking).run [] s σ H D (I.toTry _) h) (fun f t done=> ?_) fun _ _ w=>w)
  · obtain⟨a,B,s0,pins0,τ,G,k,d,rfl,I0,nb,up,sky,na,os,ag,wish⟩:=fly
    have sky2:Sky B (X.env::X.outer) a (L2N.Zn k d) X.env.locals t.heap:=hst ▸ sky
    refine L2N.Sky.land L2N.Zn.steady (ok.frames.trans (by rw[hst])) hfr sky2 fun g fl up2=> ?_
    exact clauses_runX hst hfr nd out hpa (B:=B) (s0:=s0) (s1:= { t with heap:=g }) ok (I0.ofTry ok) nb fl (up.trans up2) na os ag ck wish
  · cases f with
    | next=>exact wpAny_execs_nil ⟨_,_,done.choose_spec.choose_spec.1.ofTry ok,done.choose_spec.choose_spec.2⟩
    | brk=>exact⟨_,_,done.choose_spec.choose_spec.1.ofTry ok,done.choose_spec.choose_spec.2⟩
    | cont=>exact⟨_,_,done.choose_spec.choose_spec.1.ofTry ok,done.choose_spec.choose_spec.2⟩
    | ret u=>
      obtain⟨v,τ,G,J,r,q⟩:=done
      exact⟨v,τ,G,J.ofTry ok,r,q⟩
end
end PC
namespace PC
open PySem PySem.Spec PyProof.Rows L2 HotX
def excFrom (h:Heap) (a x:Addr):Heap:=(h.update a (Obj.mapFields (·.setIfInBounds 3 (.ref x)))).update a (Obj.mapFields (·.setIfInBounds 4 (.bool true)))
theorem excFrom_at {h:Heap} {a x:Addr} {oe:Obj} {vs:Array Value} (ha:h.get? a=some oe) (hd:oe.data= .fields vs):
    (excFrom h a x).get? a=some ((oe.mapFields (·.setIfInBounds 3 (.ref x))).mapFields (·.setIfInBounds 4 (.bool true)))∧((oe.mapFields (·.setIfInBounds 3 (.ref x))).mapFields (·.setIfInBounds 4 (.bool true))).data= .fields ((vs.setIfInBounds 3 (.ref x)).setIfInBounds 4 (.bool true)):=by
  have hd3:=Obj.data_mapFields hd (·.setIfInBounds 3 (Value.ref x))
  have ha3:=Heap.get?_update_self (Obj.mapFields (·.setIfInBounds 3 (Value.ref x))) ha (Obj.isFreed_of_fields hd3)
  have hd4:=Obj.data_mapFields hd3 (·.setIfInBounds 4 (.bool true))
  exact⟨Heap.get?_update_self (Obj.mapFields (·.setIfInBounds 4 (.bool true))) ha3 (Obj.isFreed_of_fields hd4),hd4⟩
theorem excFrom_other {h:Heap} {a b x:Addr} (hne:a≠b):(excFrom h a x).get? b=h.get? b:=by
  unfold excFrom
  rw[Heap.get?_update_other _ _ hne,Heap.get?_update_other _ _ hne]
theorem raise_made_hotF {prog:Program} {w:World} {A:Around} {E:Value→Shared→Prop} {env:Env} {s:Shared} {x c:Sem Value} {Q:Flow→Shared→Prop} {x1:Addr}
    (h:wpAny (model prog w) A x (fun v s₁=> ∃a oe vs cls,v= .ref a∧s₁.heap.get? a=some oe∧oe.cls=cls∧oe.data= .fields vs∧vs[1]?=some .none∧4<vs.size∧x1≠a∧HotAt A x1 s₁.heap∧
      (∀Q':Value→Shared→Prop,Q' (.ref x1) s₁→wpAny (model prog w) A c Q' E s₁)∧
      PySem.W.Looks (model prog w) s₁.heap (isInstance (.ref x1) (.type "BaseException")) true∧
      PySem.W.Looks (model prog w) s₁.heap (isSubtype cls (.type "BaseException")) true∧PySem.W.Looks (model prog w) (excFrom s₁.heap a x1) (typeOf cls) (.type "type")∧
      E (.ref a) { s₁ with heap:=(excFrom s₁.heap a x1).update a (Obj.mapFields (·.setIfInBounds 2 (.ref x1))) }) E s):
    wpAny (model prog w) A (raiseStmt env (some x) (some c)) Q E s:=by
  unfold raiseStmt
  dsimp only
  refine wpAny_bind (wpAny_mono h (fun v s₁ h₁=> ?_) fun _ _ x=>x)
  obtain⟨a,oe,vs,cls,rfl,ha,hcls,hd,h1,hi,hne,hot,hcs,LX,L1,L3,hE⟩:=h₁
  have LT:PySem.W.Looks (model prog w) s₁.heap (typeOf (.ref a)) cls:=fun A Q E s k q=>wpAny_typeOf_ref (k _ _ ha) (by rw[hcls];exact q)
  have LI:PySem.W.Looks (model prog w) s₁.heap (isInstance (.ref a) (.type "BaseException")) true:=LT.andThen L1
  have hnt: ∀ {Q':Bool→Shared→Prop},Q' false s₁→wpAny (model prog w) A (isType (.ref a)) Q' E s₁:=by
    intro Q' hq
    simp only[isType,loadHead]
    refine wpAny_bind (wpAny_loadPart ha ?_)
    rw[hd];exact wpAny_pure hq
  have hntX: ∀ {Q':Bool→Shared→Prop},Q' false s₁→wpAny (model prog w) A (isType (.ref x1)) Q' E s₁:=by
    intro Q' hq
    obtain⟨_,o,vx,q2,q3,_⟩:=hot
    simp only[isType,loadHead]
    refine wpAny_bind (wpAny_loadPart q2 ?_)
    rw[q3];exact wpAny_pure hq
  have hd3:=Obj.data_mapFields hd (·.setIfInBounds 3 (Value.ref x1))
  have ha3:=Heap.get?_update_self (Obj.mapFields (·.setIfInBounds 3 (Value.ref x1))) ha (Obj.isFreed_of_fields hd3)
  obtain⟨ha4,hd4⟩:=excFrom_at (x:=x1) ha hd
  have s3:3<vs.size:=by omega
  have s4:4<(vs.setIfInBounds 3 (Value.ref x1)).size:=by rw[set_size];exact hi
  have s2:2<((vs.setIfInBounds 3 (Value.ref x1)).setIfInBounds 4 (Value.bool true)).size:=by rw[set_size,set_size];omega
  have h14:((vs.setIfInBounds 3 (Value.ref x1)).setIfInBounds 4 (Value.bool true))[1]?=some Value.none:=set_other (by decide) (set_other (by decide) h1)
  have hcls4:((oe.mapFields (·.setIfInBounds 3 (Value.ref x1))).mapFields (·.setIfInBounds 4 (.bool true))).cls=cls:=by rw[Obj.cls_mapFields,Obj.cls_mapFields];exact hcls
  have LT4:PySem.W.Looks (model prog w) (excFrom s₁.heap a x1) (typeOf (.ref a)) cls:=fun A Q E s k q=>wpAny_typeOf_ref (k _ _ ha4) (by rw[hcls4];exact q)
  have hnt4: ∀ {Q':Bool→Shared→Prop},Q' false { s₁ with heap:=excFrom s₁.heap a x1 }→wpAny (model prog w) A (isType (.ref a)) Q' E { s₁ with heap:=excFrom s₁.heap a x1 }:=by
    intro Q' hq
    simp only[isType,loadHead]
    refine wpAny_bind (wpAny_loadPart ha4 ?_)
    rw[hd4];exact wpAny_pure hq
  have hot4:HotAt A x1 (excFrom s₁.heap a x1):=by
    obtain⟨q1,o,vs',q2,q3,q4⟩:=hot
    exact⟨q1,o,vs',by rw[excFrom_other (Ne.symm hne)];exact q2,q3,q4⟩
  have rest:wpAny (model prog w) A (do
      let b ← isType (.ref a)
      if b=true then do
        let e ← holding [.ref a] (raisedFor (.ref a) (.ref a))
        setFlight e none
        raiseNew e
      else do
        let e ← raisedInstance (.ref a)
        setFlight e none
        raiseNew e:Sem Flow) Q E { s₁ with heap:=excFrom s₁.heap a x1 }:=by
    refine wpAny_bind (hnt4 ?_)
    simp only[Bool.false_eq_true,if_false]
    unfold raisedInstance
    refine wpAny_bind (wpAny_bind (LT4.here (wpAny_bind (L3.here ?_))))
    rw[if_pos (beq_self_eq_true _)]
    refine wpAny_pure ?_
    unfold setFlight
    refine wpAny_bind (wpAny_bind (wpAny_field ha4 hd4 h14 ?_))
    rw[if_neg (by decide)]
    refine wpAny_pure ?_
    exact raiseNew_hot hot4 hne ha4 hd4 s2 hE
  refine wpAny_bind (wpAny_holding (hcs _ (wpAny_bind (wpAny_pure ?_))))
  dsimp only
  refine wpAny_bind (wpAny_holding ?_)
  unfold excFromValue isExcClass
  refine wpAny_bind (wpAny_bind (hnt ?_))
  simp only[Bool.false_eq_true,if_false]
  refine wpAny_pure ?_
  simp only[Bool.false_eq_true,if_false]
  refine wpAny_bind (LI.here ?_)
  simp only[if_true]
  refine wpAny_pure ?_
  rw[if_neg (show ¬ ((Value.ref x1 == Value.none)=true) from by simp)]
  refine wpAny_bind (wpAny_holding ?_)
  refine wpAny_bind (wpAny_bind (hntX ?_))
  simp only[Bool.false_eq_true,if_false]
  refine wpAny_pure ?_
  simp only[Bool.false_eq_true,if_false]
  refine wpAny_bind (LX.here ?_)
  simp only[if_true]
  refine wpAny_pure ?_
  refine wpAny_bind (wpAny_setField ha hd s3 (wpAny_bind (wpAny_setField ha3 hd3 s4 ?_)))
  exact rest
end PC
namespace PC
open PySem PySem.Spec PyProof.Rows L2 HotX
theorem ld_var {X:Cx} {E:Value→Shared→Prop} {pins:List (Addr×Obj)} {s:Shared} {σ:L2.St} {H:Hp} {i:Nat} {x:Str} {b:Addr} {pos:Pos} {Q:Value→Shared→Prop} (I:Inv X pins σ H s) (hN:X.N[i]?=some x) (hv:X.env.kindOf x=some .local)
    (e:σ[i]?=some (some (.ref b))) (h:Q (.ref b) s) (hd:(x == ("__debug__" :Str))=false:=by decide):wpAny (model X.prog X.w) X.A (eval (.Name x pos) X.env) Q E s:=by
  obtain⟨m,hn,hl⟩:=I.loc
  obtain⟨u,r,l⟩:=hl i x _ hN e (.inl hv)
  cases (show u=Value.ref b from r)
  rcases l with ⟨hk,hm⟩ | ⟨hk,c,hc,hcell⟩
  · exact wpAny_Name (wpAny_loadName_local I.ok.kind hk hn hm h) hd
  · rcases hk with hk | hk <;> (rw[hv] at hk;cases hk)
theorem ps_raiseF {X:Cx} {W:WX} {e:Expr} {t:L2.St→Hp→XK→Prop} {i:Nat} {n:Str} {np pos:Pos} {a C:Addr} {oe:Obj} {cls:Value} (hN:X.N[i]?=some n) (hv:X.env.kindOf n=some .local)
    (hp:(a,oe)∈X.pn) (hot:L2H.Hot1 X.A (a,oe)) (hz0:oe.cls=cls) (hr:Raises X (.ref C)) (tk:Takes X W) (he:L2H.PMk5 X e t) (hd0:(n == ("__debug__" :Str))=false:=by decide):
    PS X (.Raise (some e) (some (.Name n np)) pos) (fun _ σ H=>(σ[i]?=some (some (.ref a))∧cls= .ref C)∧t σ H fun cls d H'=>W cls d σ H'):=by
  refine⟨fun pins s σ H D I ⟨⟨hσ,hC⟩,h⟩=> ?_⟩
  subst hC
  obtain⟨hh,v1,e1,c1⟩:=hot
  show wpAny _ _ (do standAt pos;raiseStmt X.env (some (do let v ← eval e X.env;standAt pos;pure v)) (some (do let v ← eval (.Name n np) X.env;standAt pos;pure v))) _ _ _
  refine wpAny_bind (wpAny_standAt (raise_made_hotF (x1:=a) (wpAny_bind (wpAny_mono (he pins s σ H _ I h) (fun u s1 hu=>wpAny_bind (wpAny_standAt (wpAny_pure ?_))) fun _ _ x=>x))))
  obtain⟨⟨b,ob,vs,sI,H',cls,d,rfl,J,k,hne,ha,hz,hd,h1,na,os,ag,r,q⟩,h5⟩:=hu
  have hi:4<vs.size:=h5 b ob vs rfl ha hd
  have P1:=(J.pin (a,oe) (List.mem_append_left _ hp)).1
  have nab:a≠b:=fun z=>by
    rw[← z] at hne
    rw[hne] at P1
    cases P1
  have k4: ∀b' u,sI.heap.get? b'=some u→(excFrom s1.heap b a).get? b'=some u:=fun b' u z=>by
    have nb:b≠b':=fun y=>by
      rw[← y,hne] at z
      cases z
    rw[excFrom_other nb]
    exact k b' u z
  obtain⟨r1,_⟩:=r (model X.prog X.w) s1.heap (J.kIn.keeps k)
  obtain⟨_,r2⟩:=r (model X.prog X.w) (excFrom s1.heap b a) (J.kIn.keeps k4)
  obtain⟨c1',_⟩:=hr (model X.prog X.w) s1.heap (J.kIn.keeps k)
  obtain⟨ha4,hd4⟩:=excFrom_at (x:=a) ha hd
  have h12:(((vs.setIfInBounds 3 (Value.ref a)).setIfInBounds 4 (Value.bool true)).setIfInBounds 2 (Value.ref a))[1]?=some Value.none:=set_other (by decide) (set_other (by decide) (set_other (by decide) h1))
  have J1:Inv X pins σ H' s1:=J.landed (B:=PySem.W.hideAll sI.heap (frs X.stack)) (fun b o e hb=>PySem.W.hideAll_get _ e hb) (fun b o e=>k b o (PySem.W.of_hideAll _ e)) (Heap.UpToSlots.of_keeps k) os ag
  have LTa:PySem.W.Looks (model X.prog X.w) s1.heap (typeOf (.ref a)) (.ref C):=fun A Q E s k' q=>wpAny_typeOf_ref (k' _ _ (k _ _ P1)) (by rw[hz0];exact q)
  refine⟨b,ob,vs,cls,rfl,ha,hz.1,hd,h1,hi,nab,⟨hh,oe,v1,k _ _ P1,e1,c1⟩,fun Q' q'=>wpAny_bind (ld_var J1 hN hv hσ (wpAny_bind (wpAny_standAt (wpAny_pure q'))) hd0),LTa.andThen c1',r1,r2,
    tk _ _ (XE.new J (fun b' u z=> ?_) hne (Heap.get?_update_self _ ha4 (Obj.isFreed_of_fields (Obj.data_mapFields hd4 _)))
    ⟨by rw[Obj.cls_mapFields,Obj.cls_mapFields,Obj.cls_mapFields];exact hz.1,by rw[HandSPX.dict_mapFields,HandSPX.dict_mapFields,HandSPX.dict_mapFields];exact hz.2.1⟩ (Obj.data_mapFields hd4 _) h12 na os ag q)⟩
  have nb:b≠b':=fun y=>by
    rw[← y,hne] at z
    cases z
  show ((excFrom s1.heap b a).update b (Obj.mapFields (·.setIfInBounds 2 (.ref a)))).get? b'=some u
  rw[Heap.get?_update_other _ _ nb]
  exact k4 b' u z
end PC
namespace TL
open PySem PySem.Spec PyProof.Rows L2 PC
section
variable {K : PySem.W.Frag} {ε : WX} {Gh : Option (Gm K)} {G : Gm K} {T ρ τ : Type} {Gof : T → Gm K} {rr : ρ → Dm K} {ts : List TS}
def wFrom {α:Type} (C0:Addr) (e:Err K) (m:W K α):W K α:=fun Q E S=>e.1=C0∧m Q E S
theorem simS_raiseF {C C0 a:Addr} {k:Value} {d0:Option Addr} {e:Err K} {i:Nat} {f:Str} {fs:List Str} {ta:TA} {δ:τ→List (Dm K)} {m:W K τ} (hi:G[i]?=some (some (kErr a k d0 e))) (hε: ∀c d σ σ' H,ε c d σ H→ε c d σ' H) (l:Le G Gh) (s:SimA ε G ta δ m) (er:τ→List (Str×Dm K))
    (he: ∀y Z H vs,AtL Z H (δ y) vs→ ∃v ws,vs=v::ws∧ws.length=fs.length∧AtK Z H (er y) ((fs.zip ws).reverse++ [(f,v)])):
    SimS ε Gh G ((fun _ σ H=>(σ[i]?=some (some (.ref a))∧k= .ref C0)∧tErr C f fs ta σ H fun cls d H'=>ε cls d (σ.set i none) H')::ts) Gof rr (wFrom C0 e (bnd m fun y=>wRaise (C,er y))):=by
  intro S0 F H0 S H σ D Qp Ep c hm h1 h2 h3 h4
  obtain⟨hC,hm⟩:=hm
  obtain⟨v,e1,e2,e3⟩:=c.sat.slot i _ hi
  subst e2
  refine⟨⟨e1,by rw[← hC];exact e3.1⟩,?_⟩
  refine s S F σ H _ _ Ep c.wd c.sat hm (fun y S1 H1 vs hy r1 hv=> ?_) (h4.e c l)
  obtain⟨v,ws,rfl,hl,hf⟩:=he y _ H1 vs hv
  refine⟨v,ws,rfl,hl,fun d hd=>hε _ _ σ _ _ ?_⟩
  have nx:Nxt S1 F H1 S1 (upd H1 d (.xd ((fs.zip ws).reverse++ [(f,v)]))):=r1.wd.new hd
  exact h4 _ S1 _ _ _ σ hy (c.nx.trans (r1.trans nx)) (l.sat (c.sat.up (r1.trans nx).stp)) ⟨rfl,d,_,rfl,r1.wd.free hd,upd_same,hf.up nx.stp⟩
end
end TL
namespace PC
open PySem PySem.Spec PyProof.Rows L2
theorem FnN.ex {P:Program} {w:World} {K:PySem.W.Frag} {mg:Str→Option Value} {base:Heap} {k:Nat} {f:Addr} {fd:FuncData} {ps:List Str} {ι:Type 1} {sp:ι→Sp}
    (F: ∀i,FnN P w K mg base k f fd ps (sp i)):FnN P w K mg base k f fd ps (fun vs H Q E=> ∃i,sp i vs H Q E):=
  ⟨fun vs H Q E ⟨i,h⟩=>(F i).len vs H Q E h,fun A o s H a us vs Q E g r e0 b rv ⟨i,h⟩=>(F i).run A o s H a us vs Q E g r e0 b rv h⟩
end PC
namespace PC
open PySem PySem.Spec PyProof.Rows L2
theorem takes0N {X:Cx}:L2N.Takes X (fun _ _ _ _=>False):=fun _ _ x=>by
  obtain⟨_,_,_,_,_,_,_,_,_,_,_,_,_,_,_,_,z⟩:=x
  exact z.elim
end PC

set_option Elab.async false
set_option linter.all false
set_option maxRecDepth 100000
set_option maxHeartbeats 2000000
namespace PC
open PySem PySem.Spec PyProof.Rows L2 PySem.W
def revS (x:Str):Str:=⟨x.cps.toList.reverse.toArray⟩
theorem picked_rev (x:Str) (t:Tok):((slicePicked x none none (some (-1,t))).filterMap (x.cps[·]?)).toArray=x.cps.toList.reverse.toArray:=by
  have e:slicePicked x none none (some (-1,t))=sliceRange ((x.cps.size:Int) - 1) (-1) (-1):=rfl
  rw[e,krv_sliceRange,krv_range,List.filterMap_reverse,krv_all]
theorem revS_len (x:Str):(revS x).length=x.length:=by
  show x.cps.toList.reverse.toArray.size=x.cps.size
  simp
theorem lower_low {x:Str} (h: ∀c∈x.cps.toList,c<128):(Txt.lower x).length=x.length∧ ∀c∈(Txt.lower x).cps.toList,c<128:=by
  rw[lower_ascii h]
  refine⟨?_,fun c hc=> ?_⟩
  · show (x.cps.map lo1).size=x.cps.size
    rw[Array.size_map]
  · have hc:c∈(x.cps.map lo1).toList:=hc
    rw[Array.toList_map] at hc
    obtain⟨d,hd,rfl⟩:=List.mem_map.mp hc
    have:=h d hd
    unfold lo1
    split <;> omega
def tRevS (te:TE):TE:=fun σ H Q=>te σ H fun x H1=> ∃z,x= .str z∧z.length≤50000∧Q (.str (revS z)) H1
theorem pe_revS {X:Cx} {e:Expr} {te:TE} {k:Nat} {p1 p2 p3 pos:Pos} (he:PE X e te):PE X (.Subscript e (.Slice none none (some (.UnaryOp .USub (.Constant (.int 1) k p1) p2)) p3) pos) (tRevS te):=by
  refine⟨fun pins s σ H Q I h=> ?_⟩
  refine Subscript_ (thn (he.run pins s σ H _ I h) fun v s1 ⟨x,H1,I1,r1,q1⟩=> ?_)
  obtain⟨z,ex,hz,q⟩:=q1
  subst ex
  obtain⟨t,rfl⟩:=r1
  have hst:PO X (some (.UnaryOp .USub (.Constant (.int 1) k p1) p2)) (tPart (tUn (rU fun i=> .int (-i)) (tC (.int 1)))):=po_some (pe_un un_neg pe_int)
  refine wpAny_Slice (thn (po_none.run pins s1 σ H1 (fun o H2=>o=none∧H2=H1) I1 ⟨rfl,rfl⟩) fun vl s2 ⟨l,H2,I2,pl,el,e2⟩=> ?_)
  subst el e2
  refine thn (po_none.run pins s2 σ H2 (fun o H3=>o=none∧H3=H2) I2 ⟨rfl,rfl⟩) fun vu s3 ⟨u,H3,I3,pu,eu,e3⟩=> ?_
  subst eu e3
  refine thn (hst.run pins s3 σ H3 (fun o H4=>o=some (-1)∧H4=H3) I3 ⟨1,rfl,-1,rfl,rfl,rfl⟩) fun vs s4 ⟨o,H4,I4,ps,eo,e4⟩=> ?_
  subst eo e4
  have I5:Inv X pins σ H4 { s4 with heap:=s4.heap.push { cls:= .type "slice",data:= .fields #[vl,vu,vs] } }:=I4.kept (t':=s4.toks) fun b ob q=>Heap.get?_push_of_some _ q
  obtain⟨l,rfl,hl⟩:=IsPart.raw pl
  obtain⟨u,rfl,hu⟩:=IsPart.raw pu
  obtain⟨st,rfl,hst⟩:=IsPart.raw ps
  have hl:l=none:=by cases l with | none=>rfl | some x=>cases hl
  have hu:u=none:=by cases u with | none=>rfl | some x=>cases hu
  obtain⟨ts,rfl⟩: ∃ts,st=some (-1,ts):=by
    cases st with
    | none=>cases hst
    | some x=>
      obtain⟨i,ts⟩:=x
      have:i= -1:=Option.some.inj hst
      subst this
      exact⟨ts,rfl⟩
  subst hl hu
  show wpAny (model X.prog X.w) X.A (subscriptTail e (.Slice none none (some (.UnaryOp .USub (.Constant (.int 1) k p1) p2)) p3) (.str z t) (.ref s4.heap.objs.size)) (EP X pins σ Q) X.xe _
  refine tail_any (ops:= [.str z t,.ref s4.heap.objs.size]) (typeIs_str _ _ _) (F.slot_str_getitem.lookup) ?_ (by with_unfolding_all rfl)
  refine wpAny_getItem_str_slice (l:=none) (u:=none) (st:=some (-1,ts)) ⟨_,Heap.get?_push_size _ rfl,rfl,rfl⟩ rfl ?_
  show Made.post (if ((-1:Int) == 1 && _)=true then _ else Made.str ⟨((slicePicked z none none (some (-1,ts))).filterMap (z.cps[·]?)).toArray⟩) _ _
  rw[if_neg (by simp),picked_rev]
  refine⟨?_,.str (revS z),H4,I5.tok _,⟨_,rfl⟩,q⟩
  show (revS z).length≤sizeLine
  rw[revS_len,sizeLine_eq]
  omega
abbrev RCall:=L2.St→List V→Hp→VK→Prop
def FnV (X:Cx):List Addr→List RCall→Prop
  | a::as,r::rs=>(keepIn X.K (.ref a)=true∧CallS X (.ref a) r)∧FnV X as rs
  | [],_=>True
  | _,_=>False
theorem FnV.get {X:Cx}: ∀ {as:List Addr} {rs:List RCall} {i:Nat} {a:Addr} {r:RCall},FnV X as rs→as[i]?=some a→rs[i]?=some r→keepIn X.K (.ref a)=true∧CallS X (.ref a) r
  | a::as,r::rs,0,_,_,h,ea,er=>by cases ea;cases er;exact h.1
  | a::as,r::rs,i+1,_,_,h,ea,er=>FnV.get (i:=i) h.2 ea er
  | [],_,_,_,_,_,ea,_=>by simp at ea
  | _::_,[],_,_,_,h,_,_=>h.elim
theorem FnV.keep {X:Cx}: ∀ {as:List Addr} {rs:List RCall} {i:Nat} {a:Addr},FnV X as rs→as[i]?=some a→keepIn X.K (.ref a)=true
  | a::as,r::rs,0,_,h,ea=>by cases ea;exact h.1.1
  | a::as,r::rs,i+1,_,h,ea=>FnV.keep (i:=i) h.2 ea
  | [],_,_,_,_,ea=>by simp at ea
  | _::_,[],_,_,h,_=>h.elim
theorem FnV.nil {X:Cx}:FnV X [] []:=trivial
theorem FnV.cons {X:Cx} {a:Addr} {r:RCall} {as:List Addr} {rs:List RCall} (k:keepIn X.K (.ref a)=true) (c:CallS X (.ref a) r) (h:FnV X as rs):FnV X (a::as) (r::rs):=⟨⟨k,c⟩,h⟩
def tCV (as:List Addr) (rs:List RCall) (tf:TE) (ta:TA):TE:=fun σ H Q=>tf σ H fun v H0=> ∃(i:Nat) (a:Addr),as[i]?=some a∧v= .ref a∧ta σ H0 fun vs H1=> ∃r:RCall,rs[i]?=some r∧r σ vs H1 Q
theorem pe_callV {X:Cx} {as:List Addr} {rs:List RCall} {x:Str} {p pos:Pos} {e:Expr} {es:List Expr} {tf:TE} {ta:TA} (c:FnV X as rs) (hf:PE X (.Name x p) tf)
    (ha:PA X (e::es) ta) (he:starEach (e::es) X.env=(false,eval e X.env)::starEach es X.env:=by rfl)
    (hpl:(backTo pos (starEach es X.env)).any (·.1)=false:=by rfl):PE X (.Call (.Name x p) (e::es) [] pos) (tCV as rs tf ta):=by
  refine⟨fun pins s σ H Q I h=>wpAny_Call_Name_kw (thn (hf.run pins s σ H _ I h) fun v s0 ⟨u,H0,I0,r0,q0⟩=> ?_)⟩
  obtain⟨i,a,ea,rfl,q0⟩:=q0
  cases (show v=Value.ref a from r0)
  refine callWith_K (h₀:=X.base) I0.ok.mod.kin (c.keep ea) (thn (ha.run pos pins s0 σ H0 _ I0 q0) fun us s1 hh=> ?_) he hpl
  obtain⟨vs,H1,I1,rv,r,er,q⟩:=hh
  exact⟨I1.kIn,(c.get ea er).2 pins s1 σ H1 vs us Q I1 rv q⟩
end PC
namespace TL
open PySem PySem.Spec PyProof.Rows L2 PC
section
variable {K : PySem.W.Frag} {ε : WX} {G : Gm K} {α β γ τ : Type} {S : Store K} {F : Pl} {Z : Pl} {H : Hp}
theorem sim_revS {te:TE} {m:W K Str} (h:Sim ε G te kS m):Sim ε G (tRevS te) kS (bnd m fun z=>wAss (z.length≤50000) (ret (revS z))):=by
  intro S F σ H Q Qp Ep wd s hm hQ hE
  refine h S F σ H _ _ Ep wd s hm (fun z S1 H1 v hz h1 hv=> ?_) hE
  exact⟨z,hv,hz.1,hQ _ S1 H1 _ hz.2 h1 mk_str⟩
theorem sim_lower {te:TE} {m:W K Str} (h:Sim ε G te kS m):Sim ε G (tM0 (fun x xs H Q=> ∃a,x= .str a∧xs= []∧a.length≤5592405∧Q (.str (Txt.lower a)) H) te) kS (bnd m fun z=>wAss (z.length≤50000) (ret (Txt.lower z))):=by
  intro S F σ H Q Qp Ep wd s hm hQ hE
  refine h S F σ H _ _ Ep wd s hm (fun z S1 H1 v hz h1 hv=> ?_) hE
  have ev:v= .str z:=hv
  exact⟨⟨z,ev⟩,z,ev,rfl,Nat.le_trans hz.1 (by decide),hQ _ S1 H1 _ hz.2 h1 mk_str⟩
def kFn (as:List Addr):Nat→Dm K:=fun i=>⟨fun _ _ v=> ∃a,as[i]?=some a∧v= .ref a,fun _ h=>h⟩
theorem sim_fnR {as:List Addr} {a:Addr} {i:Nat} (e:as[i]?=some a):Sim ε G (tC (.ref a)) (kFn as) (ret i):=fun S F σ H Q Qp Ep w s hm hQ _=>hQ _ S H _ hm (.refl w) ⟨a,e,rfl⟩
def wSel (ws:List (τ→W K α)) (i:Nat) (x:τ):W K α:=fun Q E S=> ∃w,ws[i]?=some w∧w x Q E S
def CalV (ε:WX) (δ:τ→List (Dm K)) (r3:α→Dm K):List RCall→List (τ→W K α)→Prop
  | r::rs,w::ws=>CalS ε r δ r3 w∧CalV ε δ r3 rs ws
  | [],[]=>True
  | _,_=>False
theorem CalV.get {δ:τ→List (Dm K)} {r3:α→Dm K}: ∀ {rs:List RCall} {ws:List (τ→W K α)} {i:Nat} {w:τ→W K α},CalV ε δ r3 rs ws→ws[i]?=some w→ ∃r,rs[i]?=some r∧CalS ε r δ r3 w
  | r::rs,w::ws,0,_,h,e=>by cases e;exact⟨r,rfl,h.1⟩
  | r::rs,w::ws,i+1,_,h,e=>CalV.get (i:=i) h.2 e
  | [],[],_,_,_,e=>by simp at e
  | [],_::_,_,_,h,_=>h.elim
  | _::_,[],_,_,h,_=>h.elim
theorem CalV.nil {δ:τ→List (Dm K)} {r3:α→Dm K}:CalV ε δ r3 [] []:=trivial
theorem CalV.cons {δ:τ→List (Dm K)} {r3:α→Dm K} {r:RCall} {w:τ→W K α} {rs:List RCall} {ws:List (τ→W K α)} (c:CalS ε r δ r3 w) (h:CalV ε δ r3 rs ws):CalV ε δ r3 (r::rs) (w::ws):=⟨c,h⟩
theorem sim_callV {as:List Addr} {rs:List RCall} {tf:TE} {ta:TA} {δ:τ→List (Dm K)} {r3:α→Dm K} {ws:List (τ→W K α)} {mf:W K Nat} {ma:W K τ}
    (c:CalV ε δ r3 rs ws) (f:Sim ε G tf (kFn as) mf) (a:SimA ε G ta δ ma):Sim ε G (tCV as rs tf ta) r3 (bnd mf fun i=>bnd ma fun x=>wSel ws i x):=by
  intro S F σ H Q Qp Ep wd s hm hQ hE
  refine f S F σ H _ _ Ep wd s hm (fun i S0 H0 v hi h0 hv=> ?_) hE
  obtain⟨b,eb,rfl⟩:=hv
  refine⟨i,b,eb,rfl,?_⟩
  refine a S0 F σ H0 _ _ Ep h0.wd (s.up h0.stp) hi (fun x S1 H1 vs hx h1 hvs=> ?_) (hE.to h0)
  obtain⟨w,ew,hx⟩:=hx
  obtain⟨r,er,cs⟩:=c.get ew
  exact⟨r,er,cs S1 F σ H1 x vs Q _ Ep h1.wd hvs hx (fun y S' H' v hy h2 hv=>hQ y S' H' v hy ((h0.trans h1).trans h2) hv) ((hE.to h0).to h1)⟩
end
end TL

set_option Elab.async false
set_option linter.all false
set_option maxRecDepth 100000
set_option maxHeartbeats 4000000
namespace PX
open PySem PySem.Spec PyProof.Rows L2 PC TL
local macro_rules | `(tactic| wtm_at "v1") => `(tactic| with_reducible first
  | refine s_seq ?_ | refine s_asg ?_ | refine s_gname ?_ | refine s_ifS ?_ | refine s_ret ?_ | refine s_drop ?_ | refine s_next ?_ | refine s_par ?_
  | refine s_c ?_ | refine s_op ?_ | refine s_un ?_ | refine s_nil ?_ | refine s_cons ?_ | refine s_cb ?_ | refine s_ck ?_
  | refine s_if ?_ | refine s_andV ?_ | refine s_orV ?_ | refine s_notV ?_ | refine s_chain ?_ | refine s_lst ?_ | refine s_tup ?_
  | refine s_slice ?_ | refine s_part ?_ | refine s_noPart ?_ | refine s_test ?_ | refine s_tB ?_ | refine s_not ?_ | refine s_and ?_ | refine s_or ?_ | refine s_retN ?_
  | refine s_rI0 ?_ | refine s_rU ?_ | refine s_add_int ?_ | refine s_eq_int ?_ | refine s_ne_int ?_ | refine s_eq_str ?_ | refine s_ne_str ?_
  | refine s_gcons ?_ | refine s_gnil ?_ | refine s_gsub ?_
  | refine s_yes ?_ | refine s_in_c ?_ | refine s_notIn_c ?_
  | refine s_tlc ?_ | refine s_iStr ?_ | refine s_iList ?_ | refine s_iTup ?_ | refine s_iRng1 ?_ | refine s_iRng2 ?_ | refine s_for ?_
  | refine s_ms ?_ | refine s_mks ?_ | refine s_fld ?_ | refine s_sfld ?_ | refine s_m1 ?_ | refine s_bits ?_ | refine s_cs ?_ | refine s_cks ?_ | refine s_bm ?_ | refine s_bm0 ?_ | refine s_iZip ?_ | refine s_lstRg ?_ | refine s_rg1 ?_ | refine s_rg2 ?_ | refine s_raise ?_ | refine s_xf ?_
  | refine iteT ?_ | refine iteF ?_ | refine ite_nf ?_ | refine ite_nt ?_)
local macro_rules | `(tactic| wtm_at "sc") => `(tactic| first
  | (show (0 : Int) < _; first | decide | omega)
  | exact cmul_r (by decide) (by decide) | exact cmul_l (by decide) (by decide) | exact cmul_r (by omega) (by omega) | exact cmul_l (by omega) (by omega)
  | exact cpow (by decide) (by decide) (by decide) | exact cdw (by decide) (by decide) | exact cdw (by omega) (by omega))
local macro_rules | `(tactic| wtm_at "v2") => `(tactic| first
  | wtm_at "v1"
  | (with_reducible refine s_var (by with_unfolding_all rfl) ?_)
  | ((with_reducible apply s_rI); focus (with_unfolding_all wtm_at "sc"))
  | (with_reducible refine ⟨_, rfl, ?_⟩)
  | (with_reducible refine ⟨⟨_, rfl⟩, ?_⟩)
  | (with_reducible refine ⟨_, _, rfl, ?_⟩))
local macro_rules | `(tactic| wtm_at "v") => `(tactic| repeat wtm_at "v2")
local macro_rules | `(tactic| wtm_at "r") => `(tactic| first
  | exact R.refl _ _
  | assumption
  | exact R.of_same (by assumption)
  | (refine R.trans ?_ (by assumption); wtm_at "r")
  | (refine R.trans ?_ (R.of_same (by assumption)); wtm_at "r"))
local macro_rules | `(tactic| wtm_at "m") => `(tactic| try simp only [↓ret_bnd, ↓bnd_ret, ↓bnd_bnd, ↓raise_bnd, ↓ass_bnd, ↓if_bnd, ↓if_t, ↓if_f, ↓if_not, ↓if_rets, ↓ass_true, ↓calm_ret, ↓calm_bnd, ↓calm_ass, ↓out_rt, ↓out_nx, ↓out_bnd, ↓out_raise, ↓out_ass, ↓out_if, ↓aft_nx, ↓aft_rt, ↓aftT_nx, ↓aftT_rt, ↓seq_bnd, ↓pk_bnd, ↓setF_bnd, ↓setI_bnd, ↓app_bnd, ↓putK_bnd, ↓putT_bnd, ↓rcv_bnd, ↓pk_out, ↓setF_out, ↓setI_out, ↓app_out, ↓putK_out, ↓putT_out, ↓rcv_out, ↓calm_calm, ↓as_int, ↓rcv_tt, ↓some_bnd, ite_true, ite_false, decide_true, decide_false])
local macro_rules | `(tactic| wtm_at "n") => `(tactic| try simp only [↓ret_bnd, ↓bnd_ret, ↓bnd_bnd, ↓raise_bnd, ↓ass_bnd, ↓if_t, ↓if_f, ↓if_not, ↓if_rets, ↓ass_true, ↓calm_ret, ↓calm_bnd, ↓calm_ass, ↓out_rt, ↓out_nx, ↓out_bnd, ↓out_raise, ↓out_ass, ↓aft_nx, ↓aft_rt, ↓aftT_nx, ↓aftT_rt, ↓seq_bnd, ↓pk_bnd, ↓setF_bnd, ↓setI_bnd, ↓app_bnd, ↓putK_bnd, ↓putT_bnd, ↓rcv_bnd, ↓pk_out, ↓setF_out, ↓setI_out, ↓app_out, ↓putK_out, ↓putT_out, ↓rcv_out, ↓calm_calm, ↓as_int, ↓rcv_tt, ↓some_bnd, ite_true, ite_false, decide_true, decide_false])

def topS (i:Nat):Stmt:=PySem.Challenge.pw_paritycells_k92_whole_texts_spoilt.main.body.getD i (.Pass ⟨0,0,0,0⟩)
def clsB:Stmt→List Stmt
  | .ClassDef (body:=b) .. =>b
  | _=> []
def clsS (i j:Nat):Stmt:=(clsB (topS i)).getD j (.Pass ⟨0,0,0,0⟩)
abbrev st__law_pot:Stmt:=topS 39
abbrev N__law_pot:List Str:= ["_law_script","_law_k","_law_number"]
theorem sc__law_pot:FnScope N__law_pot ["_law_script","_law_k"] (defScope st__law_pot):=
  ⟨rfl,rfl,rfl,by decide +kernel,rfl,by decide +kernel,by decide +kernel⟩
abbrev st__law_draw:Stmt:=topS 40
abbrev N__law_draw:List Str:= ["_law_pot_here","_law_many","_law_digit"]
theorem sc__law_draw:FnScope N__law_draw ["_law_pot_here","_law_many"] (defScope st__law_draw):=
  ⟨rfl,rfl,rfl,by decide +kernel,rfl,by decide +kernel,by decide +kernel⟩
abbrev st__law_width:Stmt:=topS 41
abbrev N__law_width:List Str:= ["_law_pot_here","_law_most"]
theorem sc__law_width:FnScope N__law_width ["_law_pot_here","_law_most"] (defScope st__law_width):=
  ⟨rfl,rfl,rfl,by decide +kernel,rfl,by decide +kernel,by decide +kernel⟩
abbrev st__law_spots:Stmt:=topS 42
abbrev N__law_spots:List Str:= ["_law_pot_here","_law_least","_law_width_here","_law_way","_law_spot"]
theorem sc__law_spots:FnScope N__law_spots ["_law_pot_here","_law_least","_law_width_here"] (defScope st__law_spots):=
  ⟨rfl,rfl,rfl,by decide +kernel,rfl,by decide +kernel,by decide +kernel⟩
abbrev st__law_pair:Stmt:=topS 43
abbrev N__law_pair:List Str:= ["_law_pot_here","_law_width_here","_law_tests","_law_hits","_law_both","_law_spot","_law_gone"]
theorem sc__law_pair:FnScope N__law_pair ["_law_pot_here","_law_width_here"] (defScope st__law_pair):=
  ⟨rfl,rfl,rfl,by decide +kernel,rfl,by decide +kernel,by decide +kernel⟩
abbrev st__law_bits_text:Stmt:=topS 47
abbrev N__law_bits_text:List Str:= ["_law_bits_here","_law_bit"]
theorem sc__law_bits_text:FnScope N__law_bits_text ["_law_bits_here"] (defScope st__law_bits_text):=
  ⟨rfl,rfl,rfl,by decide +kernel,rfl,by decide +kernel,by decide +kernel⟩
abbrev st__law_bits:Stmt:=topS 44
abbrev N__law_bits:List Str:= ["_law_pot_here","_law_width_here","_law_spot"]
theorem sc__law_bits:FnScope N__law_bits ["_law_pot_here","_law_width_here"] (defScope st__law_bits):=
  ⟨rfl,rfl,rfl,by decide +kernel,rfl,by decide +kernel,by decide +kernel⟩
abbrev st__law_text_of:Stmt:=topS 45
abbrev N__law_text_of:List Str:= ["_law_spots_here","_law_spot"]
theorem sc__law_text_of:FnScope N__law_text_of ["_law_spots_here"] (defScope st__law_text_of):=
  ⟨rfl,rfl,rfl,by decide +kernel,rfl,by decide +kernel,by decide +kernel⟩
abbrev st__law_pair_text:Stmt:=topS 46
abbrev N__law_pair_text:List Str:= ["_law_pair_here"]
theorem sc__law_pair_text:FnScope N__law_pair_text ["_law_pair_here"] (defScope st__law_pair_text):=
  ⟨rfl,rfl,rfl,by decide +kernel,rfl,by decide +kernel,by decide +kernel⟩
abbrev st__law_bent:Stmt:=topS 55
abbrev N__law_bent:List Str:= ["_law_pot_here","_law_text","_law_at","_law_way","_law_sign","_law_words","_law_spot","_law_more"]
theorem sc__law_bent:FnScope N__law_bent ["_law_pot_here","_law_text"] (defScope st__law_bent):=
  ⟨rfl,rfl,rfl,by decide +kernel,rfl,by decide +kernel,by decide +kernel⟩
abbrev st_is_integer_in:Stmt:=topS 10
abbrev N_is_integer_in:List Str:= ["thing","low","high"]
theorem sc_is_integer_in:FnScope N_is_integer_in ["thing","low","high"] (defScope st_is_integer_in):=
  ⟨rfl,rfl,rfl,by decide +kernel,rfl,by decide +kernel,by decide +kernel⟩
abbrev st_is_cell:Stmt:=topS 11
abbrev N_is_cell:List Str:= ["thing","size"]
theorem sc_is_cell:FnScope N_is_cell ["thing","size"] (defScope st_is_cell):=
  ⟨rfl,rfl,rfl,by decide +kernel,rfl,by decide +kernel,by decide +kernel⟩
abbrev st_cell_tuple:Stmt:=topS 16
abbrev N_cell_tuple:List Str:= ["things","size","one","found","other"]
theorem sc_cell_tuple:FnScope N_cell_tuple ["things","size"] (defScope st_cell_tuple):=
  ⟨rfl,rfl,rfl,by decide +kernel,rfl,by decide +kernel,by decide +kernel⟩
abbrev st_cells_text:Stmt:=topS 31
abbrev N_cells_text:List Str:= ["cells","found","cell"]
theorem sc_cells_text:FnScope N_cells_text ["cells"] (defScope st_cells_text):=
  ⟨rfl,rfl,rfl,by decide +kernel,rfl,by decide +kernel,by decide +kernel⟩
abbrev st_number_in:Stmt:=topS 30
abbrev N_number_in:List Str:= ["word","most","sign"]
theorem sc_number_in:FnScope N_number_in ["word","most"] (defScope st_number_in):=
  ⟨rfl,rfl,rfl,by decide +kernel,rfl,by decide +kernel,by decide +kernel⟩
abbrev st_cells_written:Stmt:=topS 34
abbrev N_cells_written:List Str:= ["text","found","word","cell","one","other"]
theorem sc_cells_written:FnScope N_cells_written ["text"] (defScope st_cells_written):=
  ⟨rfl,rfl,rfl,by decide +kernel,rfl,by decide +kernel,by decide +kernel⟩
abbrev st_read_cells:Stmt:=topS 35
abbrev N_read_cells:List Str:= ["text","found"]
theorem sc_read_cells:FnScope N_read_cells ["text"] (defScope st_read_cells):=
  ⟨rfl,rfl,rfl,by decide +kernel,rfl,by decide +kernel,by decide +kernel⟩
abbrev st_cells_in:Stmt:=topS 14
abbrev N_cells_in:List Str:= ["mask","cell"]
theorem sc_cells_in:FnScope N_cells_in ["mask"] (defScope st_cells_in):=
  ⟨rfl,rfl,rfl,by decide +kernel,rfl,by decide +kernel,by decide +kernel⟩
abbrev st_mask_text:Stmt:=topS 18
abbrev N_mask_text:List Str:= ["mask","cell"]
theorem sc_mask_text:FnScope N_mask_text ["mask"] (defScope st_mask_text):=
  ⟨rfl,rfl,rfl,by decide +kernel,rfl,by decide +kernel,by decide +kernel⟩
abbrev st_Flip____str__:Stmt:=clsS 23 7
abbrev N_Flip____str__:List Str:= ["self"]
theorem sc_Flip____str__:FnScope N_Flip____str__ ["self"] (defScope st_Flip____str__):=
  ⟨rfl,rfl,rfl,by decide +kernel,rfl,by decide +kernel,by decide +kernel⟩
abbrev st_flip_text:Stmt:=topS 32
abbrev N_flip_text:List Str:= ["flip"]
theorem sc_flip_text:FnScope N_flip_text ["flip"] (defScope st_flip_text):=
  ⟨rfl,rfl,rfl,by decide +kernel,rfl,by decide +kernel,by decide +kernel⟩
abbrev st_mask_of:Stmt:=topS 13
abbrev N_mask_of:List Str:= ["cells","cell"]
theorem sc_mask_of:FnScope N_mask_of ["cells"] (defScope st_mask_of):=
  ⟨rfl,rfl,rfl,by decide +kernel,rfl,by decide +kernel,by decide +kernel⟩
abbrev st_cell_mask:Stmt:=topS 17
abbrev N_cell_mask:List Str:= ["things","size"]
theorem sc_cell_mask:FnScope N_cell_mask ["things","size"] (defScope st_cell_mask):=
  ⟨rfl,rfl,rfl,by decide +kernel,rfl,by decide +kernel,by decide +kernel⟩
abbrev st_is_odd:Stmt:=topS 15
abbrev N_is_odd:List Str:= ["mask","rest","found"]
theorem sc_is_odd:FnScope N_is_odd ["mask"] (defScope st_is_odd):=
  ⟨rfl,rfl,rfl,by decide +kernel,rfl,by decide +kernel,by decide +kernel⟩
abbrev st_Flip____init__:Stmt:=clsS 23 0
abbrev N_Flip____init__:List Str:= ["self","tested","toggled"]
theorem sc_Flip____init__:FnScope N_Flip____init__ ["self","tested","toggled"] (defScope st_Flip____init__):=
  ⟨rfl,rfl,rfl,by decide +kernel,rfl,by decide +kernel,by decide +kernel⟩
abbrev st_read_flip:Stmt:=topS 36
abbrev N_read_flip:List Str:= ["text","left","between","right","tested","toggled","e"]
theorem sc_read_flip:FnScope N_read_flip ["text"] (defScope st_read_flip):=
  ⟨rfl,rfl,rfl,by decide +kernel,rfl,by decide +kernel,by decide +kernel⟩
abbrev st_Board____str__:Stmt:=clsS 20 9
abbrev N_Board____str__:List Str:= ["self","cell"]
theorem sc_Board____str__:FnScope N_Board____str__ ["self"] (defScope st_Board____str__):=
  ⟨rfl,rfl,rfl,by decide +kernel,rfl,by decide +kernel,by decide +kernel⟩
abbrev st_board_text:Stmt:=topS 33
abbrev N_board_text:List Str:= ["board"]
theorem sc_board_text:FnScope N_board_text ["board"] (defScope st_board_text):=
  ⟨rfl,rfl,rfl,by decide +kernel,rfl,by decide +kernel,by decide +kernel⟩
abbrev st_require_size:Stmt:=topS 12
abbrev N_require_size:List Str:= ["size"]
theorem sc_require_size:FnScope N_require_size ["size"] (defScope st_require_size):=
  ⟨rfl,rfl,rfl,by decide +kernel,rfl,by decide +kernel,by decide +kernel⟩
abbrev st_Board____init__:Stmt:=clsS 20 0
abbrev N_Board____init__:List Str:= ["self","size","up"]
theorem sc_Board____init__:FnScope N_Board____init__ ["self","size","up"] (defScope st_Board____init__):=
  ⟨rfl,rfl,rfl,by decide +kernel,rfl,by decide +kernel,by decide +kernel⟩
abbrev st_read_board:Stmt:=topS 37
abbrev N_read_board:List Str:= ["text","sign","cell"]
theorem sc_read_board:FnScope N_read_board ["text"] (defScope st_read_board):=
  ⟨rfl,rfl,rfl,by decide +kernel,rfl,by decide +kernel,by decide +kernel⟩
abbrev st__law_read:Stmt:=topS 52
abbrev N__law_read:List Str:= ["_law_door","_law_text"]
theorem sc__law_read:FnScope N__law_read ["_law_door","_law_text"] (defScope st__law_read):=
  ⟨rfl,rfl,rfl,by decide +kernel,rfl,by decide +kernel,by decide +kernel⟩
abbrev st__law_told:Stmt:=topS 53
abbrev N__law_told:List Str:= ["_law_door","_law_text","_law_told_here","e","_law_others"]
theorem sc__law_told:FnScope N__law_told ["_law_door","_law_text"] (defScope st__law_told):=
  ⟨rfl,rfl,rfl,by decide +kernel,rfl,by decide +kernel,by decide +kernel⟩
abbrev st__law_is_board:Stmt:=topS 51
abbrev N__law_is_board:List Str:= ["_law_text","_law_sign"]
theorem sc__law_is_board:FnScope N__law_is_board ["_law_text"] (defScope st__law_is_board):=
  ⟨rfl,rfl,rfl,by decide +kernel,rfl,by decide +kernel,by decide +kernel⟩
abbrev st__law_are_cells:Stmt:=topS 48
abbrev N__law_are_cells:List Str:= ["_law_text","_law_ahead","_law_word","_law_sign"]
theorem sc__law_are_cells:FnScope N__law_are_cells ["_law_text"] (defScope st__law_are_cells):=
  ⟨rfl,rfl,rfl,by decide +kernel,rfl,by decide +kernel,by decide +kernel⟩
abbrev st__law_own_spots:Stmt:=topS 49
abbrev N__law_own_spots:List Str:= ["_law_text","_law_word"]
theorem sc__law_own_spots:FnScope N__law_own_spots ["_law_text"] (defScope st__law_own_spots):=
  ⟨rfl,rfl,rfl,by decide +kernel,rfl,by decide +kernel,by decide +kernel⟩
abbrev st__law_is_flip:Stmt:=topS 50
abbrev N__law_is_flip:List Str:= ["_law_text","_law_parts","_law_tests","_law_hits","_law_spot"]
theorem sc__law_is_flip:FnScope N__law_is_flip ["_law_text"] (defScope st__law_is_flip):=
  ⟨rfl,rfl,rfl,by decide +kernel,rfl,by decide +kernel,by decide +kernel⟩
abbrev st__law_due:Stmt:=topS 54
abbrev N__law_due:List Str:= ["_law_door","_law_text","_law_are","_law_is_so"]
theorem sc__law_due:FnScope N__law_due ["_law_door","_law_text"] (defScope st__law_due):=
  ⟨rfl,rfl,rfl,by decide +kernel,rfl,by decide +kernel,by decide +kernel⟩
abbrev st_law:Stmt:=topS 56
abbrev N_law:List Str:= ["_law_script","_law_k","_law_pot_here","_law_turn","_law_odd","_law_width_here","_law_text","_law_change","_law_door","_law_pair_here"]
theorem sc_law:FnScope N_law ["_law_script"] (defScope st_law):=
  ⟨rfl,rfl,rfl,by decide +kernel,rfl,by decide +kernel,by decide +kernel⟩
abbrev st_NoSize:Stmt:=clsS 4 0
theorem d_NoSize:ErDef st_NoSize "NoSize.__init__" "CellError" "value" [] where
  bind:=fun _ _ _ _ _ _ us h=>match us,h with | [_,_],_=>rfl
  co:=rfl
  gen:=rfl
  kind:=rfl
  loc:=by decide +kernel
  glo:=rfl
  nd:=by decide +kernel
  few:=by decide
  ndb:=by decide +kernel
  hi:=fun _ _ _=>rfl
  body:=⟨_,_,_,_,_,_,_,_,(_,_,_,_),[],_,rfl,by refine⟨?_,rfl⟩;exact fun _ _ _=>rfl⟩
abbrev st_NoCells:Stmt:=clsS 5 0
theorem d_NoCells:ErDef st_NoCells "NoCells.__init__" "CellError" "cells" [] where
  bind:=fun _ _ _ _ _ _ us h=>match us,h with | [_,_],_=>rfl
  co:=rfl
  gen:=rfl
  kind:=rfl
  loc:=by decide +kernel
  glo:=rfl
  nd:=by decide +kernel
  few:=by decide
  ndb:=by decide +kernel
  hi:=fun _ _ _=>rfl
  body:=⟨_,_,_,_,_,_,_,_,(_,_,_,_),[],_,rfl,by refine⟨?_,rfl⟩;exact fun _ _ _=>rfl⟩
abbrev st_NoFlip:Stmt:=clsS 6 0
theorem d_NoFlip:ErDef st_NoFlip "NoFlip.__init__" "CellError" "why" [] where
  bind:=fun _ _ _ _ _ _ us h=>match us,h with | [_,_],_=>rfl
  co:=rfl
  gen:=rfl
  kind:=rfl
  loc:=by decide +kernel
  glo:=rfl
  nd:=by decide +kernel
  few:=by decide
  ndb:=by decide +kernel
  hi:=fun _ _ _=>rfl
  body:=⟨_,_,_,_,_,_,_,_,(_,_,_,_),[],_,rfl,by refine⟨?_,rfl⟩;exact fun _ _ _=>rfl⟩
abbrev st_NoText:Stmt:=clsS 7 0
theorem d_NoText:ErDef st_NoText "NoText.__init__" "CellError" "line" [] where
  bind:=fun _ _ _ _ _ _ us h=>match us,h with | [_,_],_=>rfl
  co:=rfl
  gen:=rfl
  kind:=rfl
  loc:=by decide +kernel
  glo:=rfl
  nd:=by decide +kernel
  few:=by decide
  ndb:=by decide +kernel
  hi:=fun _ _ _=>rfl
  body:=⟨_,_,_,_,_,_,_,_,(_,_,_,_),[],_,rfl,by refine⟨?_,rfl⟩;exact fun _ _ _=>rfl⟩
structure Cl where
  CellError:Addr
  LimitError:Addr
  NoSize:Addr
  NoCells:Addr
  NoFlip:Addr
  NoText:Addr
  Board:Addr
  Flip:Addr
  d_Board____init___up:Addr
structure Tx (K:PySem.W.Frag) (mg:Str→Option Value) (cl:Cl) where
  a__law_pot:Addr
  fd__law_pot:FuncData
  F__law_pot:Fun K "_law_pot" "_law_pot" st__law_pot a__law_pot fd__law_pot
  g__law_pot:mg "_law_pot" =some (.ref a__law_pot)
  a__law_draw:Addr
  fd__law_draw:FuncData
  F__law_draw:Fun K "_law_draw" "_law_draw" st__law_draw a__law_draw fd__law_draw
  g__law_draw:mg "_law_draw" =some (.ref a__law_draw)
  a__law_width:Addr
  fd__law_width:FuncData
  F__law_width:Fun K "_law_width" "_law_width" st__law_width a__law_width fd__law_width
  g__law_width:mg "_law_width" =some (.ref a__law_width)
  a__law_spots:Addr
  fd__law_spots:FuncData
  F__law_spots:Fun K "_law_spots" "_law_spots" st__law_spots a__law_spots fd__law_spots
  g__law_spots:mg "_law_spots" =some (.ref a__law_spots)
  a__law_pair:Addr
  fd__law_pair:FuncData
  F__law_pair:Fun K "_law_pair" "_law_pair" st__law_pair a__law_pair fd__law_pair
  g__law_pair:mg "_law_pair" =some (.ref a__law_pair)
  a__law_bits_text:Addr
  fd__law_bits_text:FuncData
  F__law_bits_text:Fun K "_law_bits_text" "_law_bits_text" st__law_bits_text a__law_bits_text fd__law_bits_text
  g__law_bits_text:mg "_law_bits_text" =some (.ref a__law_bits_text)
  a__law_bits:Addr
  fd__law_bits:FuncData
  F__law_bits:Fun K "_law_bits" "_law_bits" st__law_bits a__law_bits fd__law_bits
  g__law_bits:mg "_law_bits" =some (.ref a__law_bits)
  a__law_text_of:Addr
  fd__law_text_of:FuncData
  F__law_text_of:Fun K "_law_text_of" "_law_text_of" st__law_text_of a__law_text_of fd__law_text_of
  g__law_text_of:mg "_law_text_of" =some (.ref a__law_text_of)
  a__law_pair_text:Addr
  fd__law_pair_text:FuncData
  F__law_pair_text:Fun K "_law_pair_text" "_law_pair_text" st__law_pair_text a__law_pair_text fd__law_pair_text
  g__law_pair_text:mg "_law_pair_text" =some (.ref a__law_pair_text)
  a__law_bent:Addr
  fd__law_bent:FuncData
  F__law_bent:Fun K "_law_bent" "_law_bent" st__law_bent a__law_bent fd__law_bent
  g__law_bent:mg "_law_bent" =some (.ref a__law_bent)
  a_is_integer_in:Addr
  fd_is_integer_in:FuncData
  F_is_integer_in:Fun K "is_integer_in" "is_integer_in" st_is_integer_in a_is_integer_in fd_is_integer_in
  g_is_integer_in:mg "is_integer_in" =some (.ref a_is_integer_in)
  a_is_cell:Addr
  fd_is_cell:FuncData
  F_is_cell:Fun K "is_cell" "is_cell" st_is_cell a_is_cell fd_is_cell
  g_is_cell:mg "is_cell" =some (.ref a_is_cell)
  D_is_cell:FunD K "is_cell" "is_cell" (defArgs st_is_cell) (defBody st_is_cell) (defScope st_is_cell) [] [("size",V.int 40)] a_is_cell fd_is_cell
  a_cell_tuple:Addr
  fd_cell_tuple:FuncData
  F_cell_tuple:Fun K "cell_tuple" "cell_tuple" st_cell_tuple a_cell_tuple fd_cell_tuple
  g_cell_tuple:mg "cell_tuple" =some (.ref a_cell_tuple)
  D_cell_tuple:FunD K "cell_tuple" "cell_tuple" (defArgs st_cell_tuple) (defBody st_cell_tuple) (defScope st_cell_tuple) [] [("size",V.int 40)] a_cell_tuple fd_cell_tuple
  a_cells_text:Addr
  fd_cells_text:FuncData
  F_cells_text:Fun K "cells_text" "cells_text" st_cells_text a_cells_text fd_cells_text
  g_cells_text:mg "cells_text" =some (.ref a_cells_text)
  a_number_in:Addr
  fd_number_in:FuncData
  F_number_in:FunP K "number_in" "number_in" st_number_in a_number_in fd_number_in
  D_number_in:FunD K "number_in" "number_in" (defArgs st_number_in) (defBody st_number_in) (defScope st_number_in) [V.int 30] [] a_number_in fd_number_in
  g_number_in:mg "number_in" =some (.ref a_number_in)
  a_cells_written:Addr
  fd_cells_written:FuncData
  F_cells_written:Fun K "cells_written" "cells_written" st_cells_written a_cells_written fd_cells_written
  g_cells_written:mg "cells_written" =some (.ref a_cells_written)
  a_read_cells:Addr
  fd_read_cells:FuncData
  F_read_cells:Fun K "read_cells" "read_cells" st_read_cells a_read_cells fd_read_cells
  g_read_cells:mg "read_cells" =some (.ref a_read_cells)
  a_cells_in:Addr
  fd_cells_in:FuncData
  F_cells_in:Fun K "cells_in" "cells_in" st_cells_in a_cells_in fd_cells_in
  g_cells_in:mg "cells_in" =some (.ref a_cells_in)
  a_mask_text:Addr
  fd_mask_text:FuncData
  F_mask_text:Fun K "mask_text" "mask_text" st_mask_text a_mask_text fd_mask_text
  g_mask_text:mg "mask_text" =some (.ref a_mask_text)
  a_Flip____str__:Addr
  fd_Flip____str__:FuncData
  F_Flip____str__:Fun K "__str__" "Flip.__str__" st_Flip____str__ a_Flip____str__ fd_Flip____str__
  m_Flip____str__:Meth K cl.Flip "__str__" a_Flip____str__
  a_flip_text:Addr
  fd_flip_text:FuncData
  F_flip_text:Fun K "flip_text" "flip_text" st_flip_text a_flip_text fd_flip_text
  g_flip_text:mg "flip_text" =some (.ref a_flip_text)
  a_mask_of:Addr
  fd_mask_of:FuncData
  F_mask_of:Fun K "mask_of" "mask_of" st_mask_of a_mask_of fd_mask_of
  g_mask_of:mg "mask_of" =some (.ref a_mask_of)
  a_cell_mask:Addr
  fd_cell_mask:FuncData
  F_cell_mask:Fun K "cell_mask" "cell_mask" st_cell_mask a_cell_mask fd_cell_mask
  g_cell_mask:mg "cell_mask" =some (.ref a_cell_mask)
  a_is_odd:Addr
  fd_is_odd:FuncData
  F_is_odd:Fun K "is_odd" "is_odd" st_is_odd a_is_odd fd_is_odd
  g_is_odd:mg "is_odd" =some (.ref a_is_odd)
  a_Flip____init__:Addr
  fd_Flip____init__:FuncData
  F_Flip____init__:Fun K "__init__" "Flip.__init__" st_Flip____init__ a_Flip____init__ fd_Flip____init__
  mk_Flip:Mk K cl.Flip a_Flip____init__
  a_read_flip:Addr
  fd_read_flip:FuncData
  F_read_flip:Fun K "read_flip" "read_flip" st_read_flip a_read_flip fd_read_flip
  g_read_flip:mg "read_flip" =some (.ref a_read_flip)
  a_Board____str__:Addr
  fd_Board____str__:FuncData
  F_Board____str__:Fun K "__str__" "Board.__str__" st_Board____str__ a_Board____str__ fd_Board____str__
  m_Board____str__:Meth K cl.Board "__str__" a_Board____str__
  a_board_text:Addr
  fd_board_text:FuncData
  F_board_text:Fun K "board_text" "board_text" st_board_text a_board_text fd_board_text
  g_board_text:mg "board_text" =some (.ref a_board_text)
  a_require_size:Addr
  fd_require_size:FuncData
  F_require_size:Fun K "require_size" "require_size" st_require_size a_require_size fd_require_size
  g_require_size:mg "require_size" =some (.ref a_require_size)
  a_Board____init__:Addr
  fd_Board____init__:FuncData
  F_Board____init__:Fun K "__init__" "Board.__init__" st_Board____init__ a_Board____init__ fd_Board____init__
  mk_Board:Mk K cl.Board a_Board____init__
  D_Board____init__:FunD K "__init__" "Board.__init__" (defArgs st_Board____init__) (defBody st_Board____init__) (defScope st_Board____init__) [] [("up",V.ref cl.d_Board____init___up)] a_Board____init__ fd_Board____init__
  dt_Board____init___up:SqT K (fun _=>none) cl.d_Board____init___up []
  a_read_board:Addr
  fd_read_board:FuncData
  F_read_board:Fun K "read_board" "read_board" st_read_board a_read_board fd_read_board
  g_read_board:mg "read_board" =some (.ref a_read_board)
  a__law_read:Addr
  fd__law_read:FuncData
  F__law_read:Fun K "_law_read" "_law_read" st__law_read a__law_read fd__law_read
  g__law_read:mg "_law_read" =some (.ref a__law_read)
  a__law_told:Addr
  fd__law_told:FuncData
  F__law_told:Fun K "_law_told" "_law_told" st__law_told a__law_told fd__law_told
  g__law_told:mg "_law_told" =some (.ref a__law_told)
  a__law_is_board:Addr
  fd__law_is_board:FuncData
  F__law_is_board:Fun K "_law_is_board" "_law_is_board" st__law_is_board a__law_is_board fd__law_is_board
  g__law_is_board:mg "_law_is_board" =some (.ref a__law_is_board)
  a__law_are_cells:Addr
  fd__law_are_cells:FuncData
  F__law_are_cells:Fun K "_law_are_cells" "_law_are_cells" st__law_are_cells a__law_are_cells fd__law_are_cells
  g__law_are_cells:mg "_law_are_cells" =some (.ref a__law_are_cells)
  a__law_own_spots:Addr
  fd__law_own_spots:FuncData
  F__law_own_spots:Fun K "_law_own_spots" "_law_own_spots" st__law_own_spots a__law_own_spots fd__law_own_spots
  g__law_own_spots:mg "_law_own_spots" =some (.ref a__law_own_spots)
  a__law_is_flip:Addr
  fd__law_is_flip:FuncData
  F__law_is_flip:Fun K "_law_is_flip" "_law_is_flip" st__law_is_flip a__law_is_flip fd__law_is_flip
  g__law_is_flip:mg "_law_is_flip" =some (.ref a__law_is_flip)
  a__law_due:Addr
  fd__law_due:FuncData
  F__law_due:Fun K "_law_due" "_law_due" st__law_due a__law_due fd__law_due
  g__law_due:mg "_law_due" =some (.ref a__law_due)
  a_law:Addr
  fd_law:FuncData
  F_law:Fun K "law" "law" st_law a_law fd_law
  g_law:mg "law" =some (.ref a_law)
  g_CellError:mg "CellError" =some (.ref cl.CellError)
  q_CellError:ErrQ K cl.CellError
  g_LimitError:mg "LimitError" =some (.ref cl.LimitError)
  q_LimitError:ErrQ K cl.LimitError
  f_NoSize:Addr
  e_NoSize:ErrT K mg "NoSize" "CellError" "ValueError" "ValueError.__new__" "ValueError.__init__" [.type "ValueError",.type "Exception",.type "BaseException",.type "object"] "value" [] cl.NoSize cl.CellError f_NoSize st_NoSize
  q_NoSize:ErrQ K cl.NoSize
  f_NoCells:Addr
  e_NoCells:ErrT K mg "NoCells" "CellError" "ValueError" "ValueError.__new__" "ValueError.__init__" [.type "ValueError",.type "Exception",.type "BaseException",.type "object"] "cells" [] cl.NoCells cl.CellError f_NoCells st_NoCells
  q_NoCells:ErrQ K cl.NoCells
  f_NoFlip:Addr
  e_NoFlip:ErrT K mg "NoFlip" "CellError" "ValueError" "ValueError.__new__" "ValueError.__init__" [.type "ValueError",.type "Exception",.type "BaseException",.type "object"] "why" [] cl.NoFlip cl.CellError f_NoFlip st_NoFlip
  q_NoFlip:ErrQ K cl.NoFlip
  f_NoText:Addr
  e_NoText:ErrT K mg "NoText" "CellError" "ValueError" "ValueError.__new__" "ValueError.__init__" [.type "ValueError",.type "Exception",.type "BaseException",.type "object"] "line" [] cl.NoText cl.CellError f_NoText st_NoText
  q_NoText:ErrQ K cl.NoText
  cq:ClsQ K
  gc_Board:mg "Board" =some (.ref cl.Board)
  cls_Board:Cls K cl.Board
  ty_Board:InstT K cl.Board
  no_Board_own_size:NoAttr K cl.Board "own_size"
  no_Board_up_mask:NoAttr K cl.Board "up_mask"
  gc_Flip:mg "Flip" =some (.ref cl.Flip)
  cls_Flip:Cls K cl.Flip
  ty_Flip:InstT K cl.Flip
  no_Flip_test_mask:NoAttr K cl.Flip "test_mask"
  no_Flip_toggle_mask:NoAttr K cl.Flip "toggle_mask"
  s_NoSize_CellError:PySem.W.subIn K (.ref cl.NoSize) (.ref cl.CellError)=some true
  s_NoSize_LimitError:PySem.W.subIn K (.ref cl.NoSize) (.ref cl.LimitError)=some false
  s_NoSize_NoCells:PySem.W.subIn K (.ref cl.NoSize) (.ref cl.NoCells)=some false
  s_NoSize_NoFlip:PySem.W.subIn K (.ref cl.NoSize) (.ref cl.NoFlip)=some false
  s_NoSize_NoSize:PySem.W.subIn K (.ref cl.NoSize) (.ref cl.NoSize)=some true
  s_NoSize_NoText:PySem.W.subIn K (.ref cl.NoSize) (.ref cl.NoText)=some false
  s_NoSize_ValueError:PySem.W.subIn K (.ref cl.NoSize) (.type "ValueError")=some true
  s_NoCells_CellError:PySem.W.subIn K (.ref cl.NoCells) (.ref cl.CellError)=some true
  s_NoCells_LimitError:PySem.W.subIn K (.ref cl.NoCells) (.ref cl.LimitError)=some false
  s_NoCells_NoCells:PySem.W.subIn K (.ref cl.NoCells) (.ref cl.NoCells)=some true
  s_NoCells_NoFlip:PySem.W.subIn K (.ref cl.NoCells) (.ref cl.NoFlip)=some false
  s_NoCells_NoSize:PySem.W.subIn K (.ref cl.NoCells) (.ref cl.NoSize)=some false
  s_NoCells_NoText:PySem.W.subIn K (.ref cl.NoCells) (.ref cl.NoText)=some false
  s_NoCells_ValueError:PySem.W.subIn K (.ref cl.NoCells) (.type "ValueError")=some true
  s_NoFlip_CellError:PySem.W.subIn K (.ref cl.NoFlip) (.ref cl.CellError)=some true
  s_NoFlip_LimitError:PySem.W.subIn K (.ref cl.NoFlip) (.ref cl.LimitError)=some false
  s_NoFlip_NoCells:PySem.W.subIn K (.ref cl.NoFlip) (.ref cl.NoCells)=some false
  s_NoFlip_NoFlip:PySem.W.subIn K (.ref cl.NoFlip) (.ref cl.NoFlip)=some true
  s_NoFlip_NoSize:PySem.W.subIn K (.ref cl.NoFlip) (.ref cl.NoSize)=some false
  s_NoFlip_NoText:PySem.W.subIn K (.ref cl.NoFlip) (.ref cl.NoText)=some false
  s_NoFlip_ValueError:PySem.W.subIn K (.ref cl.NoFlip) (.type "ValueError")=some true
  s_NoText_CellError:PySem.W.subIn K (.ref cl.NoText) (.ref cl.CellError)=some true
  s_NoText_LimitError:PySem.W.subIn K (.ref cl.NoText) (.ref cl.LimitError)=some false
  s_NoText_NoCells:PySem.W.subIn K (.ref cl.NoText) (.ref cl.NoCells)=some false
  s_NoText_NoFlip:PySem.W.subIn K (.ref cl.NoText) (.ref cl.NoFlip)=some false
  s_NoText_NoSize:PySem.W.subIn K (.ref cl.NoText) (.ref cl.NoSize)=some false
  s_NoText_NoText:PySem.W.subIn K (.ref cl.NoText) (.ref cl.NoText)=some true
  s_NoText_ValueError:PySem.W.subIn K (.ref cl.NoText) (.type "ValueError")=some true
  z_ValueError:mg "ValueError" =none
  z_abs:mg "abs" =none
  z_all:mg "all" =none
  z_bool:mg "bool" =none
  z_divmod:mg "divmod" =none
  z_enumerate:mg "enumerate" =none
  z_int:mg "int" =none
  z_isinstance:mg "isinstance" =none
  z_len:mg "len" =none
  z_list:mg "list" =none
  z_max:mg "max" =none
  z_min:mg "min" =none
  z_range:mg "range" =none
  z_sorted:mg "sorted" =none
  z_str:mg "str" =none
  z_sum:mg "sum" =none
  z_tuple:mg "tuple" =none
  z_zip:mg "zip" =none
  t_BEFORE_TOGGLED:Tok
  c_BEFORE_TOGGLED:mg "BEFORE_TOGGLED" =some (.str ">" t_BEFORE_TOGGLED)
  t_BETWEEN:Tok
  c_BETWEEN:mg "BETWEEN" =some (.str "," t_BETWEEN)
  t_DIGITS:Tok
  c_DIGITS:mg "DIGITS" =some (.str "0123456789" t_DIGITS)
  t_MOST_CELLS:Tok
  c_MOST_CELLS:mg "MOST_CELLS" =some (.int 40 t_MOST_CELLS)
  t_NO_CELLS:Tok
  c_NO_CELLS:mg "NO_CELLS" =some (.str "-" t_NO_CELLS)
section
variable {P : Program} {w : World} {K : PySem.W.Frag} {mg : Str → Option Value} {base : Heap} {cl : Cl}
theorem b__law_pot (T:Tx K mg cl):Binds K T.fd__law_pot ["_law_script","_law_k"] []:=T.F__law_pot.binds fun _ _ _ _ _ _ us hl=>match us,hl with | [_,_],_=>rfl
theorem b__law_draw (T:Tx K mg cl):Binds K T.fd__law_draw ["_law_pot_here","_law_many"] []:=T.F__law_draw.binds fun _ _ _ _ _ _ us hl=>match us,hl with | [_,_],_=>rfl
theorem b__law_width (T:Tx K mg cl):Binds K T.fd__law_width ["_law_pot_here","_law_most"] []:=T.F__law_width.binds fun _ _ _ _ _ _ us hl=>match us,hl with | [_,_],_=>rfl
theorem b__law_spots (T:Tx K mg cl):Binds K T.fd__law_spots ["_law_pot_here","_law_least","_law_width_here"] []:=T.F__law_spots.binds fun _ _ _ _ _ _ us hl=>match us,hl with | [_,_,_],_=>rfl
theorem b__law_pair (T:Tx K mg cl):Binds K T.fd__law_pair ["_law_pot_here","_law_width_here"] []:=T.F__law_pair.binds fun _ _ _ _ _ _ us hl=>match us,hl with | [_,_],_=>rfl
theorem b__law_bits_text (T:Tx K mg cl):Binds K T.fd__law_bits_text ["_law_bits_here"] []:=T.F__law_bits_text.binds fun _ _ _ _ _ _ us hl=>match us,hl with | [_],_=>rfl
theorem b__law_bits (T:Tx K mg cl):Binds K T.fd__law_bits ["_law_pot_here","_law_width_here"] []:=T.F__law_bits.binds fun _ _ _ _ _ _ us hl=>match us,hl with | [_,_],_=>rfl
theorem b__law_text_of (T:Tx K mg cl):Binds K T.fd__law_text_of ["_law_spots_here"] []:=T.F__law_text_of.binds fun _ _ _ _ _ _ us hl=>match us,hl with | [_],_=>rfl
theorem b__law_pair_text (T:Tx K mg cl):Binds K T.fd__law_pair_text ["_law_pair_here"] []:=T.F__law_pair_text.binds fun _ _ _ _ _ _ us hl=>match us,hl with | [_],_=>rfl
theorem b__law_bent (T:Tx K mg cl):Binds K T.fd__law_bent ["_law_pot_here","_law_text"] []:=T.F__law_bent.binds fun _ _ _ _ _ _ us hl=>match us,hl with | [_,_],_=>rfl
theorem b_is_integer_in (T:Tx K mg cl):Binds K T.fd_is_integer_in ["thing","low","high"] []:=T.F_is_integer_in.binds fun _ _ _ _ _ _ us hl=>match us,hl with | [_,_,_],_=>rfl
theorem b_cell_tuple (T:Tx K mg cl): ∃ds,Vals ([("size",V.int 40)].map (·.2)) ds∧Binds K T.fd_cell_tuple ["things","size"] ds:=
  T.D_cell_tuple.binds0 1 (by simp) rfl fun D doc pm an cdv ct us ks h1 h2=>match us,ks,h1,h2 with | [_],[_],_,_=>⟨_,_,_,_,_,_,rfl,rfl,rfl⟩
theorem b_cells_text (T:Tx K mg cl):Binds K T.fd_cells_text ["cells"] []:=T.F_cells_text.binds fun _ _ _ _ _ _ us hl=>match us,hl with | [_],_=>rfl
theorem b_number_in (T:Tx K mg cl): ∃ds,Vals (([V.int 30]:List V).drop 0) ds∧Binds K T.fd_number_in ["word","most"] ds:=
  T.D_number_in.binds1 1 0 (by simp) rfl fun T kV doc pm an cdv ct us its h1 h2=>match us,its,h1,h2 with | [_],[_],_,_=>⟨_,rfl,rfl⟩
theorem b_cells_written (T:Tx K mg cl):Binds K T.fd_cells_written ["text"] []:=T.F_cells_written.binds fun _ _ _ _ _ _ us hl=>match us,hl with | [_],_=>rfl
theorem b_read_cells (T:Tx K mg cl):Binds K T.fd_read_cells ["text"] []:=T.F_read_cells.binds fun _ _ _ _ _ _ us hl=>match us,hl with | [_],_=>rfl
theorem b_cells_in (T:Tx K mg cl):Binds K T.fd_cells_in ["mask"] []:=T.F_cells_in.binds fun _ _ _ _ _ _ us hl=>match us,hl with | [_],_=>rfl
theorem b_mask_text (T:Tx K mg cl):Binds K T.fd_mask_text ["mask"] []:=T.F_mask_text.binds fun _ _ _ _ _ _ us hl=>match us,hl with | [_],_=>rfl
theorem b_Flip____str__ (T:Tx K mg cl):Binds K T.fd_Flip____str__ ["self"] []:=T.F_Flip____str__.binds fun _ _ _ _ _ _ us hl=>match us,hl with | [_],_=>rfl
theorem b_flip_text (T:Tx K mg cl):Binds K T.fd_flip_text ["flip"] []:=T.F_flip_text.binds fun _ _ _ _ _ _ us hl=>match us,hl with | [_],_=>rfl
theorem b_mask_of (T:Tx K mg cl):Binds K T.fd_mask_of ["cells"] []:=T.F_mask_of.binds fun _ _ _ _ _ _ us hl=>match us,hl with | [_],_=>rfl
theorem b_cell_mask (T:Tx K mg cl):Binds K T.fd_cell_mask ["things","size"] []:=T.F_cell_mask.binds fun _ _ _ _ _ _ us hl=>match us,hl with | [_,_],_=>rfl
theorem b_is_odd (T:Tx K mg cl):Binds K T.fd_is_odd ["mask"] []:=T.F_is_odd.binds fun _ _ _ _ _ _ us hl=>match us,hl with | [_],_=>rfl
theorem b_Flip____init__ (T:Tx K mg cl):Binds K T.fd_Flip____init__ ["self","tested","toggled"] []:=T.F_Flip____init__.binds fun _ _ _ _ _ _ us hl=>match us,hl with | [_,_,_],_=>rfl
theorem b_read_flip (T:Tx K mg cl):Binds K T.fd_read_flip ["text"] []:=T.F_read_flip.binds fun _ _ _ _ _ _ us hl=>match us,hl with | [_],_=>rfl
theorem b_Board____str__ (T:Tx K mg cl):Binds K T.fd_Board____str__ ["self"] []:=T.F_Board____str__.binds fun _ _ _ _ _ _ us hl=>match us,hl with | [_],_=>rfl
theorem b_board_text (T:Tx K mg cl):Binds K T.fd_board_text ["board"] []:=T.F_board_text.binds fun _ _ _ _ _ _ us hl=>match us,hl with | [_],_=>rfl
theorem b_require_size (T:Tx K mg cl):Binds K T.fd_require_size ["size"] []:=T.F_require_size.binds fun _ _ _ _ _ _ us hl=>match us,hl with | [_],_=>rfl
theorem b_read_board (T:Tx K mg cl):Binds K T.fd_read_board ["text"] []:=T.F_read_board.binds fun _ _ _ _ _ _ us hl=>match us,hl with | [_],_=>rfl
theorem b__law_read (T:Tx K mg cl):Binds K T.fd__law_read ["_law_door","_law_text"] []:=T.F__law_read.binds fun _ _ _ _ _ _ us hl=>match us,hl with | [_,_],_=>rfl
theorem b__law_told (T:Tx K mg cl):Binds K T.fd__law_told ["_law_door","_law_text"] []:=T.F__law_told.binds fun _ _ _ _ _ _ us hl=>match us,hl with | [_,_],_=>rfl
theorem b__law_is_board (T:Tx K mg cl):Binds K T.fd__law_is_board ["_law_text"] []:=T.F__law_is_board.binds fun _ _ _ _ _ _ us hl=>match us,hl with | [_],_=>rfl
theorem b__law_are_cells (T:Tx K mg cl):Binds K T.fd__law_are_cells ["_law_text"] []:=T.F__law_are_cells.binds fun _ _ _ _ _ _ us hl=>match us,hl with | [_],_=>rfl
theorem b__law_own_spots (T:Tx K mg cl):Binds K T.fd__law_own_spots ["_law_text"] []:=T.F__law_own_spots.binds fun _ _ _ _ _ _ us hl=>match us,hl with | [_],_=>rfl
theorem b__law_is_flip (T:Tx K mg cl):Binds K T.fd__law_is_flip ["_law_text"] []:=T.F__law_is_flip.binds fun _ _ _ _ _ _ us hl=>match us,hl with | [_],_=>rfl
theorem b__law_due (T:Tx K mg cl):Binds K T.fd__law_due ["_law_door","_law_text"] []:=T.F__law_due.binds fun _ _ _ _ _ _ us hl=>match us,hl with | [_,_],_=>rfl
theorem kb_Board____init____2_up (T:Tx K mg cl):KBinds K T.fd_Board____init__ ["self","size","up"] ["up"] (kwg 2 1 [0,1,2]) (kwg 2 1 [0,1,2]):=
  kb_of T.F_Board____init__ (by decide) fun _ _ _ _ _ _ us ws h1 h2=>match us,ws,h1,h2 with | [_,_],[_],_,_=>rfl
theorem kb_cell_tuple__1_size (T:Tx K mg cl):KBinds K T.fd_cell_tuple ["things","size"] ["size"] (kwg 1 1 [0,1]) (kwg 1 1 [0,1]):=
  kb_of T.F_cell_tuple (by decide) fun _ _ _ _ _ _ us ws h1 h2=>match us,ws,h1,h2 with | [_],[_],_,_=>rfl
theorem kb_is_cell__1_size (T:Tx K mg cl):KBinds K T.fd_is_cell ["thing","size"] ["size"] (kwg 1 1 [0,1]) (kwg 1 1 [0,1]):=
  kb_of T.F_is_cell (by decide) fun _ _ _ _ _ _ us ws h1 h2=>match us,ws,h1,h2 with | [_],[_],_,_=>rfl
def fs_Board (K:PySem.W.Frag) (cl:Cl):(Nat×Nat)→List (Str×Dm K):=fun x=> [("own_size",kI ((x.1:Int))),("up_mask",kI ((x.2:Int)))]
def k_Board (K:PySem.W.Frag) (cl:Cl):(Nat×Nat)→Dm K:=fun x=>dI cl.Board (fs_Board K cl x)
theorem fl_Board_own_size {x:(Nat×Nat)}:(fs_Board K cl x).lookup ("own_size" :Str)=some (kI ((x.1:Int))):=by rfl
theorem fl_Board_up_mask {x:(Nat×Nat)}:(fs_Board K cl x).lookup ("up_mask" :Str)=some (kI ((x.2:Int))):=by rfl
def fs_Flip (K:PySem.W.Frag) (cl:Cl):(Nat×Nat)→List (Str×Dm K):=fun x=> [("test_mask",kI ((x.1:Int))),("toggle_mask",kI ((x.2:Int)))]
def k_Flip (K:PySem.W.Frag) (cl:Cl):(Nat×Nat)→Dm K:=fun x=>dI cl.Flip (fs_Flip K cl x)
theorem fl_Flip_test_mask {x:(Nat×Nat)}:(fs_Flip K cl x).lookup ("test_mask" :Str)=some (kI ((x.1:Int))):=by rfl
theorem fl_Flip_toggle_mask {x:(Nat×Nat)}:(fs_Flip K cl x).lookup ("toggle_mask" :Str)=some (kI ((x.2:Int))):=by rfl
theorem ie_NoSize_CellError (T:Tx K mg cl) {fs:List (Str×Dm K)}:wIsE (cl.NoSize,fs) (Value.ref cl.CellError)=ret true:=isE_of T.q_NoSize T.cq (ErrQ.kit T.q_CellError T.s_NoSize_CellError)
theorem ie_NoSize_LimitError (T:Tx K mg cl) {fs:List (Str×Dm K)}:wIsE (cl.NoSize,fs) (Value.ref cl.LimitError)=ret false:=isE_of T.q_NoSize T.cq (ErrQ.kit T.q_LimitError T.s_NoSize_LimitError)
theorem ie_NoSize_NoCells (T:Tx K mg cl) {fs:List (Str×Dm K)}:wIsE (cl.NoSize,fs) (Value.ref cl.NoCells)=ret false:=isE_of T.q_NoSize T.cq (ErrQ.kit T.q_NoCells T.s_NoSize_NoCells)
theorem ct_NoSize_NoCells (T:Tx K mg cl) {α:Type} {fs:List (Str×Dm K)} {h n:Err K→W K α}:wCatch cl.NoCells h n (cl.NoSize,fs)=n (cl.NoSize,fs):=catch_n (ErrQ.exm T.q_NoCells T.s_NoSize_NoCells)
theorem ie_NoSize_NoFlip (T:Tx K mg cl) {fs:List (Str×Dm K)}:wIsE (cl.NoSize,fs) (Value.ref cl.NoFlip)=ret false:=isE_of T.q_NoSize T.cq (ErrQ.kit T.q_NoFlip T.s_NoSize_NoFlip)
theorem ct_NoSize_NoFlip (T:Tx K mg cl) {α:Type} {fs:List (Str×Dm K)} {h n:Err K→W K α}:wCatch cl.NoFlip h n (cl.NoSize,fs)=n (cl.NoSize,fs):=catch_n (ErrQ.exm T.q_NoFlip T.s_NoSize_NoFlip)
theorem ie_NoSize_NoSize (T:Tx K mg cl) {fs:List (Str×Dm K)}:wIsE (cl.NoSize,fs) (Value.ref cl.NoSize)=ret true:=isE_of T.q_NoSize T.cq (ErrQ.kit T.q_NoSize T.s_NoSize_NoSize)
theorem ct_NoSize_NoSize (T:Tx K mg cl) {α:Type} {fs:List (Str×Dm K)} {h n:Err K→W K α}:wCatch cl.NoSize h n (cl.NoSize,fs)=h (cl.NoSize,fs):=catch_y (ErrQ.exm T.q_NoSize T.s_NoSize_NoSize)
theorem ie_NoSize_NoText (T:Tx K mg cl) {fs:List (Str×Dm K)}:wIsE (cl.NoSize,fs) (Value.ref cl.NoText)=ret false:=isE_of T.q_NoSize T.cq (ErrQ.kit T.q_NoText T.s_NoSize_NoText)
theorem ct_NoSize_NoText (T:Tx K mg cl) {α:Type} {fs:List (Str×Dm K)} {h n:Err K→W K α}:wCatch cl.NoText h n (cl.NoSize,fs)=n (cl.NoSize,fs):=catch_n (ErrQ.exm T.q_NoText T.s_NoSize_NoText)
theorem ie_NoSize_ValueError (T:Tx K mg cl) {fs:List (Str×Dm K)}:wIsE (cl.NoSize,fs) (Value.type "ValueError")=ret true:=isE_of T.q_NoSize T.cq (kit_bt km_ValueError T.s_NoSize_ValueError)
theorem ie_NoCells_CellError (T:Tx K mg cl) {fs:List (Str×Dm K)}:wIsE (cl.NoCells,fs) (Value.ref cl.CellError)=ret true:=isE_of T.q_NoCells T.cq (ErrQ.kit T.q_CellError T.s_NoCells_CellError)
theorem ie_NoCells_LimitError (T:Tx K mg cl) {fs:List (Str×Dm K)}:wIsE (cl.NoCells,fs) (Value.ref cl.LimitError)=ret false:=isE_of T.q_NoCells T.cq (ErrQ.kit T.q_LimitError T.s_NoCells_LimitError)
theorem ie_NoCells_NoCells (T:Tx K mg cl) {fs:List (Str×Dm K)}:wIsE (cl.NoCells,fs) (Value.ref cl.NoCells)=ret true:=isE_of T.q_NoCells T.cq (ErrQ.kit T.q_NoCells T.s_NoCells_NoCells)
theorem ct_NoCells_NoCells (T:Tx K mg cl) {α:Type} {fs:List (Str×Dm K)} {h n:Err K→W K α}:wCatch cl.NoCells h n (cl.NoCells,fs)=h (cl.NoCells,fs):=catch_y (ErrQ.exm T.q_NoCells T.s_NoCells_NoCells)
theorem ie_NoCells_NoFlip (T:Tx K mg cl) {fs:List (Str×Dm K)}:wIsE (cl.NoCells,fs) (Value.ref cl.NoFlip)=ret false:=isE_of T.q_NoCells T.cq (ErrQ.kit T.q_NoFlip T.s_NoCells_NoFlip)
theorem ct_NoCells_NoFlip (T:Tx K mg cl) {α:Type} {fs:List (Str×Dm K)} {h n:Err K→W K α}:wCatch cl.NoFlip h n (cl.NoCells,fs)=n (cl.NoCells,fs):=catch_n (ErrQ.exm T.q_NoFlip T.s_NoCells_NoFlip)
theorem ie_NoCells_NoSize (T:Tx K mg cl) {fs:List (Str×Dm K)}:wIsE (cl.NoCells,fs) (Value.ref cl.NoSize)=ret false:=isE_of T.q_NoCells T.cq (ErrQ.kit T.q_NoSize T.s_NoCells_NoSize)
theorem ct_NoCells_NoSize (T:Tx K mg cl) {α:Type} {fs:List (Str×Dm K)} {h n:Err K→W K α}:wCatch cl.NoSize h n (cl.NoCells,fs)=n (cl.NoCells,fs):=catch_n (ErrQ.exm T.q_NoSize T.s_NoCells_NoSize)
theorem ie_NoCells_NoText (T:Tx K mg cl) {fs:List (Str×Dm K)}:wIsE (cl.NoCells,fs) (Value.ref cl.NoText)=ret false:=isE_of T.q_NoCells T.cq (ErrQ.kit T.q_NoText T.s_NoCells_NoText)
theorem ct_NoCells_NoText (T:Tx K mg cl) {α:Type} {fs:List (Str×Dm K)} {h n:Err K→W K α}:wCatch cl.NoText h n (cl.NoCells,fs)=n (cl.NoCells,fs):=catch_n (ErrQ.exm T.q_NoText T.s_NoCells_NoText)
theorem ie_NoCells_ValueError (T:Tx K mg cl) {fs:List (Str×Dm K)}:wIsE (cl.NoCells,fs) (Value.type "ValueError")=ret true:=isE_of T.q_NoCells T.cq (kit_bt km_ValueError T.s_NoCells_ValueError)
theorem ie_NoFlip_CellError (T:Tx K mg cl) {fs:List (Str×Dm K)}:wIsE (cl.NoFlip,fs) (Value.ref cl.CellError)=ret true:=isE_of T.q_NoFlip T.cq (ErrQ.kit T.q_CellError T.s_NoFlip_CellError)
theorem ie_NoFlip_LimitError (T:Tx K mg cl) {fs:List (Str×Dm K)}:wIsE (cl.NoFlip,fs) (Value.ref cl.LimitError)=ret false:=isE_of T.q_NoFlip T.cq (ErrQ.kit T.q_LimitError T.s_NoFlip_LimitError)
theorem ie_NoFlip_NoCells (T:Tx K mg cl) {fs:List (Str×Dm K)}:wIsE (cl.NoFlip,fs) (Value.ref cl.NoCells)=ret false:=isE_of T.q_NoFlip T.cq (ErrQ.kit T.q_NoCells T.s_NoFlip_NoCells)
theorem ct_NoFlip_NoCells (T:Tx K mg cl) {α:Type} {fs:List (Str×Dm K)} {h n:Err K→W K α}:wCatch cl.NoCells h n (cl.NoFlip,fs)=n (cl.NoFlip,fs):=catch_n (ErrQ.exm T.q_NoCells T.s_NoFlip_NoCells)
theorem ie_NoFlip_NoFlip (T:Tx K mg cl) {fs:List (Str×Dm K)}:wIsE (cl.NoFlip,fs) (Value.ref cl.NoFlip)=ret true:=isE_of T.q_NoFlip T.cq (ErrQ.kit T.q_NoFlip T.s_NoFlip_NoFlip)
theorem ct_NoFlip_NoFlip (T:Tx K mg cl) {α:Type} {fs:List (Str×Dm K)} {h n:Err K→W K α}:wCatch cl.NoFlip h n (cl.NoFlip,fs)=h (cl.NoFlip,fs):=catch_y (ErrQ.exm T.q_NoFlip T.s_NoFlip_NoFlip)
theorem ie_NoFlip_NoSize (T:Tx K mg cl) {fs:List (Str×Dm K)}:wIsE (cl.NoFlip,fs) (Value.ref cl.NoSize)=ret false:=isE_of T.q_NoFlip T.cq (ErrQ.kit T.q_NoSize T.s_NoFlip_NoSize)
theorem ct_NoFlip_NoSize (T:Tx K mg cl) {α:Type} {fs:List (Str×Dm K)} {h n:Err K→W K α}:wCatch cl.NoSize h n (cl.NoFlip,fs)=n (cl.NoFlip,fs):=catch_n (ErrQ.exm T.q_NoSize T.s_NoFlip_NoSize)
theorem ie_NoFlip_NoText (T:Tx K mg cl) {fs:List (Str×Dm K)}:wIsE (cl.NoFlip,fs) (Value.ref cl.NoText)=ret false:=isE_of T.q_NoFlip T.cq (ErrQ.kit T.q_NoText T.s_NoFlip_NoText)
theorem ct_NoFlip_NoText (T:Tx K mg cl) {α:Type} {fs:List (Str×Dm K)} {h n:Err K→W K α}:wCatch cl.NoText h n (cl.NoFlip,fs)=n (cl.NoFlip,fs):=catch_n (ErrQ.exm T.q_NoText T.s_NoFlip_NoText)
theorem ie_NoFlip_ValueError (T:Tx K mg cl) {fs:List (Str×Dm K)}:wIsE (cl.NoFlip,fs) (Value.type "ValueError")=ret true:=isE_of T.q_NoFlip T.cq (kit_bt km_ValueError T.s_NoFlip_ValueError)
theorem ie_NoText_CellError (T:Tx K mg cl) {fs:List (Str×Dm K)}:wIsE (cl.NoText,fs) (Value.ref cl.CellError)=ret true:=isE_of T.q_NoText T.cq (ErrQ.kit T.q_CellError T.s_NoText_CellError)
theorem ie_NoText_LimitError (T:Tx K mg cl) {fs:List (Str×Dm K)}:wIsE (cl.NoText,fs) (Value.ref cl.LimitError)=ret false:=isE_of T.q_NoText T.cq (ErrQ.kit T.q_LimitError T.s_NoText_LimitError)
theorem ie_NoText_NoCells (T:Tx K mg cl) {fs:List (Str×Dm K)}:wIsE (cl.NoText,fs) (Value.ref cl.NoCells)=ret false:=isE_of T.q_NoText T.cq (ErrQ.kit T.q_NoCells T.s_NoText_NoCells)
theorem ct_NoText_NoCells (T:Tx K mg cl) {α:Type} {fs:List (Str×Dm K)} {h n:Err K→W K α}:wCatch cl.NoCells h n (cl.NoText,fs)=n (cl.NoText,fs):=catch_n (ErrQ.exm T.q_NoCells T.s_NoText_NoCells)
theorem ie_NoText_NoFlip (T:Tx K mg cl) {fs:List (Str×Dm K)}:wIsE (cl.NoText,fs) (Value.ref cl.NoFlip)=ret false:=isE_of T.q_NoText T.cq (ErrQ.kit T.q_NoFlip T.s_NoText_NoFlip)
theorem ct_NoText_NoFlip (T:Tx K mg cl) {α:Type} {fs:List (Str×Dm K)} {h n:Err K→W K α}:wCatch cl.NoFlip h n (cl.NoText,fs)=n (cl.NoText,fs):=catch_n (ErrQ.exm T.q_NoFlip T.s_NoText_NoFlip)
theorem ie_NoText_NoSize (T:Tx K mg cl) {fs:List (Str×Dm K)}:wIsE (cl.NoText,fs) (Value.ref cl.NoSize)=ret false:=isE_of T.q_NoText T.cq (ErrQ.kit T.q_NoSize T.s_NoText_NoSize)
theorem ct_NoText_NoSize (T:Tx K mg cl) {α:Type} {fs:List (Str×Dm K)} {h n:Err K→W K α}:wCatch cl.NoSize h n (cl.NoText,fs)=n (cl.NoText,fs):=catch_n (ErrQ.exm T.q_NoSize T.s_NoText_NoSize)
theorem ie_NoText_NoText (T:Tx K mg cl) {fs:List (Str×Dm K)}:wIsE (cl.NoText,fs) (Value.ref cl.NoText)=ret true:=isE_of T.q_NoText T.cq (ErrQ.kit T.q_NoText T.s_NoText_NoText)
theorem ct_NoText_NoText (T:Tx K mg cl) {α:Type} {fs:List (Str×Dm K)} {h n:Err K→W K α}:wCatch cl.NoText h n (cl.NoText,fs)=h (cl.NoText,fs):=catch_y (ErrQ.exm T.q_NoText T.s_NoText_NoText)
theorem ie_NoText_ValueError (T:Tx K mg cl) {fs:List (Str×Dm K)}:wIsE (cl.NoText,fs) (Value.type "ValueError")=ret true:=isE_of T.q_NoText T.cq (kit_bt km_ValueError T.s_NoText_ValueError)
theorem ies_NoSize (T:Tx K mg cl) {fs:List (Str×Dm K)} {us:List Value}:wIsEs (cl.NoSize,fs) us=wIsGo (cl.NoSize,fs) us:=isEs_of T.q_NoSize T.cq
theorem ies_NoCells (T:Tx K mg cl) {fs:List (Str×Dm K)} {us:List Value}:wIsEs (cl.NoCells,fs) us=wIsGo (cl.NoCells,fs) us:=isEs_of T.q_NoCells T.cq
theorem ies_NoFlip (T:Tx K mg cl) {fs:List (Str×Dm K)} {us:List Value}:wIsEs (cl.NoFlip,fs) us=wIsGo (cl.NoFlip,fs) us:=isEs_of T.q_NoFlip T.cq
theorem ies_NoText (T:Tx K mg cl) {fs:List (Str×Dm K)} {us:List Value}:wIsEs (cl.NoText,fs) us=wIsGo (cl.NoText,fs) us:=isEs_of T.q_NoText T.cq
local macro_rules | `(tactic| wtm_at "cls") => `(tactic| first | exact Tx.cls_Board (by assumption) | exact Tx.cls_Flip (by assumption))
local macro_rules | `(tactic| wtm_at "noat") => `(tactic| first | exact Tx.no_Board_own_size (by assumption) | exact Tx.no_Board_up_mask (by assumption) | exact Tx.no_Flip_test_mask (by assumption) | exact Tx.no_Flip_toggle_mask (by assumption))
local macro_rules | `(tactic| wtm_at "isc") => `(tactic| first | exact Tx.ty_Board (by assumption) | exact Tx.ty_Flip (by assumption))
local macro_rules | `(tactic| wtm_at "kit") => `(tactic| first | exact ErrQ.kit (Tx.q_CellError (by assumption)) (Tx.s_NoSize_CellError (by assumption)) | exact ErrQ.kit (Tx.q_LimitError (by assumption)) (Tx.s_NoSize_LimitError (by assumption)) | exact ErrQ.kit (Tx.q_NoCells (by assumption)) (Tx.s_NoSize_NoCells (by assumption)) | exact ErrQ.kit (Tx.q_NoFlip (by assumption)) (Tx.s_NoSize_NoFlip (by assumption)) | exact ErrQ.kit (Tx.q_NoSize (by assumption)) (Tx.s_NoSize_NoSize (by assumption)) | exact ErrQ.kit (Tx.q_NoText (by assumption)) (Tx.s_NoSize_NoText (by assumption)) | exact kit_bt km_ValueError (Tx.s_NoSize_ValueError (by assumption)) | exact ErrQ.kit (Tx.q_CellError (by assumption)) (Tx.s_NoCells_CellError (by assumption)) | exact ErrQ.kit (Tx.q_LimitError (by assumption)) (Tx.s_NoCells_LimitError (by assumption)) | exact ErrQ.kit (Tx.q_NoCells (by assumption)) (Tx.s_NoCells_NoCells (by assumption)) | exact ErrQ.kit (Tx.q_NoFlip (by assumption)) (Tx.s_NoCells_NoFlip (by assumption)) | exact ErrQ.kit (Tx.q_NoSize (by assumption)) (Tx.s_NoCells_NoSize (by assumption)) | exact ErrQ.kit (Tx.q_NoText (by assumption)) (Tx.s_NoCells_NoText (by assumption)) | exact kit_bt km_ValueError (Tx.s_NoCells_ValueError (by assumption)) | exact ErrQ.kit (Tx.q_CellError (by assumption)) (Tx.s_NoFlip_CellError (by assumption)) | exact ErrQ.kit (Tx.q_LimitError (by assumption)) (Tx.s_NoFlip_LimitError (by assumption)) | exact ErrQ.kit (Tx.q_NoCells (by assumption)) (Tx.s_NoFlip_NoCells (by assumption)) | exact ErrQ.kit (Tx.q_NoFlip (by assumption)) (Tx.s_NoFlip_NoFlip (by assumption)) | exact ErrQ.kit (Tx.q_NoSize (by assumption)) (Tx.s_NoFlip_NoSize (by assumption)) | exact ErrQ.kit (Tx.q_NoText (by assumption)) (Tx.s_NoFlip_NoText (by assumption)) | exact kit_bt km_ValueError (Tx.s_NoFlip_ValueError (by assumption)) | exact ErrQ.kit (Tx.q_CellError (by assumption)) (Tx.s_NoText_CellError (by assumption)) | exact ErrQ.kit (Tx.q_LimitError (by assumption)) (Tx.s_NoText_LimitError (by assumption)) | exact ErrQ.kit (Tx.q_NoCells (by assumption)) (Tx.s_NoText_NoCells (by assumption)) | exact ErrQ.kit (Tx.q_NoFlip (by assumption)) (Tx.s_NoText_NoFlip (by assumption)) | exact ErrQ.kit (Tx.q_NoSize (by assumption)) (Tx.s_NoText_NoSize (by assumption)) | exact ErrQ.kit (Tx.q_NoText (by assumption)) (Tx.s_NoText_NoText (by assumption)) | exact kit_bt km_ValueError (Tx.s_NoText_ValueError (by assumption)))
local macro_rules | `(tactic| wtm_at "exm") => `(tactic| first | exact ErrQ.exm (Tx.q_CellError (by assumption)) (Tx.s_NoSize_CellError (by assumption)) | exact ErrQ.exm (Tx.q_LimitError (by assumption)) (Tx.s_NoSize_LimitError (by assumption)) | exact ErrQ.exm (Tx.q_NoCells (by assumption)) (Tx.s_NoSize_NoCells (by assumption)) | exact ErrQ.exm (Tx.q_NoFlip (by assumption)) (Tx.s_NoSize_NoFlip (by assumption)) | exact ErrQ.exm (Tx.q_NoSize (by assumption)) (Tx.s_NoSize_NoSize (by assumption)) | exact ErrQ.exm (Tx.q_NoText (by assumption)) (Tx.s_NoSize_NoText (by assumption)) | exact ErrQ.exm (Tx.q_CellError (by assumption)) (Tx.s_NoCells_CellError (by assumption)) | exact ErrQ.exm (Tx.q_LimitError (by assumption)) (Tx.s_NoCells_LimitError (by assumption)) | exact ErrQ.exm (Tx.q_NoCells (by assumption)) (Tx.s_NoCells_NoCells (by assumption)) | exact ErrQ.exm (Tx.q_NoFlip (by assumption)) (Tx.s_NoCells_NoFlip (by assumption)) | exact ErrQ.exm (Tx.q_NoSize (by assumption)) (Tx.s_NoCells_NoSize (by assumption)) | exact ErrQ.exm (Tx.q_NoText (by assumption)) (Tx.s_NoCells_NoText (by assumption)) | exact ErrQ.exm (Tx.q_CellError (by assumption)) (Tx.s_NoFlip_CellError (by assumption)) | exact ErrQ.exm (Tx.q_LimitError (by assumption)) (Tx.s_NoFlip_LimitError (by assumption)) | exact ErrQ.exm (Tx.q_NoCells (by assumption)) (Tx.s_NoFlip_NoCells (by assumption)) | exact ErrQ.exm (Tx.q_NoFlip (by assumption)) (Tx.s_NoFlip_NoFlip (by assumption)) | exact ErrQ.exm (Tx.q_NoSize (by assumption)) (Tx.s_NoFlip_NoSize (by assumption)) | exact ErrQ.exm (Tx.q_NoText (by assumption)) (Tx.s_NoFlip_NoText (by assumption)) | exact ErrQ.exm (Tx.q_CellError (by assumption)) (Tx.s_NoText_CellError (by assumption)) | exact ErrQ.exm (Tx.q_LimitError (by assumption)) (Tx.s_NoText_LimitError (by assumption)) | exact ErrQ.exm (Tx.q_NoCells (by assumption)) (Tx.s_NoText_NoCells (by assumption)) | exact ErrQ.exm (Tx.q_NoFlip (by assumption)) (Tx.s_NoText_NoFlip (by assumption)) | exact ErrQ.exm (Tx.q_NoSize (by assumption)) (Tx.s_NoText_NoSize (by assumption)) | exact ErrQ.exm (Tx.q_NoText (by assumption)) (Tx.s_NoText_NoText (by assumption)))
local macro_rules | `(tactic| wtm_at "erq") => `(tactic| first | exact Tx.q_NoSize (by assumption) | exact Tx.q_NoCells (by assumption) | exact Tx.q_NoFlip (by assumption) | exact Tx.q_NoText (by assumption) | exact Tx.q_CellError (by assumption) | exact Tx.q_LimitError (by assumption))
local macro_rules | `(tactic| wtm_at "kita") => `(tactic| first | exact kita_nil | (apply kita_no (by wtm_at "kit"); wtm_at "kita") | exact kita_yes (by wtm_at "kit"))
local macro_rules | `(tactic| wtm_at "kcl") => `(tactic| first | exact Paired.nil | (apply Paired.cons (ClsV.own _); wtm_at "kcl") | (apply Paired.cons (ClsV.ty _); wtm_at "kcl"))
local macro_rules | `(tactic| wtm_at "xd") => `(tactic| first | assumption | exact R.xdW (by assumption) (by wtm_at "r"))
local macro_rules | `(tactic| wtm_at "ei") => `(tactic| refine ⟨_, _, _, _, _, rfl, rfl, rfl, by wtm_at "xd", by wtm_at "erq", by exact Tx.cq (by assumption), .inl ⟨_, by first | exact .own _ | exact .ty _, by wtm_at "kit"⟩, ?_⟩)
local macro_rules | `(tactic| wtm_at "et") => `(tactic| refine ⟨_, _, _, _, _, rfl, rfl, rfl, by wtm_at "xd", by wtm_at "erq", by exact Tx.cq (by assumption), .inr ⟨_, _, _, rfl, by assumption, by wtm_at "kcl", by wtm_at "kita"⟩, ?_⟩)
local macro_rules | `(tactic| wtm_at "xf") => `(tactic| refine ⟨rfl, rfl, _, _, _, rfl, by wtm_at "xd", by rfl, ?_⟩)
local macro_rules | `(tactic| wtm_at "e") => `(tactic| simp only [ie_NoSize_CellError (by assumption), ie_NoSize_LimitError (by assumption), ie_NoSize_NoCells (by assumption), ct_NoSize_NoCells (by assumption), ie_NoSize_NoFlip (by assumption), ct_NoSize_NoFlip (by assumption), ie_NoSize_NoSize (by assumption), ct_NoSize_NoSize (by assumption), ie_NoSize_NoText (by assumption), ct_NoSize_NoText (by assumption), ie_NoSize_ValueError (by assumption), ie_NoCells_CellError (by assumption), ie_NoCells_LimitError (by assumption), ie_NoCells_NoCells (by assumption), ct_NoCells_NoCells (by assumption), ie_NoCells_NoFlip (by assumption), ct_NoCells_NoFlip (by assumption), ie_NoCells_NoSize (by assumption), ct_NoCells_NoSize (by assumption), ie_NoCells_NoText (by assumption), ct_NoCells_NoText (by assumption), ie_NoCells_ValueError (by assumption), ie_NoFlip_CellError (by assumption), ie_NoFlip_LimitError (by assumption), ie_NoFlip_NoCells (by assumption), ct_NoFlip_NoCells (by assumption), ie_NoFlip_NoFlip (by assumption), ct_NoFlip_NoFlip (by assumption), ie_NoFlip_NoSize (by assumption), ct_NoFlip_NoSize (by assumption), ie_NoFlip_NoText (by assumption), ct_NoFlip_NoText (by assumption), ie_NoFlip_ValueError (by assumption), ie_NoText_CellError (by assumption), ie_NoText_LimitError (by assumption), ie_NoText_NoCells (by assumption), ct_NoText_NoCells (by assumption), ie_NoText_NoFlip (by assumption), ct_NoText_NoFlip (by assumption), ie_NoText_NoSize (by assumption), ct_NoText_NoSize (by assumption), ie_NoText_NoText (by assumption), ct_NoText_NoText (by assumption), ie_NoText_ValueError (by assumption), ies_NoSize (by assumption), ies_NoCells (by assumption), ies_NoFlip (by assumption), ies_NoText (by assumption), isGo_nil, isGo_cons])
def w__law_pot (K:PySem.W.Frag) (cl:Cl):(List Int)×Int×Unit→W K Addr:=fun x Q E S=>0≤x.2.1∧x.2.1<100∧ ∀p,S p=none→Q p (S.set p .pot)
abbrev sp__law_pot (K:PySem.W.Frag) (cl:Cl):Sp:=lift K (fun x:(List Int)×Int×Unit=> [kSc x.1,kI x.2.1]) kRef (w__law_pot K cl)
def spo__law_pot (K:PySem.W.Frag) (cl:Cl):Sp:=fun vs H Q _=> ∃(a:Addr) (ns:List Int) (k:Nat),vs= [.ref a,.int k]∧SqL K H a (ns.map V.int)∧k<100∧ ∀p o,H p=none→Pot p (upd H p o)→Q (.ref p) (upd H p o)
theorem okd__law_pot (T:Tx K mg cl):FnG P w K mg base 1 T.a__law_pot T.fd__law_pot ["_law_script","_law_k"] (spo__law_pot K cl):=by
  refine FnG.ok T.F__law_pot sc__law_pot (fun vs H Q E h=> ?_) (fun cdv A outer s H vs Q E hg hr h=> ?_)
  · obtain⟨_,_,_,rfl,_,_,_⟩:=h
    rfl
  · obtain⟨a,ns,k,rfl,hS,hk,q⟩:=h
    refine⟨_,pss_cons (ps_set (i:=2) sc__law_pot.nd rfl (by first | exact Or.inl rfl | exact Or.inr rfl) (pe_ifExp (pt_cmpR op_lt (pv 1) (pe_callB (kx_len (K:=K) rfl) (by rfl) T.z_len bt_len (pa_cons (pv 0) pa_nil)) (nomark _)) (pe_ix (kx_ix (K:=K) rfl) (pv 0) (pv 1) (fun _ _=>rfl)) (pe_int)))
    (pss_one (ps_ret (pe_lst (pa_cons (pe_callB (call_max2 rfl) (by rfl) T.z_max bt_max (pa_cons (pe_int) (pa_cons (pe_op op_sub (pe_callB call_abs (by rfl) T.z_abs bt_abs (pa_cons (pv 2) pa_nil)) (pe_op op_pow (pe_int) (pe_int))) pa_nil))) (pa_cons (pe_op op_modA (pe_op (kx_add (K:=K) rfl) (pe_op (kx_add (K:=K) rfl) (pe_op op_mul (pe_op op_modA (pe_callB call_abs (by rfl) T.z_abs bt_abs (pa_cons (pv 2) pa_nil)) (pe_int)) (pe_int)) (pe_op op_mul (pe_int) (pv 1))) (pe_int)) (pe_int)) pa_nil))))),?_⟩
    try dsimp only[cxg,cxOf,Cx.nox,Cx.wish]
    wtm_at "v"
    refine .inl ⟨a,_,rfl,.inl hS,?_⟩
    wtm_at "v"
    refine ite_d (fun h0=> ?_) (fun h0=> ?_)
    · rw[List.length_map] at h0
      wtm_at "v"
      refine s_script hS (by omega) (fun z hz=> ?_)
      wtm_at "v"
      refine⟨by simp;decide,fun p hp=>q _ _ hp ⟨_,_,upd_same,by split <;> omega,Int.emod_nonneg _ (by decide),Int.emod_lt_of_pos _ (by decide)⟩⟩
    · wtm_at "v"
      refine⟨by simp;decide,fun p hp=>q _ _ hp ⟨_,_,upd_same,by split <;> omega,Int.emod_nonneg _ (by decide),Int.emod_lt_of_pos _ (by decide)⟩⟩
theorem ok__law_pot (T:Tx K mg cl):FnG P w K mg base 1 T.a__law_pot T.fd__law_pot ["_law_script","_law_k"] (sp__law_pot K cl):=(okd__law_pot T).imp fun vs H Q E h=>by
  obtain⟨S,F,x,Qp,Ep,wd,ha,⟨h0,h1,hw⟩,hQ,hE⟩:=h
  obtain⟨v,w,rfl,⟨a,rfl,n,hS⟩,hk⟩:=at2 ha
  obtain rfl:=at_int hk
  refine⟨a,x.1,x.2.1.toNat,by rw[Int.toNat_of_nonneg h0],hS,by omega,fun p o hp hP=> ?_⟩
  exact hQ p _ _ _ (hw p (wd.sfree hp)) (wd.newS hp hP) rfl
def w__law_draw (K:PySem.W.Frag) (cl:Cl):Addr×Int×Unit→W K Int:=fun x Q E S=>S x.1=some .pot∧0<x.2.1∧x.2.1<2 ^ 200∧ ∀d,0≤d→d<x.2.1→Q d S
abbrev sp__law_draw (K:PySem.W.Frag) (cl:Cl):Sp:=lift K (fun x:Addr×Int×Unit=> [kRef x.1,kI x.2.1]) kI (w__law_draw K cl)
def spo__law_draw (K:PySem.W.Frag) (cl:Cl):Sp:=fun vs H Q _=> ∃p n,vs= [.ref p,.int n]∧Pot p H∧0<n∧n.natAbs<2 ^ 200∧ ∀H' d,R p H H'→0≤d→d<n→Q (.int d) H'
theorem okd__law_draw (T:Tx K mg cl):FnG P w K mg base 1 T.a__law_draw T.fd__law_draw ["_law_pot_here","_law_many"] (spo__law_draw K cl):=by
  refine FnG.ok T.F__law_draw sc__law_draw (fun vs H Q E h=> ?_) (fun cdv A outer s H vs Q E hg hr h=> ?_)
  · obtain⟨_,_,rfl,⟨_,_,_,_,_,_⟩,_,_,_⟩:=h
    rfl
  · obtain⟨p,n,rfl,⟨a,b,e,ha,hb,hb2⟩,hn,hn2,q⟩:=h
    refine⟨_,pss_cons (ps_if (pt_cmpR op_gt (pe_ix (kx_ix (K:=K) rfl) (pv 0) (pe_int) (fun _ _=>rfl)) (pe_int) (nomark _)) (pss_cons (ps_asg (pe_callB PC.call_divmodW (by rfl) T.z_divmod bt_divmod (pa_cons (pe_ix (kx_ix (K:=K) rfl) (pv 0) (pe_int) (fun _ _=>rfl)) (pa_cons (pv 1) pa_nil))) (pg_tupK (K:=K) rfl rfl (pgs_cons (pg_sub (pv 0) (pe_int) set_list) (pgs_cons (pg_name (i:=2) sc__law_draw.nd rfl (by first | exact Or.inl rfl | exact Or.inr rfl)) pgs_nil))))
    (pss_one (ps_ret (pv 2)))) pss_nil)
    (pss_cons (ps_asg (pe_op op_modA (pe_op (kx_add (K:=K) rfl) (pe_op op_mul (pe_ix (kx_ix (K:=K) rfl) (pv 0) (pe_int) (fun _ _=>rfl)) (pe_int)) (pe_int)) (pe_int)) (pg_sub (pv 0) (pe_int) set_list))
    (pss_one (ps_ret (pe_op op_modA (pe_op op_fdivA (pe_op op_modA (pe_op op_mul (pe_ix (kx_ix (K:=K) rfl) (pv 0) (pe_int) (fun _ _=>rfl)) (pe_ix (kx_ix (K:=K) rfl) (pv 0) (pe_int) (fun _ _=>rfl))) (pe_int)) (pe_int)) (pv 1))))),?_⟩
    try dsimp only[cxg,cxOf,Cx.nox,Cx.wish]
    have nf: ∀x u,HO.lst [.int a,.int b]≠ .frz x u:=fun x u z=>by cases z
    wtm_at "v"
    refine s_pot0 e ?_
    wtm_at "v"
    refine ite_d (fun h0=> ?_) (fun h0=> ?_)
    · wtm_at "v"
      refine s_pot0 e ?_
      wtm_at "v"
      refine⟨wide_div hn hn2 (by decide) (by decide),fun t ht=> ?_⟩
      have e':(upd H t (.tup [.int (a / n),.int (a % n)])) p=some (.lst [.int a,.int b]):=by
        rw[upd_ne (ne_of_none e ht)];exact e
      refine s_gtup (SqT.of upd_same) rfl ?_
      wtm_at "v"
      refine s_pset0 e' ?_
      wtm_at "v"
      refine q _ _ ((R.new ht).trans (R.draw e' nf (Int.ediv_nonneg ha (by omega)) hb hb2)) (Int.emod_nonneg _ (by omega)) (Int.emod_lt_of_pos _ hn)
    · wtm_at "v"
      refine s_pot1 e ?_
      wtm_at "v"
      refine s_pset1 e ?_
      have hb':=Int.emod_nonneg (b * 39373+12227) (show (2147483629:Int)≠0 by decide)
      have hb3:=Int.emod_lt_of_pos (b * 39373+12227) (show (0:Int)<2147483629 by decide)
      generalize (b * 39373+12227) % 2147483629=c at hb' hb3
      have e2:(upd H p (.lst [.int a,.int c])) p=some (.lst [.int a,.int c]):=upd_same
      wtm_at "v"
      refine s_pot1 e2 ?_
      wtm_at "v"
      refine s_pot1 e2 ?_
      wtm_at "v"
      wtm_at "v"
      exact q _ _ (R.draw e nf ha hb' (by omega)) (Int.emod_nonneg _ (by omega)) (Int.emod_lt_of_pos _ hn)
theorem ok__law_draw (T:Tx K mg cl):FnG P w K mg base 1 T.a__law_draw T.fd__law_draw ["_law_pot_here","_law_many"] (sp__law_draw K cl):=(okd__law_draw T).imp fun vs H Q E h=>by
  obtain⟨S,F,x,Qp,Ep,wd,ha,⟨hp,h0,h1,hw⟩,hQ,hE⟩:=h
  obtain⟨v,w,rfl,hv,hk⟩:=at2 ha
  obtain rfl:=at_int hk
  cases (show v= .ref x.1 from hv)
  exact⟨x.1,x.2.1,rfl,wd.cell _ _ hp,h0,by omega,fun H' d r d0 d1=>hQ d S H' _ (hw d d0 d1) (nxt_pot wd hp r) mk_int⟩
def w__law_width (K:PySem.W.Frag) (cl:Cl):Addr×Int×Unit→W K Int:=fun x=>outW (bnd (bnd (bnd (bnd (bnd (bnd (ret (3:Int)) fun p5=>(bnd (bnd (ret x.2.1) fun p3=>(bnd (ret ()) fun p4=>(ret (p3,p4)))) fun p6=>(ret (p5,p6)))) fun y2=>(ret (min y2.1 y2.2.1))) fun p25=>(bnd (bnd (bnd (bnd (ret (5:Int)) fun p10=>(bnd (bnd (ret x.2.1) fun p8=>(bnd (ret ()) fun p9=>(ret (p8,p9)))) fun p11=>(ret (p10,p11)))) fun y7=>(ret (min y7.1 y7.2.1))) fun p23=>(bnd (bnd (bnd (ret (1:Int)) fun v19=>(bnd (bnd (bnd (ret x.1) fun p17=>(bnd (bnd (ret x.2.1) fun p15=>(bnd (ret ()) fun p16=>(ret (p15,p16)))) fun p18=>(ret (p17,p18)))) fun p12=>(w__law_draw K cl p12)) fun v20=>(ret (v19+v20)))) fun p21=>(bnd (ret ()) fun p22=>(ret (p21,p22)))) fun p24=>(ret (p23,p24)))) fun p26=>(ret (p25,p26)))) fun y1=>(ret ([y1.1,y1.2.1,y1.2.2.1]:List Int))) fun v35=>(bnd (bnd (bnd (ret x.1) fun p33=>(bnd (bnd (ret (3:Int)) fun p31=>(bnd (ret ()) fun p32=>(ret (p31,p32)))) fun p34=>(ret (p33,p34)))) fun p28=>(w__law_draw K cl p28)) fun v36=>(wIx v35 v36))) fun v37=>(ret (Flow.rt v37))) none
abbrev sp__law_width (K:PySem.W.Frag) (cl:Cl):Sp:=lift K (fun x:Addr×Int×Unit=> [kRef x.1,kI x.2.1]) kI (w__law_width K cl)
theorem ok__law_width (T:Tx K mg cl):FnG P w K mg base 2 T.a__law_width T.fd__law_width ["_law_pot_here","_law_most"] (sp__law_width K cl):=
  okL T.F__law_width sc__law_width (fun _=>rfl) none (fun y e=>nomatch e) (fun cdv A outer s H E hg hr=>by
    refine⟨_,pss_one (ps_ret (pe_ix (kx_ix (K:=K) rfl) (pe_lst (pa_cons (pe_callB (call_min2 rfl) (by rfl) T.z_min bt_min (pa_cons (pe_int) (pa_cons (pv 1) pa_nil))) (pa_cons (pe_callB (call_min2 rfl) (by rfl) T.z_min bt_min (pa_cons (pe_int) (pa_cons (pv 1) pa_nil))) (pa_cons (pe_op (kx_add (K:=K) rfl) (pe_int) (pe_fnS ((ok__law_draw T).atS hg (hr.mono (by decide)) (b__law_draw T) .nil (takes_of rfl rfl rfl rfl)) rfl T.g__law_draw T.F__law_draw.kp (pa_cons (pv 0) (pa_cons (pv 1) pa_nil)))) pa_nil)))) (pe_fnS ((ok__law_draw T).atS hg (hr.mono (by decide)) (b__law_draw T) .nil (takes_of rfl rfl rfl rfl)) rfl T.g__law_draw T.F__law_draw.kp (pa_cons (pv 0) (pa_cons (pe_int) pa_nil))) (fun _ _=>rfl))),?_⟩
    exact⟨_,fun x=>(simS_ret le_none (sim_op os_ixL (sim_lstK (r:=kI) (fun y1:Int×Int×Int×Unit=>([y1.1,y1.2.1,y1.2.2.1]:List Int)) (fun _=>rfl) (fun _=>(by decide:3≤50000)) (simA_cons (sim_callB cb_min2 (simA_cons sim_i (simA_cons (sim_var (i:=1) (r:=kI) (x:=x.2.1) rfl) simA_nil))) (simA_cons (sim_callB cb_min2 (simA_cons sim_i (simA_cons (sim_var (i:=1) (r:=kI) (x:=x.2.1) rfl) simA_nil))) (simA_cons (sim_op os_add sim_i (sim_call (cal_lift (w:=w__law_draw K cl)) (simA_cons (sim_var (i:=0) (r:=kRef) (x:=x.1) rfl) (simA_cons (sim_var (i:=1) (r:=kI) (x:=x.2.1) rfl) simA_nil)))) simA_nil)))) (sim_call (cal_lift (w:=w__law_draw K cl)) (simA_cons (sim_var (i:=0) (r:=kRef) (x:=x.1) rfl) (simA_cons sim_i simA_nil))))),fun _ _ _ _ h=>h⟩)
def w__law_spots (K:PySem.W.Frag) (cl:Cl):Addr×Int×Int×Unit→W K (List Int):=fun x=>outW (bnd (bnd (bnd (ret x.1) fun p6=>(bnd (bnd (ret (5:Int)) fun p4=>(bnd (ret ()) fun p5=>(ret (p4,p5)))) fun p7=>(ret (p6,p7)))) fun p1=>(w__law_draw K cl p1)) fun (way_8:Int)=>(bnd (bnd (bnd (ret way_8) fun v9=>(bnd (ret (0:Int)) fun v10=>(ret (decide (v9=v10))))) fun v13=>(wIf v13 (ret true) (bnd (ret x.2.2.1) fun v11=>(bnd (ret x.2.1) fun v12=>(ret (decide (v11≤v12))))))) fun v57=>(wIf v57 (bnd (bnd (ret ()) fun y14=>(ret ([]:List Int))) fun v15=>(ret (Flow.rt v15))) (bnd (bnd (ret way_8) fun v16=>(bnd (ret (1:Int)) fun v17=>(ret (decide (v16=v17))))) fun v56=>(wIf v56 (bnd (bnd (bnd (bnd (ret x.2.1) fun v28=>(bnd (bnd (bnd (ret x.1) fun p26=>(bnd (bnd (bnd (ret x.2.2.1) fun v19=>(bnd (ret x.2.1) fun v20=>(ret (v19 - v20)))) fun p24=>(bnd (ret ()) fun p25=>(ret (p24,p25)))) fun p27=>(ret (p26,p27)))) fun p21=>(w__law_draw K cl p21)) fun v29=>(ret (v28+v29)))) fun p30=>(bnd (ret ()) fun p31=>(ret (p30,p31)))) fun y18=>(ret ([y18.1]:List Int))) fun v32=>(ret (Flow.rt v32))) (bnd (bnd (ret way_8) fun v33=>(bnd (ret (2:Int)) fun v34=>(ret (decide (v33=v34))))) fun v55=>(wIf v55 (bnd (bnd (ret x.2.1) fun v35=>(bnd (ret x.2.2.1) fun v36=>(wAss (RgOk v35 v36) (ret (rng v35 v36))))) fun v37=>(ret (Flow.rt v37))) (bnd (bnd (bnd (bnd (ret x.2.1) fun p41=>(bnd (bnd (ret x.2.2.1) fun p39=>(bnd (ret ()) fun p40=>(ret (p39,p40)))) fun p42=>(ret (p41,p42)))) fun y38=>(wAss (-(2 ^ 62)≤y38.1∧y38.1<2 ^ 62∧ -(2 ^ 62)≤y38.2.1∧y38.2.1<2 ^ 62) (ret (rng y38.1 y38.2.1,nI)))) fun y44=>(wAss (y44.1.length≤50000) (wCalm (fmapW y44.2 (fun (x43:Int)=>(bnd (bnd (bnd (ret x.1) fun p50=>(bnd (bnd (ret (2:Int)) fun p48=>(bnd (ret ()) fun p49=>(ret (p48,p49)))) fun p51=>(ret (p50,p51)))) fun p45=>(w__law_draw K cl p45)) fun v52=>(bnd (ret (0:Int)) fun v53=>(ret (decide (v52=v53)))))) (fun (x43:Int)=>(ret x43)) y44.1)))) fun v54=>(ret (Flow.rt v54)))))))))) none
abbrev sp__law_spots (K:PySem.W.Frag) (cl:Cl):Sp:=lift K (fun x:Addr×Int×Int×Unit=> [kRef x.1,kI x.2.1,kI x.2.2.1]) (kL kI) (w__law_spots K cl)
theorem ok__law_spots (T:Tx K mg cl):FnG P w K mg base 2 T.a__law_spots T.fd__law_spots ["_law_pot_here","_law_least","_law_width_here"] (sp__law_spots K cl):=
  okL T.F__law_spots sc__law_spots (fun _=>rfl) none (fun y e=>nomatch e) (fun cdv A outer s H E hg hr=>by
    refine⟨_,pss_cons (ps_set (i:=3) sc__law_spots.nd rfl (by first | exact Or.inl rfl | exact Or.inr rfl) (pe_fnS ((ok__law_draw T).atS hg (hr.mono (by decide)) (b__law_draw T) .nil (takes_of rfl rfl rfl rfl)) rfl T.g__law_draw T.F__law_draw.kp (pa_cons (pv 0) (pa_cons (pe_int) pa_nil))))
    (pss_cons (ps_if (PW.pt (pw_or (pt_cmpR (kx_eq (K:=K) rfl hr) (pv 3) (pe_int) (nomark _)) (pw_or1 (pt_cmpR op_le (pv 2) (pv 1) (nomark _))))) (pss_one (ps_ret (pe_lst (pa_nil)))) pss_nil)
    (pss_cons (ps_if (pt_cmpR (kx_eq (K:=K) rfl hr) (pv 3) (pe_int) (nomark _)) (pss_one (ps_ret (pe_lst (pa_cons (pe_op (kx_add (K:=K) rfl) (pv 1) (pe_fnS ((ok__law_draw T).atS hg (hr.mono (by decide)) (b__law_draw T) .nil (takes_of rfl rfl rfl rfl)) rfl T.g__law_draw T.F__law_draw.kp (pa_cons (pv 0) (pa_cons (pe_op op_sub (pv 2) (pv 1)) pa_nil)))) pa_nil)))) pss_nil)
    (pss_cons (ps_if (pt_cmpR (kx_eq (K:=K) rfl hr) (pv 3) (pe_int) (nomark _)) (pss_one (ps_ret (pe_listRg rfl rfl T.z_list (prg_2 rfl T.z_range (pv 1) (pv 2))))) pss_nil)
    (pss_one (ps_ret (pe_lc (own:= [("_law_spot",4)]) (g:=gName 4)  rfl sc__law_spots.nd (pi_range2 rfl T.z_range (pa_cons (pv 1) (pa_cons (pv 2) pa_nil))) (blkOk_by (own:= [("_law_spot",4)]) (N:=N__law_spots) (sc:=defScope st__law_spots) (by decide +kernel)) (fun _ _ _ _ _=>pg_name (i:=4) sc__law_spots.nd rfl (by first | exact Or.inl rfl | exact Or.inr rfl)) (fun _ _ _ _ _=>pts_one (pt_cmpR (kx_eq (K:=K) rfl hr) (pe_fnS ((ok__law_draw T).atS hg (hr.mono (by decide)) (b__law_draw T) .nil takes0) rfl T.g__law_draw T.F__law_draw.kp (pa_cons (pv 0) (pa_cons (pe_int) pa_nil))) (pe_int) (nomark _))) (fun _ _ _ _ _=>pv 4))))))),?_⟩
    exact⟨_,fun x=>(simS_seq (simS_asg simG_name le_none (sim_call (cal_lift (w:=w__law_draw K cl)) (simA_cons (sim_var (i:=0) (r:=kRef) (x:=x.1) rfl) (simA_cons sim_i simA_nil))) (fun (way_8:Int)=>(show SimS _ _ ([some (kRef x.1),some (kI x.2.1),some (kI x.2.2.1),some (kI way_8),none]:Gm K) _ _ _ _ from (simS_seq (simS_if le_none (simB_or (simB_test (sim_op os_eqI (sim_var (i:=3) (r:=kI) (x:=way_8) rfl) sim_i)) (simB_test (sim_op os_B0 (sim_var (i:=2) (r:=kI) (x:=x.2.2.1) rfl) (sim_var (i:=1) (r:=kI) (x:=x.2.1) rfl)))) (simS_ret le_none (sim_lstK (r:=kI) (fun y14:Unit=>([]:List Int)) (fun _=>rfl) (fun _=>(by decide:0≤50000)) simA_nil)) (simS_next (simS_seq (simS_if le_none (simB_test (sim_op os_eqI (sim_var (i:=3) (r:=kI) (x:=way_8) rfl) sim_i)) (simS_ret le_none (sim_lstK (r:=kI) (fun y18:Int×Unit=>([y18.1]:List Int)) (fun _=>rfl) (fun _=>(by decide:1≤50000)) (simA_cons (sim_op os_add (sim_var (i:=1) (r:=kI) (x:=x.2.1) rfl) (sim_call (cal_lift (w:=w__law_draw K cl)) (simA_cons (sim_var (i:=0) (r:=kRef) (x:=x.1) rfl) (simA_cons (sim_op os_I0 (sim_var (i:=2) (r:=kI) (x:=x.2.2.1) rfl) (sim_var (i:=1) (r:=kI) (x:=x.2.1) rfl)) simA_nil)))) simA_nil))) (simS_next (simS_seq (simS_if le_none (simB_test (sim_op os_eqI (sim_var (i:=3) (r:=kI) (x:=way_8) rfl) sim_i)) (simS_ret le_none (sim_new (simN_lstR2 (sim_var (i:=1) (r:=kI) (x:=x.2.1) rfl) (sim_var (i:=2) (r:=kI) (x:=x.2.2.1) rfl)))) (simS_next (simS_ret le_none (sim_lc (simI_r2 (simA_cons (sim_var (i:=1) (r:=kI) (x:=x.2.1) rfl) (simA_cons (sim_var (i:=2) (r:=kI) (x:=x.2.2.1) rfl) simA_nil))) simG_name (fun _ _ hy=>hy) (fun (x43:Int)=>(simB_test (sim_op os_eqI (sim_call (cal_lift (w:=w__law_draw K cl)) (simA_cons (sim_var (i:=0) (r:=kRef) (x:=x.1) rfl) (simA_cons sim_i simA_nil))) sim_i))) (fun (x43:Int)=>(sim_var (i:=4) (r:=kI) (x:=x43) rfl))))))))))))))))),fun _ _ _ _ h=>h⟩)
def w__law_pair (K:PySem.W.Frag) (cl:Cl):Addr×Int×Unit→W K ((List Int)×(List Int)):=fun x=>outW (bnd (bnd (bnd (bnd (bnd (ret x.1) fun p8=>(bnd (bnd (ret (0:Int)) fun p6=>(bnd (bnd (ret x.2.1) fun p4=>(bnd (ret ()) fun p5=>(ret (p4,p5)))) fun p7=>(ret (p6,p7)))) fun p9=>(ret (p8,p9)))) fun p1=>(w__law_spots K cl p1)) fun p22=>(bnd (bnd (bnd (bnd (ret x.1) fun p17=>(bnd (bnd (ret (1:Int)) fun p15=>(bnd (bnd (ret x.2.1) fun p13=>(bnd (ret ()) fun p14=>(ret (p13,p14)))) fun p16=>(ret (p15,p16)))) fun p18=>(ret (p17,p18)))) fun p10=>(w__law_spots K cl p10)) fun p20=>(bnd (ret ()) fun p21=>(ret (p20,p21)))) fun p23=>(ret (p22,p23)))) fun y19=>(ret (y19.1,y19.2.1))) fun (y24:((List Int)×(List Int)))=>(bnd (bnd (bnd (ret y24.1) fun y25=>(ret (y25,nI))) fun y27=>(wAss (y27.1.length≤50000) (wCalm (fmapW y27.2 (fun (x26:Int)=>(bnd (ret x26) fun v28=>(bnd (ret y24.2) fun v29=>(ret (decide (v28∈v29)))))) (fun (x26:Int)=>(ret x26)) y27.1)))) fun (both_30:List Int)=>(bnd (bnd (bnd (bnd (bnd (ret both_30) fun p32=>(bnd (ret ()) fun p33=>(ret (p32,p33)))) fun y31=>(ret (y31.1.length:Int))) fun v34=>(bnd (ret (2:Int)) fun v35=>(wAss (0<v35) (ret (v34 % v35))))) fun v36=>(bnd (ret (0:Int)) fun v37=>(ret (decide (v36=v37))))) fun v90=>(wIf v90 (bnd (bnd (bnd (ret y24.1) fun p41=>(bnd (bnd (ret y24.2) fun p39=>(bnd (ret ()) fun p40=>(ret (p39,p40)))) fun p42=>(ret (p41,p42)))) fun y38=>(ret (y38.1,y38.2.1))) fun v43=>(ret (Flow.rt v43))) (bnd (bnd (ret both_30) fun v55=>(bnd (bnd (bnd (ret x.1) fun p53=>(bnd (bnd (bnd (bnd (ret both_30) fun p46=>(bnd (ret ()) fun p47=>(ret (p46,p47)))) fun y45=>(ret (y45.1.length:Int))) fun p51=>(bnd (ret ()) fun p52=>(ret (p51,p52)))) fun p54=>(ret (p53,p54)))) fun p48=>(w__law_draw K cl p48)) fun v56=>(wIx v55 v56))) fun (gone_57:Int)=>(bnd (bnd (bnd (bnd (ret x.1) fun p63=>(bnd (bnd (ret (2:Int)) fun p61=>(bnd (ret ()) fun p62=>(ret (p61,p62)))) fun p64=>(ret (p63,p64)))) fun p58=>(w__law_draw K cl p58)) fun v65=>(bnd (ret (0:Int)) fun v66=>(ret (decide (v65=v66))))) fun v89=>(wIf v89 (bnd (bnd (bnd (bnd (bnd (ret y24.1) fun y67=>(ret (y67,nI))) fun y69=>(wAss (y69.1.length≤50000) (wCalm (fmapW y69.2 (fun (x68:Int)=>(bnd (ret x68) fun v70=>(bnd (ret gone_57) fun v71=>(ret (!decide (v70=v71)))))) (fun (x68:Int)=>(ret x68)) y69.1)))) fun p75=>(bnd (bnd (ret y24.2) fun p73=>(bnd (ret ()) fun p74=>(ret (p73,p74)))) fun p76=>(ret (p75,p76)))) fun y72=>(ret (y72.1,y72.2.1))) fun v77=>(ret (Flow.rt v77))) (bnd (bnd (bnd (ret y24.1) fun p86=>(bnd (bnd (bnd (bnd (ret y24.2) fun y78=>(ret (y78,nI))) fun y80=>(wAss (y80.1.length≤50000) (wCalm (fmapW y80.2 (fun (x79:Int)=>(bnd (ret x79) fun v81=>(bnd (ret gone_57) fun v82=>(ret (!decide (v81=v82)))))) (fun (x79:Int)=>(ret x79)) y80.1)))) fun p84=>(bnd (ret ()) fun p85=>(ret (p84,p85)))) fun p87=>(ret (p86,p87)))) fun y83=>(ret (y83.1,y83.2.1))) fun v88=>(ret (Flow.rt v88)))))))))) none
abbrev sp__law_pair (K:PySem.W.Frag) (cl:Cl):Sp:=lift K (fun x:Addr×Int×Unit=> [kRef x.1,kI x.2.1]) (kP (kL kI) (kL kI)) (w__law_pair K cl)
theorem ok__law_pair (T:Tx K mg cl):FnG P w K mg base 3 T.a__law_pair T.fd__law_pair ["_law_pot_here","_law_width_here"] (sp__law_pair K cl):=
  okL T.F__law_pair sc__law_pair (fun _=>rfl) none (fun y e=>nomatch e) (fun cdv A outer s H E hg hr=>by
    refine⟨_,pss_cons (ps_asg (pe_tup (pa_cons (pe_fnS ((ok__law_spots T).atS hg (hr.mono (by decide)) (b__law_spots T) .nil (takes_of rfl rfl rfl rfl)) rfl T.g__law_spots T.F__law_spots.kp (pa_cons (pv 0) (pa_cons (pe_int) (pa_cons (pv 1) pa_nil)))) (pa_cons (pe_fnS ((ok__law_spots T).atS hg (hr.mono (by decide)) (b__law_spots T) .nil (takes_of rfl rfl rfl rfl)) rfl T.g__law_spots T.F__law_spots.kp (pa_cons (pv 0) (pa_cons (pe_int) (pa_cons (pv 1) pa_nil)))) pa_nil))) (pg_tupK (K:=K) rfl rfl (pgs_cons (pg_name (i:=2) sc__law_pair.nd rfl (by first | exact Or.inl rfl | exact Or.inr rfl)) (pgs_cons (pg_name (i:=3) sc__law_pair.nd rfl (by first | exact Or.inl rfl | exact Or.inr rfl)) pgs_nil))))
    (pss_cons (ps_setLc (i:=4) (own:= [("_law_spot",5)]) (g:=gName 5)  rfl sc__law_pair.nd rfl rfl (sw_true rfl rfl rfl (by decide +kernel)) (pi_listK rfl (pv 2)) (blkOk_by (own:= [("_law_spot",5)]) (N:=N__law_pair) (sc:=defScope st__law_pair) (by decide +kernel)) (fun _ _ _ _ _=>pg_name (i:=5) sc__law_pair.nd rfl (by first | exact Or.inl rfl | exact Or.inr rfl)) (fun _ _ _ _ _=>pts_one (pt_cmpR (kx_in (K:=K) rfl) (pv 5) (pv 3) rfl)) (fun _ _ _ _ _=>pv 5))
    (pss_cons (ps_if (pt_cmpR (kx_eq (K:=K) rfl hr) (pe_op op_modA (pe_callB (kx_len (K:=K) rfl) (by rfl) T.z_len bt_len (pa_cons (pv 4) pa_nil)) (pe_int)) (pe_int) (nomark _)) (pss_one (ps_ret (pe_tup (pa_cons (pv 2) (pa_cons (pv 3) pa_nil))))) pss_nil)
    (pss_cons (ps_set (i:=6) sc__law_pair.nd rfl (by first | exact Or.inl rfl | exact Or.inr rfl) (pe_ix (kx_ix (K:=K) rfl) (pv 4) (pe_fnS ((ok__law_draw T).atS hg (hr.mono (by decide)) (b__law_draw T) .nil (takes_of rfl rfl rfl rfl)) rfl T.g__law_draw T.F__law_draw.kp (pa_cons (pv 0) (pa_cons (pe_callB (kx_len (K:=K) rfl) (by rfl) T.z_len bt_len (pa_cons (pv 4) pa_nil)) pa_nil))) (fun _ _=>rfl)))
    (pss_cons (ps_if (pt_cmpR (kx_eq (K:=K) rfl hr) (pe_fnS ((ok__law_draw T).atS hg (hr.mono (by decide)) (b__law_draw T) .nil (takes_of rfl rfl rfl rfl)) rfl T.g__law_draw T.F__law_draw.kp (pa_cons (pv 0) (pa_cons (pe_int) pa_nil))) (pe_int) (nomark _)) (pss_one (ps_ret (pe_tup (pa_cons (pe_lc (own:= [("_law_spot",5)]) (g:=gName 5)  rfl sc__law_pair.nd (pi_listK rfl (pv 2)) (blkOk_by (own:= [("_law_spot",5)]) (N:=N__law_pair) (sc:=defScope st__law_pair) (by decide +kernel)) (fun _ _ _ _ _=>pg_name (i:=5) sc__law_pair.nd rfl (by first | exact Or.inl rfl | exact Or.inr rfl)) (fun _ _ _ _ _=>pts_one (pt_cmpR (kx_ne (K:=K) rfl hr) (pv 5) (pv 6) (nomark _))) (fun _ _ _ _ _=>pv 5)) (pa_cons (pv 3) pa_nil))))) pss_nil)
    (pss_one (ps_ret (pe_tup (pa_cons (pv 2) (pa_cons (pe_lc (own:= [("_law_spot",5)]) (g:=gName 5)  rfl sc__law_pair.nd (pi_listK rfl (pv 3)) (blkOk_by (own:= [("_law_spot",5)]) (N:=N__law_pair) (sc:=defScope st__law_pair) (by decide +kernel)) (fun _ _ _ _ _=>pg_name (i:=5) sc__law_pair.nd rfl (by first | exact Or.inl rfl | exact Or.inr rfl)) (fun _ _ _ _ _=>pts_one (pt_cmpR (kx_ne (K:=K) rfl hr) (pv 5) (pv 6) (nomark _))) (fun _ _ _ _ _=>pv 5)) pa_nil))))))))),?_⟩
    exact⟨_,fun x=>(simS_seq (simS_asg (simG_pair simG_name simG_name) le_none (sim_pair (simA_cons (sim_call (cal_lift (w:=w__law_spots K cl)) (simA_cons (sim_var (i:=0) (r:=kRef) (x:=x.1) rfl) (simA_cons sim_i (simA_cons (sim_var (i:=1) (r:=kI) (x:=x.2.1) rfl) simA_nil)))) (simA_cons (sim_call (cal_lift (w:=w__law_spots K cl)) (simA_cons (sim_var (i:=0) (r:=kRef) (x:=x.1) rfl) (simA_cons sim_i (simA_cons (sim_var (i:=1) (r:=kI) (x:=x.2.1) rfl) simA_nil)))) simA_nil))) (fun (y24:((List Int)×(List Int)))=>(show SimS _ _ ([some (kRef x.1),some (kI x.2.1),some ((kL kI) y24.1),some ((kL kI) y24.2),none,none,none]:Gm K) _ _ _ _ from (simS_seq (simS_asg simG_name le_none (sim_lc (simI_list (r:=kI) (sim_var (i:=2) (r:=(kL kI)) (x:=y24.1) rfl)) simG_name (fun _ _ hy=>hy) (fun (x26:Int)=>(simB_test (sim_op os_inI (sim_var (i:=5) (r:=kI) (x:=x26) rfl) (sim_var (i:=3) (r:=(kL kI)) (x:=y24.2) rfl)))) (fun (x26:Int)=>(sim_var (i:=5) (r:=kI) (x:=x26) rfl))) (fun (both_30:List Int)=>(show SimS _ _ ([some (kRef x.1),some (kI x.2.1),some ((kL kI) y24.1),some ((kL kI) y24.2),some ((kL kI) both_30),none,none]:Gm K) _ _ _ _ from (simS_seq (simS_if le_none (simB_test (sim_op os_eqI (sim_op os_I (sim_callB cb_lenL (simA_cons (sim_var (i:=4) (r:=(kL kI)) (x:=both_30) rfl) simA_nil)) sim_i) sim_i)) (simS_ret le_none (sim_pair (simA_cons (sim_var (i:=2) (r:=(kL kI)) (x:=y24.1) rfl) (simA_cons (sim_var (i:=3) (r:=(kL kI)) (x:=y24.2) rfl) simA_nil)))) (simS_next (simS_seq (simS_asg simG_name le_none (sim_op os_ixL (sim_var (i:=4) (r:=(kL kI)) (x:=both_30) rfl) (sim_call (cal_lift (w:=w__law_draw K cl)) (simA_cons (sim_var (i:=0) (r:=kRef) (x:=x.1) rfl) (simA_cons (sim_callB cb_lenL (simA_cons (sim_var (i:=4) (r:=(kL kI)) (x:=both_30) rfl) simA_nil)) simA_nil)))) (fun (gone_57:Int)=>(show SimS _ _ ([some (kRef x.1),some (kI x.2.1),some ((kL kI) y24.1),some ((kL kI) y24.2),some ((kL kI) both_30),none,some (kI gone_57)]:Gm K) _ _ _ _ from (simS_seq (simS_if le_none (simB_test (sim_op os_eqI (sim_call (cal_lift (w:=w__law_draw K cl)) (simA_cons (sim_var (i:=0) (r:=kRef) (x:=x.1) rfl) (simA_cons sim_i simA_nil))) sim_i)) (simS_ret le_none (sim_pair (simA_cons (sim_lc (simI_list (r:=kI) (sim_var (i:=2) (r:=(kL kI)) (x:=y24.1) rfl)) simG_name (fun _ _ hy=>hy) (fun (x68:Int)=>(simB_test (sim_op os_neI (sim_var (i:=5) (r:=kI) (x:=x68) rfl) (sim_var (i:=6) (r:=kI) (x:=gone_57) rfl)))) (fun (x68:Int)=>(sim_var (i:=5) (r:=kI) (x:=x68) rfl))) (simA_cons (sim_var (i:=3) (r:=(kL kI)) (x:=y24.2) rfl) simA_nil)))) (simS_next (simS_ret le_none (sim_pair (simA_cons (sim_var (i:=2) (r:=(kL kI)) (x:=y24.1) rfl) (simA_cons (sim_lc (simI_list (r:=kI) (sim_var (i:=3) (r:=(kL kI)) (x:=y24.2) rfl)) simG_name (fun _ _ hy=>hy) (fun (x79:Int)=>(simB_test (sim_op os_neI (sim_var (i:=5) (r:=kI) (x:=x79) rfl) (sim_var (i:=6) (r:=kI) (x:=gone_57) rfl)))) (fun (x79:Int)=>(sim_var (i:=5) (r:=kI) (x:=x79) rfl))) simA_nil)))))))))))))))))))))),fun _ _ _ _ h=>h⟩)
def w__law_bits_text (K:PySem.W.Frag) (cl:Cl):(List Int)×Unit→W K Str:=fun x=>outW (bnd (bnd (ret ("" :Str)) fun v1=>(bnd (bnd (bnd (ret x.1) fun y3=>(ret (y3,nI))) fun y5=>(wAss (y5.1.length≤50000) (wCalm (fmapW y5.2 (fun (x4:Int)=>(ret true)) (fun (x4:Int)=>(bnd (bnd (ret x4) fun p7=>(bnd (ret ()) fun p8=>(ret (p7,p8)))) fun y6=>(wAss (y6.1.natAbs.log2<1920) (ret (toString y6.1:Str))))) y5.1)))) fun v2=>(wAss ((v2.map (·.length)).sum+v2.length * v1.length≤16777216) (ret (Txt.join v1 v2))))) fun v9=>(ret (Flow.rt v9))) none
abbrev sp__law_bits_text (K:PySem.W.Frag) (cl:Cl):Sp:=lift K (fun x:(List Int)×Unit=> [(kL kI) x.1]) kS (w__law_bits_text K cl)
theorem ok__law_bits_text (T:Tx K mg cl):FnG P w K mg base 1 T.a__law_bits_text T.fd__law_bits_text ["_law_bits_here"] (sp__law_bits_text K cl):=
  okL T.F__law_bits_text sc__law_bits_text (fun _=>rfl) none (fun y e=>nomatch e) (fun cdv A outer s H E hg hr=>by
    refine⟨_,pss_one (ps_ret (pe_joinK (K:=K) rfl (pe_str) (pe_lc (own:= [("_law_bit",1)]) (g:=gName 1) (tt:=tYes)  rfl sc__law_bits_text.nd (pi_listK rfl (pv 0)) (blkOk_by (own:= [("_law_bit",1)]) (N:=N__law_bits_text) (sc:=defScope st__law_bits_text) (by decide +kernel)) (fun _ _ _ _ _=>pg_name (i:=1) sc__law_bits_text.nd rfl (by first | exact Or.inl rfl | exact Or.inr rfl)) (fun _ _ _ _ _=>pts_nil) (fun _ _ _ _ _=>pe_callTy call_str_int (by rfl) T.z_str bt_str (pa_cons (pv 1) pa_nil))))),?_⟩
    exact⟨_,fun x=>(simS_ret le_none (sim_join sim_s (sim_lc (simI_list (r:=kI) (sim_var (i:=0) (r:=(kL kI)) (x:=x.1) rfl)) simG_name (fun _ _ hy=>hy) (fun (x4:Int)=>simB_yes) (fun (x4:Int)=>(sim_callB cb_strI (simA_cons (sim_var (i:=1) (r:=kI) (x:=x4) rfl) simA_nil)))))),fun _ _ _ _ h=>h⟩)
def w__law_bits (K:PySem.W.Frag) (cl:Cl):Addr×Int×Unit→W K (List Int):=fun x=>outW (bnd (bnd (bnd (bnd (ret (1:Int)) fun p2=>(bnd (ret ()) fun p3=>(ret (p2,p3)))) fun y1=>(ret ([y1.1]:List Int))) fun v18=>(bnd (bnd (bnd (bnd (ret (1:Int)) fun p7=>(bnd (bnd (ret x.2.1) fun p5=>(bnd (ret ()) fun p6=>(ret (p5,p6)))) fun p8=>(ret (p7,p8)))) fun y4=>(wAss (-(2 ^ 62)≤y4.1∧y4.1<2 ^ 62∧ -(2 ^ 62)≤y4.2.1∧y4.2.1<2 ^ 62) (ret (rng y4.1 y4.2.1,nI)))) fun y10=>(wAss (y10.1.length≤50000) (wCalm (fmapW y10.2 (fun (x9:Int)=>(ret true)) (fun (x9:Int)=>(bnd (bnd (ret x.1) fun p16=>(bnd (bnd (ret (2:Int)) fun p14=>(bnd (ret ()) fun p15=>(ret (p14,p15)))) fun p17=>(ret (p16,p17)))) fun p11=>(w__law_draw K cl p11))) y10.1)))) fun v19=>(wAss (v18.length+v19.length≤50000) (ret (v18++v19))))) fun v20=>(ret (Flow.rt v20))) none
abbrev sp__law_bits (K:PySem.W.Frag) (cl:Cl):Sp:=lift K (fun x:Addr×Int×Unit=> [kRef x.1,kI x.2.1]) (kL kI) (w__law_bits K cl)
theorem ok__law_bits (T:Tx K mg cl):FnG P w K mg base 2 T.a__law_bits T.fd__law_bits ["_law_pot_here","_law_width_here"] (sp__law_bits K cl):=
  okL T.F__law_bits sc__law_bits (fun _=>rfl) none (fun y e=>nomatch e) (fun cdv A outer s H E hg hr=>by
    refine⟨_,pss_one (ps_ret (pe_op (kx_add (K:=K) rfl) (pe_lst (pa_cons (pe_int) pa_nil)) (pe_lc (own:= [("_law_spot",2)]) (g:=gName 2) (tt:=tYes)  rfl sc__law_bits.nd (pi_range2 rfl T.z_range (pa_cons (pe_int) (pa_cons (pv 1) pa_nil))) (blkOk_by (own:= [("_law_spot",2)]) (N:=N__law_bits) (sc:=defScope st__law_bits) (by decide +kernel)) (fun _ _ _ _ _=>pg_name (i:=2) sc__law_bits.nd rfl (by first | exact Or.inl rfl | exact Or.inr rfl)) (fun _ _ _ _ _=>pts_nil) (fun _ _ _ _ _=>pe_fnS ((ok__law_draw T).atS hg (hr.mono (by decide)) (b__law_draw T) .nil takes0) rfl T.g__law_draw T.F__law_draw.kp (pa_cons (pv 0) (pa_cons (pe_int) pa_nil)))))),?_⟩
    exact⟨_,fun x=>(simS_ret le_none (sim_op os_addL (sim_lstK (r:=kI) (fun y1:Int×Unit=>([y1.1]:List Int)) (fun _=>rfl) (fun _=>(by decide:1≤50000)) (simA_cons sim_i simA_nil)) (sim_lc (simI_r2 (simA_cons sim_i (simA_cons (sim_var (i:=1) (r:=kI) (x:=x.2.1) rfl) simA_nil))) simG_name (fun _ _ hy=>hy) (fun (x9:Int)=>simB_yes) (fun (x9:Int)=>(sim_call (cal_lift (w:=w__law_draw K cl)) (simA_cons (sim_var (i:=0) (r:=kRef) (x:=x.1) rfl) (simA_cons sim_i simA_nil))))))),fun _ _ _ _ h=>h⟩)
def w__law_text_of (K:PySem.W.Frag) (cl:Cl):(List Int)×Unit→W K Str:=fun x=>outW (bnd (bnd (bnd (bnd (ret x.1) fun v2=>(ret ((fun xs=>PyData.list (xs.map PyData.int)) v2))) fun v4=>(bnd (bnd (bnd (ret ()) fun y1=>(ret ([]:List Int))) fun v3=>(ret ((fun xs=>PyData.list (xs.map PyData.int)) v3))) fun v5=>(wAss (SeqAt.shaped v4=true∧SeqAt.shaped v5=true) (ret (!PyData.eqv v4 v5))))) fun v14=>(wIf v14 (bnd (ret ("," :Str)) fun v6=>(bnd (bnd (bnd (ret x.1) fun y8=>(ret (y8,nI))) fun y10=>(wAss (y10.1.length≤50000) (wCalm (fmapW y10.2 (fun (x9:Int)=>(ret true)) (fun (x9:Int)=>(bnd (bnd (ret x9) fun p12=>(bnd (ret ()) fun p13=>(ret (p12,p13)))) fun y11=>(wAss (y11.1.natAbs.log2<1920) (ret (toString y11.1:Str))))) y10.1)))) fun v7=>(wAss ((v7.map (·.length)).sum+v7.length * v6.length≤16777216) (ret (Txt.join v6 v7))))) (ret ("-" :Str)))) fun v15=>(ret (Flow.rt v15))) none
abbrev sp__law_text_of (K:PySem.W.Frag) (cl:Cl):Sp:=lift K (fun x:(List Int)×Unit=> [(kL kI) x.1]) kS (w__law_text_of K cl)
theorem ok__law_text_of (T:Tx K mg cl):FnG P w K mg base 1 T.a__law_text_of T.fd__law_text_of ["_law_spots_here"] (sp__law_text_of K cl):=
  okL T.F__law_text_of sc__law_text_of (fun _=>rfl) none (fun y e=>nomatch e) (fun cdv A outer s H E hg hr=>by
    refine⟨_,pss_one (ps_ret (pe_ifExp (pt_cmpR (kx_ne (K:=K) rfl hr) (pv 0) (pe_lst (pa_nil)) (nomark _)) (pe_joinK (K:=K) rfl (pe_str) (pe_lc (own:= [("_law_spot",1)]) (g:=gName 1) (tt:=tYes)  rfl sc__law_text_of.nd (pi_listK rfl (pv 0)) (blkOk_by (own:= [("_law_spot",1)]) (N:=N__law_text_of) (sc:=defScope st__law_text_of) (by decide +kernel)) (fun _ _ _ _ _=>pg_name (i:=1) sc__law_text_of.nd rfl (by first | exact Or.inl rfl | exact Or.inr rfl)) (fun _ _ _ _ _=>pts_nil) (fun _ _ _ _ _=>pe_callTy call_str_int (by rfl) T.z_str bt_str (pa_cons (pv 1) pa_nil)))) (pe_str))),?_⟩
    exact⟨_,fun x=>(simS_ret le_none (sim_if (simB_test (sim_op os_neP (sim_co (sim_var (i:=0) (r:=(kL kI)) (x:=x.1) rfl) (co_LP co_I)) (sim_co (sim_lstK (r:=kI) (fun y1:Unit=>([]:List Int)) (fun _=>rfl) (fun _=>(by decide:0≤50000)) simA_nil) (co_LP co_I)))) (sim_join sim_s (sim_lc (simI_list (r:=kI) (sim_var (i:=0) (r:=(kL kI)) (x:=x.1) rfl)) simG_name (fun _ _ hy=>hy) (fun (x9:Int)=>simB_yes) (fun (x9:Int)=>(sim_callB cb_strI (simA_cons (sim_var (i:=1) (r:=kI) (x:=x9) rfl) simA_nil))))) sim_s)),fun _ _ _ _ h=>h⟩)
def w__law_pair_text (K:PySem.W.Frag) (cl:Cl):((List Int)×(List Int))×Unit→W K Str:=fun x=>outW (bnd (bnd (bnd (bnd (bnd (bnd (ret x.1) fun v1=>(ret v1.1)) fun p5=>(bnd (ret ()) fun p6=>(ret (p5,p6)))) fun p2=>(w__law_text_of K cl p2)) fun v7=>(bnd (ret (">" :Str)) fun v8=>(wAss (v7.length+v8.length≤50000) (ret (v7++v8))))) fun v15=>(bnd (bnd (bnd (bnd (ret x.1) fun v9=>(ret v9.2)) fun p13=>(bnd (ret ()) fun p14=>(ret (p13,p14)))) fun p10=>(w__law_text_of K cl p10)) fun v16=>(wAss (v15.length+v16.length≤50000) (ret (v15++v16))))) fun v17=>(ret (Flow.rt v17))) none
abbrev sp__law_pair_text (K:PySem.W.Frag) (cl:Cl):Sp:=lift K (fun x:((List Int)×(List Int))×Unit=> [(kP (kL kI) (kL kI)) x.1]) kS (w__law_pair_text K cl)
theorem ok__law_pair_text (T:Tx K mg cl):FnG P w K mg base 2 T.a__law_pair_text T.fd__law_pair_text ["_law_pair_here"] (sp__law_pair_text K cl):=
  okL T.F__law_pair_text sc__law_pair_text (fun _=>rfl) none (fun y e=>nomatch e) (fun cdv A outer s H E hg hr=>by
    refine⟨_,pss_one (ps_ret (pe_op (kx_add (K:=K) rfl) (pe_op (kx_add (K:=K) rfl) (pe_fnS ((ok__law_text_of T).atS hg (hr.mono (by decide)) (b__law_text_of T) .nil (takes_of rfl rfl rfl rfl)) rfl T.g__law_text_of T.F__law_text_of.kp (pa_cons (pe_ix (kx_ix (K:=K) rfl) (pv 0) (pe_int) (fun _ _=>rfl)) pa_nil)) (pe_str)) (pe_fnS ((ok__law_text_of T).atS hg (hr.mono (by decide)) (b__law_text_of T) .nil (takes_of rfl rfl rfl rfl)) rfl T.g__law_text_of T.F__law_text_of.kp (pa_cons (pe_ix (kx_ix (K:=K) rfl) (pv 0) (pe_int) (fun _ _=>rfl)) pa_nil)))),?_⟩
    exact⟨_,fun x=>(simS_ret le_none (sim_op os_addS (sim_op os_addS (sim_call (cal_lift (w:=w__law_text_of K cl)) (simA_cons (sim_p1 (sim_var (i:=0) (r:=(kP (kL kI) (kL kI))) (x:=x.1) rfl)) simA_nil)) sim_s) (sim_call (cal_lift (w:=w__law_text_of K cl)) (simA_cons (sim_p2 (sim_var (i:=0) (r:=(kP (kL kI) (kL kI))) (x:=x.1) rfl)) simA_nil)))),fun _ _ _ _ h=>h⟩)
def w__law_bent (K:PySem.W.Frag) (cl:Cl):Addr×Str×Unit→W K Str:=fun x=>outW (bnd (bnd (bnd (bnd (ret x.1) fun p11=>(bnd (bnd (bnd (bnd (bnd (ret x.2.1) fun p2=>(bnd (ret ()) fun p3=>(ret (p2,p3)))) fun y1=>(wAss (y1.1.length≤50000) (ret (y1.1.length:Int)))) fun v4=>(bnd (ret (1:Int)) fun v5=>(ret (v4+v5)))) fun p9=>(bnd (ret ()) fun p10=>(ret (p9,p10)))) fun p12=>(ret (p11,p12)))) fun p6=>(w__law_draw K cl p6)) fun p251=>(bnd (bnd (bnd (bnd (ret x.1) fun p18=>(bnd (bnd (ret (8:Int)) fun p16=>(bnd (ret ()) fun p17=>(ret (p16,p17)))) fun p19=>(ret (p18,p19)))) fun p13=>(w__law_draw K cl p13)) fun p249=>(bnd (ret ()) fun p250=>(ret (p249,p250)))) fun p252=>(ret (p251,p252)))) fun (y20:Int×Int×Unit)=>(bnd (bnd (ret ("0123456789,>-+ _.1a
" : Str)) fun v29 => (bnd (bnd (bnd (ret x.1) fun p27 => (bnd (bnd (ret (20 : Int)) fun p25 => (bnd (ret ()) fun p26 => (ret (p25, p26)))) fun p28 => (ret (p27, p28)))) fun p22 => (w__law_draw K cl p22)) fun v30 => (wIxS v29 v30))) fun (sign_31 : Str) => (bnd (bnd (ret y20.2.1) fun v32 => (bnd (ret (0 : Int)) fun v33 => (ret (decide (v32 = v33))))) fun v248 => (wIf v248 (bnd (bnd (bnd (bnd (ret x.2.1) fun v34 => (bnd (ret none) fun v36 => (bnd (bnd (ret y20.1) fun v35 => (ret (some v35))) fun v37 => (wAss (v34.length ≤ 50000) (ret (cutS v34 v36 v37)))))) fun v38 => (bnd (ret sign_31) fun v39 => (wAss (v38.length + v39.length ≤ 50000) (ret (v38 ++ v39))))) fun v44 => (bnd (bnd (ret x.2.1) fun v40 => (bnd (bnd (ret y20.1) fun v41 => (ret (some v41))) fun v42 => (bnd (ret none) fun v43 => (wAss (v40.length ≤ 50000) (ret (cutS v40 v42 v43)))))) fun v45 => (wAss (v44.length + v45.length ≤ 50000) (ret (v44 ++ v45))))) fun v46 => (ret (Flow.rt v46))) (bnd (bnd (ret y20.2.1) fun v47 => (bnd (ret (1 : Int)) fun v48 => (ret (decide (v47 = v48))))) fun v247 => (wIf v247 (bnd (bnd (bnd (ret x.2.1) fun v49 => (bnd (ret none) fun v51 => (bnd (bnd (ret y20.1) fun v50 => (ret (some v50))) fun v52 => (wAss (v49.length ≤ 50000) (ret (cutS v49 v51 v52)))))) fun v59 => (bnd (bnd (ret x.2.1) fun v53 => (bnd (bnd (bnd (ret y20.1) fun v54 => (bnd (ret (1 : Int)) fun v55 => (ret (v54 + v55)))) fun v56 => (ret (some v56))) fun v57 => (bnd (ret none) fun v58 => (wAss (v53.length ≤ 50000) (ret (cutS v53 v57 v58)))))) fun v60 => (wAss (v59.length + v60.length ≤ 50000) (ret (v59 ++ v60))))) fun v61 => (ret (Flow.rt v61))) (bnd (bnd (ret y20.2.1) fun v62 => (bnd (ret (2 : Int)) fun v63 => (ret (decide (v62 = v63))))) fun v246 => (wIf v246 (bnd (bnd (bnd (bnd (ret x.2.1) fun v64 => (bnd (ret none) fun v66 => (bnd (bnd (ret y20.1) fun v65 => (ret (some v65))) fun v67 => (wAss (v64.length ≤ 50000) (ret (cutS v64 v66 v67)))))) fun v68 => (bnd (ret sign_31) fun v69 => (wAss (v68.length + v69.length ≤ 50000) (ret (v68 ++ v69))))) fun v76 => (bnd (bnd (ret x.2.1) fun v70 => (bnd (bnd (bnd (ret y20.1) fun v71 => (bnd (ret (1 : Int)) fun v72 => (ret (v71 + v72)))) fun v73 => (ret (some v73))) fun v74 => (bnd (ret none) fun v75 => (wAss (v70.length ≤ 50000) (ret (cutS v70 v74 v75)))))) fun v77 => (wAss (v76.length + v77.length ≤ 50000) (ret (v76 ++ v77))))) fun v78 => (ret (Flow.rt v78))) (bnd (bnd (ret y20.2.1) fun v79 => (bnd (ret (3 : Int)) fun v80 => (ret (decide (v79 = v80))))) fun v245 => (wIf v245 (bnd (bnd (bnd (bnd (ret ("" : Str)) fun p101 => (bnd (bnd (bnd (ret (" " : Str)) fun v82 => (bnd (ret x.2.1) fun v83 => (wAss (v82.length + v83.length ≤ 50000) (ret (v82 ++ v83))))) fun p99 => (bnd (bnd (bnd (ret x.2.1) fun v84 => (bnd (ret (" " : Str)) fun v85 => (wAss (v84.length + v85.length ≤ 50000) (ret (v84 ++ v85))))) fun p97 => (bnd (bnd (bnd (ret x.2.1) fun v86 => (bnd (ret x.2.1) fun v87 => (wAss (v86.length + v87.length ≤ 50000) (ret (v86 ++ v87))))) fun p95 => (bnd (bnd (bnd (ret x.2.1) fun v88 => (wAss (v88.length ≤ 50000) (ret (revS v88)))) fun p93 => (bnd (bnd (bnd (ret x.2.1) fun v89 => (wAss (v89.length ≤ 50000) (ret (Txt.lower v89)))) fun p91 => (bnd (ret ()) fun p92 => (ret (p91, p92)))) fun p94 => (ret (p93, p94)))) fun p96 => (ret (p95, p96)))) fun p98 => (ret (p97, p98)))) fun p100 => (ret (p99, p100)))) fun p102 => (ret (p101, p102)))) fun y81 => (ret ([y81.1, y81.2.1, y81.2.2.1, y81.2.2.2.1, y81.2.2.2.2.1, y81.2.2.2.2.2.1] : List Str))) fun v111 => (bnd (bnd (bnd (ret x.1) fun p109 => (bnd (bnd (ret (6 : Int)) fun p107 => (bnd (ret ()) fun p108 => (ret (p107, p108)))) fun p110 => (ret (p109, p110)))) fun p104 => (w__law_draw K cl p104)) fun v112 => (wIx v111 v112))) fun v113 => (ret (Flow.rt v113))) (bnd (bnd (ret x.2.1) fun v114 => (bnd (ret ("," : Str)) fun v115 => (wAss (v115.length ≠ 0 ∧ v114.length ≤ 50000) (ret (Txt.split v114 v115))))) fun (words_116 : List Str) => (bnd (bnd (bnd (ret x.1) fun p125 => (bnd (bnd (bnd (bnd (ret words_116) fun p118 => (bnd (ret ()) fun p119 => (ret (p118, p119)))) fun y117 => (ret (y117.1.length : Int))) fun p123 => (bnd (ret ()) fun p124 => (ret (p123, p124)))) fun p126 => (ret (p125, p126)))) fun p120 => (w__law_draw K cl p120)) fun (spot_127 : Int) => (bnd (bnd (ret y20.2.1) fun v128 => (bnd (ret (4 : Int)) fun v129 => (ret (decide (v128 = v129))))) fun v244 => (wIf v244 (bnd (bnd (ret ("," : Str)) fun v130 => (bnd (bnd (bnd (bnd (ret words_116) fun v132 => (bnd (ret none) fun v134 => (bnd (bnd (ret spot_127) fun v133 => (ret (some v133))) fun v135 => (ret (sli v132 v134 v135))))) fun v142 => (bnd (bnd (bnd (bnd (ret words_116) fun v138 => (bnd (ret spot_127) fun v139 => (wIx v138 v139))) fun p140 => (bnd (ret ()) fun p141 => (ret (p140, p141)))) fun y136 => (ret ([y136.1] : List Str))) fun v143 => (wAss (v142.length + v143.length ≤ 50000) (ret (v142 ++ v143))))) fun v148 => (bnd (bnd (ret words_116) fun v144 => (bnd (bnd (ret spot_127) fun v145 => (ret (some v145))) fun v146 => (bnd (ret none) fun v147 => (ret (sli v144 v146 v147))))) fun v149 => (wAss (v148.length + v149.length ≤ 50000) (ret (v148 ++ v149))))) fun v131 => (wAss ((v131.map (·.length)).sum + v131.length * v130.length ≤ 16777216) (ret (Txt.join v130 v131))))) fun v150 => (ret (Flow.rt v150))) (bnd (bnd (ret y20.2.1) fun v151 => (bnd (ret (5 : Int)) fun v152 => (ret (decide (v151 = v152))))) fun v243 => (wIf v243 (bnd (bnd (ret ("," : Str)) fun v153 => (bnd (bnd (ret words_116) fun v155 => (ret v155.reverse)) fun v154 => (wAss ((v154.map (·.length)).sum + v154.length * v153.length ≤ 16777216) (ret (Txt.join v153 v154))))) fun v156 => (ret (Flow.rt v156))) (bnd (bnd (ret y20.2.1) fun v157 => (bnd (ret (6 : Int)) fun v158 => (ret (decide (v157 = v158))))) fun v242 => (wIf v242 (bnd (bnd (ret ("," : Str)) fun v159 => (bnd (bnd (bnd (bnd (ret words_116) fun v161 => (bnd (ret none) fun v163 => (bnd (bnd (ret spot_127) fun v162 => (ret (some v162))) fun v164 => (ret (sli v161 v163 v164))))) fun v173 => (bnd (bnd (bnd (bnd (ret ("0" : Str)) fun v169 => (bnd (bnd (ret words_116) fun v167 => (bnd (ret spot_127) fun v168 => (wIx v167 v168))) fun v170 => (wAss (v169.length + v170.length ≤ 50000) (ret (v169 ++ v170))))) fun p171 => (bnd (ret ()) fun p172 => (ret (p171, p172)))) fun y165 => (ret ([y165.1] : List Str))) fun v174 => (wAss (v173.length + v174.length ≤ 50000) (ret (v173 ++ v174))))) fun v181 => (bnd (bnd (ret words_116) fun v175 => (bnd (bnd (bnd (ret spot_127) fun v176 => (bnd (ret (1 : Int)) fun v177 => (ret (v176 + v177)))) fun v178 => (ret (some v178))) fun v179 => (bnd (ret none) fun v180 => (ret (sli v175 v179 v180))))) fun v182 => (wAss (v181.length + v182.length ≤ 50000) (ret (v181 ++ v182))))) fun v160 => (wAss ((v160.map (·.length)).sum + v160.length * v159.length ≤ 16777216) (ret (Txt.join v159 v160))))) fun v183 => (ret (Flow.rt v183))) (bnd (bnd (bnd (bnd (ret ("39" : Str)) fun p209 => (bnd (bnd (ret ("40" : Str)) fun p207 => (bnd (bnd (ret ("41" : Str)) fun p205 => (bnd (bnd (ret ("100" : Str)) fun p203 => (bnd (bnd (ret ("-1" : Str)) fun p201 => (bnd (bnd (ret ("0" : Str)) fun p199 => (bnd (bnd (ret ("1" : Str)) fun p197 => (bnd (bnd (bnd (bnd (bnd (bnd (ret x.1) fun p190 => (bnd (bnd (ret (45 : Int)) fun p188 => (bnd (ret ()) fun p189 => (ret (p188, p189)))) fun p191 => (ret (p190, p191)))) fun p185 => (w__law_draw K cl p185)) fun p193 => (bnd (ret ()) fun p194 => (ret (p193, p194)))) fun y192 => (wAss (y192.1.natAbs.log2 < 1920) (ret (toString y192.1 : Str)))) fun p195 => (bnd (ret ()) fun p196 => (ret (p195, p196)))) fun p198 => (ret (p197, p198)))) fun p200 => (ret (p199, p200)))) fun p202 => (ret (p201, p202)))) fun p204 => (ret (p203, p204)))) fun p206 => (ret (p205, p206)))) fun p208 => (ret (p207, p208)))) fun p210 => (ret (p209, p210)))) fun y184 => (ret ([y184.1, y184.2.1, y184.2.2.1, y184.2.2.2.1, y184.2.2.2.2.1, y184.2.2.2.2.2.1, y184.2.2.2.2.2.2.1, y184.2.2.2.2.2.2.2.1] : List Str))) fun v219 => (bnd (bnd (bnd (ret x.1) fun p217 => (bnd (bnd (ret (8 : Int)) fun p215 => (bnd (ret ()) fun p216 => (ret (p215, p216)))) fun p218 => (ret (p217, p218)))) fun p212 => (w__law_draw K cl p212)) fun v220 => (wIx v219 v220))) fun (more_221 : Str) => (bnd (bnd (ret ("," :Str)) fun v222=>(bnd (bnd (bnd (bnd (ret words_116) fun v224=>(bnd (ret none) fun v226=>(bnd (bnd (ret spot_127) fun v225=>(ret (some v225))) fun v227=>(ret (sli v224 v226 v227))))) fun v231=>(bnd (bnd (bnd (ret more_221) fun p229=>(bnd (ret ()) fun p230=>(ret (p229,p230)))) fun y228=>(ret ([y228.1]:List Str))) fun v232=>(wAss (v231.length+v232.length≤50000) (ret (v231++v232))))) fun v239=>(bnd (bnd (ret words_116) fun v233=>(bnd (bnd (bnd (ret spot_127) fun v234=>(bnd (ret (1:Int)) fun v235=>(ret (v234+v235)))) fun v236=>(ret (some v236))) fun v237=>(bnd (ret none) fun v238=>(ret (sli v233 v237 v238))))) fun v240=>(wAss (v239.length+v240.length≤50000) (ret (v239++v240))))) fun v223=>(wAss ((v223.map (·.length)).sum+v223.length * v222.length≤16777216) (ret (Txt.join v222 v223))))) fun v241=>(ret (Flow.rt v241)))))))))))))))))))))) none
abbrev sp__law_bent (K:PySem.W.Frag) (cl:Cl):Sp:=lift K (fun x:Addr×Str×Unit=> [kRef x.1,kS x.2.1]) kS (w__law_bent K cl)
theorem ok__law_bent (T:Tx K mg cl):FnG P w K mg base 2 T.a__law_bent T.fd__law_bent ["_law_pot_here","_law_text"] (sp__law_bent K cl):=
  okL T.F__law_bent sc__law_bent (fun _=>rfl) none (fun y e=>nomatch e) (fun cdv A outer s H E hg hr=>by
    refine⟨_,pss_cons (ps_par (i:=2) (j:=3) (by rfl) sc__law_bent.nd rfl rfl (by decide) rfl rfl (pa_cons (pe_fnS ((ok__law_draw T).atS hg (hr.mono (by decide)) (b__law_draw T) .nil (takes_of rfl rfl rfl rfl)) rfl T.g__law_draw T.F__law_draw.kp (pa_cons (pv 0) (pa_cons (pe_op (kx_add (K:=K) rfl) (pe_callB (kx_len (K:=K) rfl) (by rfl) T.z_len bt_len (pa_cons (pv 1) pa_nil)) (pe_int)) pa_nil))) (pa_cons (pe_fnS ((ok__law_draw T).atS hg (hr.mono (by decide)) (b__law_draw T) .nil (takes_of rfl rfl rfl rfl)) rfl T.g__law_draw T.F__law_draw.kp (pa_cons (pv 0) (pa_cons (pe_int) pa_nil))) pa_nil)) (by rfl))
    (pss_cons (ps_set (i:=4) sc__law_bent.nd rfl (by first | exact Or.inl rfl | exact Or.inr rfl) (pe_ix (kx_ix (K:=K) rfl) (pe_str) (pe_fnS ((ok__law_draw T).atS hg (hr.mono (by decide)) (b__law_draw T) .nil (takes_of rfl rfl rfl rfl)) rfl T.g__law_draw T.F__law_draw.kp (pa_cons (pv 0) (pa_cons (pe_int) pa_nil))) (fun _ _=>rfl)))
    (pss_cons (ps_if (pt_cmpR (kx_eq (K:=K) rfl hr) (pv 3) (pe_int) (nomark _)) (pss_one (ps_ret (pe_op (kx_add (K:=K) rfl) (pe_op (kx_add (K:=K) rfl) (pe_slice (kx_sl (K:=K) rfl) (pv 1) po_none (po_some (pv 2))) (pv 4)) (pe_slice (kx_sl (K:=K) rfl) (pv 1) (po_some (pv 2)) po_none)))) pss_nil)
    (pss_cons (ps_if (pt_cmpR (kx_eq (K:=K) rfl hr) (pv 3) (pe_int) (nomark _)) (pss_one (ps_ret (pe_op (kx_add (K:=K) rfl) (pe_slice (kx_sl (K:=K) rfl) (pv 1) po_none (po_some (pv 2))) (pe_slice (kx_sl (K:=K) rfl) (pv 1) (po_some (pe_op (kx_add (K:=K) rfl) (pv 2) (pe_int))) po_none)))) pss_nil)
    (pss_cons (ps_if (pt_cmpR (kx_eq (K:=K) rfl hr) (pv 3) (pe_int) (nomark _)) (pss_one (ps_ret (pe_op (kx_add (K:=K) rfl) (pe_op (kx_add (K:=K) rfl) (pe_slice (kx_sl (K:=K) rfl) (pv 1) po_none (po_some (pv 2))) (pv 4)) (pe_slice (kx_sl (K:=K) rfl) (pv 1) (po_some (pe_op (kx_add (K:=K) rfl) (pv 2) (pe_int))) po_none)))) pss_nil)
    (pss_cons (ps_if (pt_cmpR (kx_eq (K:=K) rfl hr) (pv 3) (pe_int) (nomark _)) (pss_one (ps_ret (pe_ix (kx_ix (K:=K) rfl) (pe_lst (pa_cons (pe_str) (pa_cons (pe_op (kx_add (K:=K) rfl) (pe_str) (pv 1)) (pa_cons (pe_op (kx_add (K:=K) rfl) (pv 1) (pe_str)) (pa_cons (pe_op (kx_add (K:=K) rfl) (pv 1) (pv 1)) (pa_cons (pe_revS (pv 1)) (pa_cons (pe_lower (pv 1)) pa_nil))))))) (pe_fnS ((ok__law_draw T).atS hg (hr.mono (by decide)) (b__law_draw T) .nil (takes_of rfl rfl rfl rfl)) rfl T.g__law_draw T.F__law_draw.kp (pa_cons (pv 0) (pa_cons (pe_int) pa_nil))) (fun _ _=>rfl)))) pss_nil)
    (pss_cons (ps_set (i:=5) sc__law_bent.nd rfl (by first | exact Or.inl rfl | exact Or.inr rfl) (pe_split (pv 1) (pe_str)))
    (pss_cons (ps_set (i:=6) sc__law_bent.nd rfl (by first | exact Or.inl rfl | exact Or.inr rfl) (pe_fnS ((ok__law_draw T).atS hg (hr.mono (by decide)) (b__law_draw T) .nil (takes_of rfl rfl rfl rfl)) rfl T.g__law_draw T.F__law_draw.kp (pa_cons (pv 0) (pa_cons (pe_callB (kx_len (K:=K) rfl) (by rfl) T.z_len bt_len (pa_cons (pv 5) pa_nil)) pa_nil))))
    (pss_cons (ps_if (pt_cmpR (kx_eq (K:=K) rfl hr) (pv 3) (pe_int) (nomark _)) (pss_one (ps_ret (pe_joinK (K:=K) rfl (pe_str) (pe_op (kx_add (K:=K) rfl) (pe_op (kx_add (K:=K) rfl) (pe_slice (kx_sl (K:=K) rfl) (pv 5) po_none (po_some (pv 6))) (pe_lst (pa_cons (pe_ix (kx_ix (K:=K) rfl) (pv 5) (pv 6) (fun _ _=>rfl)) pa_nil))) (pe_slice (kx_sl (K:=K) rfl) (pv 5) (po_some (pv 6)) po_none))))) pss_nil)
    (pss_cons (ps_if (pt_cmpR (kx_eq (K:=K) rfl hr) (pv 3) (pe_int) (nomark _)) (pss_one (ps_ret (pe_joinK (K:=K) rfl (pe_str) (pe_revLK (K:=K) rfl (pv 5))))) pss_nil)
    (pss_cons (ps_if (pt_cmpR (kx_eq (K:=K) rfl hr) (pv 3) (pe_int) (nomark _)) (pss_one (ps_ret (pe_joinK (K:=K) rfl (pe_str) (pe_op (kx_add (K:=K) rfl) (pe_op (kx_add (K:=K) rfl) (pe_slice (kx_sl (K:=K) rfl) (pv 5) po_none (po_some (pv 6))) (pe_lst (pa_cons (pe_op (kx_add (K:=K) rfl) (pe_str) (pe_ix (kx_ix (K:=K) rfl) (pv 5) (pv 6) (fun _ _=>rfl))) pa_nil))) (pe_slice (kx_sl (K:=K) rfl) (pv 5) (po_some (pe_op (kx_add (K:=K) rfl) (pv 6) (pe_int))) po_none))))) pss_nil)
    (pss_cons (ps_set (i:=7) sc__law_bent.nd rfl (by first | exact Or.inl rfl | exact Or.inr rfl) (pe_ix (kx_ix (K:=K) rfl) (pe_lst (pa_cons (pe_str) (pa_cons (pe_str) (pa_cons (pe_str) (pa_cons (pe_str) (pa_cons (pe_str) (pa_cons (pe_str) (pa_cons (pe_str) (pa_cons (pe_callTy call_str_int (by rfl) T.z_str bt_str (pa_cons (pe_fnS ((ok__law_draw T).atS hg (hr.mono (by decide)) (b__law_draw T) .nil (takes_of rfl rfl rfl rfl)) rfl T.g__law_draw T.F__law_draw.kp (pa_cons (pv 0) (pa_cons (pe_int) pa_nil))) pa_nil)) pa_nil))))))))) (pe_fnS ((ok__law_draw T).atS hg (hr.mono (by decide)) (b__law_draw T) .nil (takes_of rfl rfl rfl rfl)) rfl T.g__law_draw T.F__law_draw.kp (pa_cons (pv 0) (pa_cons (pe_int) pa_nil))) (fun _ _=>rfl)))
    (pss_one (ps_ret (pe_joinK (K:=K) rfl (pe_str) (pe_op (kx_add (K:=K) rfl) (pe_op (kx_add (K:=K) rfl) (pe_slice (kx_sl (K:=K) rfl) (pv 5) po_none (po_some (pv 6))) (pe_lst (pa_cons (pv 7) pa_nil))) (pe_slice (kx_sl (K:=K) rfl) (pv 5) (po_some (pe_op (kx_add (K:=K) rfl) (pv 6) (pe_int))) po_none)))))))))))))))),?_⟩
    exact⟨_,fun x=>(simS_seq (simS_par (r:=kI) (s:=kI) le_none (simA_cons (sim_call (cal_lift (w:=w__law_draw K cl)) (simA_cons (sim_var (i:=0) (r:=kRef) (x:=x.1) rfl) (simA_cons (sim_op os_add (sim_callB cb_lenS (simA_cons (sim_var (i:=1) (r:=kS) (x:=x.2.1) rfl) simA_nil)) sim_i) simA_nil))) (simA_cons (sim_call (cal_lift (w:=w__law_draw K cl)) (simA_cons (sim_var (i:=0) (r:=kRef) (x:=x.1) rfl) (simA_cons sim_i simA_nil))) simA_nil)) (fun (y20:Int×Int×Unit)=>(show SimS _ _ ([some (kRef x.1),some (kS x.2.1),some (kI y20.1),some (kI y20.2.1),none,none,none,none]:Gm K) _ _ _ _ from (simS_seq (simS_asg simG_name le_none (sim_op os_ixS sim_s (sim_call (cal_lift (w:=w__law_draw K cl)) (simA_cons (sim_var (i:=0) (r:=kRef) (x:=x.1) rfl) (simA_cons sim_i simA_nil)))) (fun (sign_31:Str)=>(show SimS _ _ ([some (kRef x.1),some (kS x.2.1),some (kI y20.1),some (kI y20.2.1),some (kS sign_31),none,none,none]:Gm K) _ _ _ _ from (simS_seq (simS_if le_none (simB_test (sim_op os_eqI (sim_var (i:=3) (r:=kI) (x:=y20.2.1) rfl) sim_i)) (simS_ret le_none (sim_op os_addS (sim_op os_addS (sim_sl ss_S (sim_var (i:=1) (r:=kS) (x:=x.2.1) rfl) simO_no (simO_some (sim_var (i:=2) (r:=kI) (x:=y20.1) rfl))) (sim_var (i:=4) (r:=kS) (x:=sign_31) rfl)) (sim_sl ss_S (sim_var (i:=1) (r:=kS) (x:=x.2.1) rfl) (simO_some (sim_var (i:=2) (r:=kI) (x:=y20.1) rfl)) simO_no))) (simS_next (simS_seq (simS_if le_none (simB_test (sim_op os_eqI (sim_var (i:=3) (r:=kI) (x:=y20.2.1) rfl) sim_i)) (simS_ret le_none (sim_op os_addS (sim_sl ss_S (sim_var (i:=1) (r:=kS) (x:=x.2.1) rfl) simO_no (simO_some (sim_var (i:=2) (r:=kI) (x:=y20.1) rfl))) (sim_sl ss_S (sim_var (i:=1) (r:=kS) (x:=x.2.1) rfl) (simO_some (sim_op os_add (sim_var (i:=2) (r:=kI) (x:=y20.1) rfl) sim_i)) simO_no))) (simS_next (simS_seq (simS_if le_none (simB_test (sim_op os_eqI (sim_var (i:=3) (r:=kI) (x:=y20.2.1) rfl) sim_i)) (simS_ret le_none (sim_op os_addS (sim_op os_addS (sim_sl ss_S (sim_var (i:=1) (r:=kS) (x:=x.2.1) rfl) simO_no (simO_some (sim_var (i:=2) (r:=kI) (x:=y20.1) rfl))) (sim_var (i:=4) (r:=kS) (x:=sign_31) rfl)) (sim_sl ss_S (sim_var (i:=1) (r:=kS) (x:=x.2.1) rfl) (simO_some (sim_op os_add (sim_var (i:=2) (r:=kI) (x:=y20.1) rfl) sim_i)) simO_no))) (simS_next (simS_seq (simS_if le_none (simB_test (sim_op os_eqI (sim_var (i:=3) (r:=kI) (x:=y20.2.1) rfl) sim_i)) (simS_ret le_none (sim_op os_ixL (sim_lstK (r:=kS) (fun y81:Str×Str×Str×Str×Str×Str×Unit=>([y81.1,y81.2.1,y81.2.2.1,y81.2.2.2.1,y81.2.2.2.2.1,y81.2.2.2.2.2.1]:List Str)) (fun _=>rfl) (fun _=>(by decide:6≤50000)) (simA_cons sim_s (simA_cons (sim_op os_addS sim_s (sim_var (i:=1) (r:=kS) (x:=x.2.1) rfl)) (simA_cons (sim_op os_addS (sim_var (i:=1) (r:=kS) (x:=x.2.1) rfl) sim_s) (simA_cons (sim_op os_addS (sim_var (i:=1) (r:=kS) (x:=x.2.1) rfl) (sim_var (i:=1) (r:=kS) (x:=x.2.1) rfl)) (simA_cons (sim_revS (sim_var (i:=1) (r:=kS) (x:=x.2.1) rfl)) (simA_cons (sim_lower (sim_var (i:=1) (r:=kS) (x:=x.2.1) rfl)) simA_nil))))))) (sim_call (cal_lift (w:=w__law_draw K cl)) (simA_cons (sim_var (i:=0) (r:=kRef) (x:=x.1) rfl) (simA_cons sim_i simA_nil))))) (simS_next (simS_seq (simS_asg simG_name le_none (sim_new (simN_split (sim_var (i:=1) (r:=kS) (x:=x.2.1) rfl) sim_s)) (fun (words_116:List Str)=>(show SimS _ _ ([some (kRef x.1),some (kS x.2.1),some (kI y20.1),some (kI y20.2.1),some (kS sign_31),some ((kL kS) words_116),none,none]:Gm K) _ _ _ _ from (simS_seq (simS_asg simG_name le_none (sim_call (cal_lift (w:=w__law_draw K cl)) (simA_cons (sim_var (i:=0) (r:=kRef) (x:=x.1) rfl) (simA_cons (sim_callB cb_lenL (simA_cons (sim_var (i:=5) (r:=(kL kS)) (x:=words_116) rfl) simA_nil)) simA_nil))) (fun (spot_127:Int)=>(show SimS _ _ ([some (kRef x.1),some (kS x.2.1),some (kI y20.1),some (kI y20.2.1),some (kS sign_31),some ((kL kS) words_116),some (kI spot_127),none]:Gm K) _ _ _ _ from (simS_seq (simS_if le_none (simB_test (sim_op os_eqI (sim_var (i:=3) (r:=kI) (x:=y20.2.1) rfl) sim_i)) (simS_ret le_none (sim_join sim_s (sim_op os_addL (sim_op os_addL (sim_sl ss_L (sim_var (i:=5) (r:=(kL kS)) (x:=words_116) rfl) simO_no (simO_some (sim_var (i:=6) (r:=kI) (x:=spot_127) rfl))) (sim_lstK (r:=kS) (fun y136:Str×Unit=>([y136.1]:List Str)) (fun _=>rfl) (fun _=>(by decide:1≤50000)) (simA_cons (sim_op os_ixL (sim_var (i:=5) (r:=(kL kS)) (x:=words_116) rfl) (sim_var (i:=6) (r:=kI) (x:=spot_127) rfl)) simA_nil))) (sim_sl ss_L (sim_var (i:=5) (r:=(kL kS)) (x:=words_116) rfl) (simO_some (sim_var (i:=6) (r:=kI) (x:=spot_127) rfl)) simO_no)))) (simS_next (simS_seq (simS_if le_none (simB_test (sim_op os_eqI (sim_var (i:=3) (r:=kI) (x:=y20.2.1) rfl) sim_i)) (simS_ret le_none (sim_join sim_s (sim_new (simN_rev (sim_var (i:=5) (r:=(kL kS)) (x:=words_116) rfl))))) (simS_next (simS_seq (simS_if le_none (simB_test (sim_op os_eqI (sim_var (i:=3) (r:=kI) (x:=y20.2.1) rfl) sim_i)) (simS_ret le_none (sim_join sim_s (sim_op os_addL (sim_op os_addL (sim_sl ss_L (sim_var (i:=5) (r:=(kL kS)) (x:=words_116) rfl) simO_no (simO_some (sim_var (i:=6) (r:=kI) (x:=spot_127) rfl))) (sim_lstK (r:=kS) (fun y165:Str×Unit=>([y165.1]:List Str)) (fun _=>rfl) (fun _=>(by decide:1≤50000)) (simA_cons (sim_op os_addS sim_s (sim_op os_ixL (sim_var (i:=5) (r:=(kL kS)) (x:=words_116) rfl) (sim_var (i:=6) (r:=kI) (x:=spot_127) rfl))) simA_nil))) (sim_sl ss_L (sim_var (i:=5) (r:=(kL kS)) (x:=words_116) rfl) (simO_some (sim_op os_add (sim_var (i:=6) (r:=kI) (x:=spot_127) rfl) sim_i)) simO_no)))) (simS_next (simS_seq (simS_asg simG_name le_none (sim_op os_ixL (sim_lstK (r:=kS) (fun y184:Str×Str×Str×Str×Str×Str×Str×Str×Unit=>([y184.1,y184.2.1,y184.2.2.1,y184.2.2.2.1,y184.2.2.2.2.1,y184.2.2.2.2.2.1,y184.2.2.2.2.2.2.1,y184.2.2.2.2.2.2.2.1]:List Str)) (fun _=>rfl) (fun _=>(by decide:8≤50000)) (simA_cons sim_s (simA_cons sim_s (simA_cons sim_s (simA_cons sim_s (simA_cons sim_s (simA_cons sim_s (simA_cons sim_s (simA_cons (sim_callB cb_strI (simA_cons (sim_call (cal_lift (w:=w__law_draw K cl)) (simA_cons (sim_var (i:=0) (r:=kRef) (x:=x.1) rfl) (simA_cons sim_i simA_nil))) simA_nil)) simA_nil))))))))) (sim_call (cal_lift (w:=w__law_draw K cl)) (simA_cons (sim_var (i:=0) (r:=kRef) (x:=x.1) rfl) (simA_cons sim_i simA_nil)))) (fun (more_221:Str)=>(show SimS _ _ ([some (kRef x.1),some (kS x.2.1),some (kI y20.1),some (kI y20.2.1),some (kS sign_31),some ((kL kS) words_116),some (kI spot_127),some (kS more_221)]:Gm K) _ _ _ _ from (simS_ret le_none (sim_join sim_s (sim_op os_addL (sim_op os_addL (sim_sl ss_L (sim_var (i:=5) (r:=(kL kS)) (x:=words_116) rfl) simO_no (simO_some (sim_var (i:=6) (r:=kI) (x:=spot_127) rfl))) (sim_lstK (r:=kS) (fun y228:Str×Unit=>([y228.1]:List Str)) (fun _=>rfl) (fun _=>(by decide:1≤50000)) (simA_cons (sim_var (i:=7) (r:=kS) (x:=more_221) rfl) simA_nil))) (sim_sl ss_L (sim_var (i:=5) (r:=(kL kS)) (x:=words_116) rfl) (simO_some (sim_op os_add (sim_var (i:=6) (r:=kI) (x:=spot_127) rfl) sim_i)) simO_no))))))))))))))))))))))))))))))))))))))))))))),fun _ _ _ _ h=>h⟩)
def w_is_integer_in (K:PySem.W.Frag) (cl:Cl):PyData×Int×Int×Unit→W K Bool:=fun x=>outW (bnd (bnd (bnd (bnd (ret x.1) fun p4=>(bnd (bnd (ret "int") fun p2=>(bnd (ret ()) fun p3=>(ret (p2,p3)))) fun p5=>(ret (p4,p5)))) fun y1=>(wAss (IsTy y1.2.1) (ret (isD y1.1 y1.2.1)))) fun v18=>(wIf v18 (bnd (bnd (bnd (bnd (ret x.1) fun p10=>(bnd (bnd (ret "bool") fun p8=>(bnd (ret ()) fun p9=>(ret (p8,p9)))) fun p11=>(ret (p10,p11)))) fun y7=>(wAss (IsTy y7.2.1) (ret (isD y7.1 y7.2.1)))) fun v6=>(ret (!v6))) fun v17=>(wIf v17 (bnd (ret x.2.1) fun v13=>(bnd (bnd (ret x.1) (wAs PyData.int)) fun v14=>(bnd (ret (decide (v13≤v14))) fun v15=>(wIf v15 (bnd (ret x.2.2.1) fun v16=>(ret (decide (v14≤v16)))) (ret false))))) (ret false))) (ret false))) fun v19=>(ret (Flow.rt v19))) none
abbrev sp_is_integer_in (K:PySem.W.Frag) (cl:Cl):Sp:=lift K (fun x:PyData×Int×Int×Unit=> [kPy x.1,kI x.2.1,kI x.2.2.1]) kB (w_is_integer_in K cl)
theorem okN_is_integer_in (T:Tx K mg cl):FnN P w K mg base 1 T.a_is_integer_in T.fd_is_integer_in ["thing","low","high"] (sp_is_integer_in K cl):=
  okLN T.F_is_integer_in sc_is_integer_in (fun _=>rfl) none (fun y e=>nomatch e) (fun cdv A outer s H E hg hr=>by
    refine⟨_,pss_one (ps_ret (pe_and (pe_callB (kx_isi (K:=K) rfl) (by rfl) T.z_isinstance bt_isinstance (pa_cons (pv 0) (pa_cons (pe_bltn (v:= .ty "int") (by rfl) T.z_int bt_int rfl) pa_nil))) (pe_and (pe_not (pe_callB (kx_isi (K:=K) rfl) (by rfl) T.z_isinstance bt_isinstance (pa_cons (pv 0) (pa_cons (pe_bltn (v:= .ty "bool") (by rfl) T.z_bool bt_bool rfl) pa_nil)))) (pe_one (pe_chain op_le op_le (pv 1) (pv 0) (pv 2)))))),?_⟩
    exact⟨_,fun x=>(simS_ret le_none (sim_andV (sim_callB cb_isi (simA_cons (sim_var (i:=0) (r:=kPy) (x:=x.1) rfl) (simA_cons (sim_ty (T:= "int")) simA_nil))) (sim_andV (sim_notV (sim_callB cb_isi (simA_cons (sim_var (i:=0) (r:=kPy) (x:=x.1) rfl) (simA_cons (sim_ty (T:= "bool")) simA_nil)))) (sim_chain os_B0 os_B0 (sim_var (i:=1) (r:=kI) (x:=x.2.1) rfl) (sim_as oc_I (sim_var (i:=0) (r:=kPy) (x:=x.1) rfl)) (sim_var (i:=2) (r:=kI) (x:=x.2.2.1) rfl))))),fun _ _ _ _ h=>h⟩)
theorem ok_is_integer_in (T:Tx K mg cl):FnG P w K mg base 1 T.a_is_integer_in T.fd_is_integer_in ["thing","low","high"] (sp_is_integer_in K cl):=(okN_is_integer_in T).wk
def w_is_cell (K:PySem.W.Frag) (cl:Cl):PyData×Int×Unit→W K Bool:=fun x=>outW (bnd (bnd (bnd (ret x.1) fun p10=>(bnd (bnd (ret (0:Int)) fun p8=>(bnd (bnd (bnd (ret x.2.1) fun v1=>(bnd (ret (1:Int)) fun v2=>(ret (v1 - v2)))) fun p6=>(bnd (ret ()) fun p7=>(ret (p6,p7)))) fun p9=>(ret (p8,p9)))) fun p11=>(ret (p10,p11)))) fun p3=>(w_is_integer_in K cl p3)) fun v12=>(ret (Flow.rt v12))) none
abbrev sp_is_cell (K:PySem.W.Frag) (cl:Cl):Sp:=lift K (fun x:PyData×Int×Unit=> [kPy x.1,kI x.2.1]) kB (w_is_cell K cl)
theorem okN_is_cell (T:Tx K mg cl):FnN P w K mg base 2 T.a_is_cell T.fd_is_cell ["thing","size"] (sp_is_cell K cl):=
  okLN T.F_is_cell sc_is_cell (fun _=>rfl) none (fun y e=>nomatch e) (fun cdv A outer s H E hg hr=>by
    refine⟨_,pss_one (ps_ret (pe_fnS ((okN_is_integer_in T).atS hg (hr.mono (by decide)) (b_is_integer_in T) .nil (L2N.takes_of rfl rfl rfl rfl)) rfl T.g_is_integer_in T.F_is_integer_in.kp (pa_cons (pv 0) (pa_cons (pe_int) (pa_cons (pe_op op_sub (pv 1) (pe_int)) pa_nil))))),?_⟩
    exact⟨_,fun x=>(simS_ret le_none (sim_call (cal_lift (w:=w_is_integer_in K cl)) (simA_cons (sim_var (i:=0) (r:=kPy) (x:=x.1) rfl) (simA_cons sim_i (simA_cons (sim_op os_I0 (sim_var (i:=1) (r:=kI) (x:=x.2.1) rfl) sim_i) simA_nil))))),fun _ _ _ _ h=>h⟩)
def w_cell_tuple (K:PySem.W.Frag) (cl:Cl):PyData×Int×Unit→W K (List Int):=fun x=>outW (bnd (bnd (bnd (bnd (bnd (ret x.1) fun p14=>(bnd (bnd (bnd (bnd (ret "list") fun p9=>(bnd (bnd (ret "tuple") fun p7=>(bnd (ret ()) fun p8=>(ret (p7,p8)))) fun p10=>(ret (p9,p10)))) fun y6=>(ret (y6.1,y6.2.1))) fun p12=>(bnd (ret ()) fun p13=>(ret (p12,p13)))) fun p15=>(ret (p14,p15)))) fun y11=>(wAss (y11.2.1=("list","tuple")) (ret (isD y11.1 "list" || isD y11.1 "tuple")))) fun v16=>(ret (!v16))) fun v31=>(wIf v31 (ret true) (bnd (bnd (bnd (bnd (wSeq x.1 fun xs=>ret (xs,nI)) fun y19=>(wAss (y19.1.length≤50000) (wCalm (fmapW y19.2 (fun (x18:PyData)=>(ret true)) (fun (x18:PyData)=>(bnd (bnd (ret x18) fun p23=>(bnd (ret ()) fun p24=>(ret (p23,p24)))) fun p20=>(bnd (bnd (ret x.2.1) fun p25=>(bnd (ret ()) fun p26=>(ret (p25,p26)))) fun p21=>(w_is_cell K cl ((fun (x:PyData×Unit) (y:Int×Unit)=>(x.1,y.1,())) p20 p21))))) y19.1)))) fun p28=>(bnd (ret ()) fun p29=>(ret (p28,p29)))) fun y27=>(ret (y27.1.all id))) fun v30=>(ret (!v30))))) fun v62=>(wIf v62 (bnd (bnd (ret x.1) fun p32=>(bnd (ret ()) fun p33=>(ret (p32,p33)))) fun (y:PyData×Unit)=>(wRaise (cl.NoCells,[("cells",kPy y.1)]))) (bnd (bnd (bnd (ret x.1) fun p35=>(bnd (ret ()) fun p36=>(ret (p35,p36)))) fun y34=>(wSortPy y34.1)) fun (found_37:List Int)=>(bnd (bnd (bnd (bnd (bnd (bnd (bnd (ret found_37) fun p45=>(bnd (bnd (bnd (ret found_37) fun v39=>(bnd (bnd (ret (1:Int)) fun v40=>(ret (some v40))) fun v41=>(bnd (ret none) fun v42=>(ret (sli v39 v41 v42))))) fun p43=>(bnd (ret ()) fun p44=>(ret (p43,p44)))) fun p46=>(ret (p45,p46)))) fun y38=>(ret (y38.1.zip y38.2.1,nI))) fun y48=>(wAss (y48.1.length≤50000) (wCalm (fmapW y48.2 (fun (x47:(Int×Int))=>(ret true)) (fun (x47:(Int×Int))=>(bnd (ret x47.1) fun v49=>(bnd (ret x47.2) fun v50=>(ret (decide (v49<v50)))))) y48.1)))) fun p52=>(bnd (ret ()) fun p53=>(ret (p52,p53)))) fun y51=>(ret (y51.1.all id))) fun v54=>(ret (!v54))) fun v61=>(wIf v61 (bnd (bnd (ret x.1) fun p55=>(bnd (ret ()) fun p56=>(ret (p55,p56)))) fun (y:PyData×Unit)=>(wRaise (cl.NoCells,[("cells",kPy y.1)]))) (bnd (bnd (bnd (ret found_37) fun p58=>(bnd (ret ()) fun p59=>(ret (p58,p59)))) fun y57=>(ret y57.1)) fun v60=>(ret (Flow.rt v60)))))))) none
abbrev sp_cell_tuple (K:PySem.W.Frag) (cl:Cl):Sp:=lift K (fun x:PyData×Int×Unit=> [kPy x.1,kI x.2.1]) (kT kI) (w_cell_tuple K cl)
theorem okN_cell_tuple (T:Tx K mg cl):FnN P w K mg base 3 T.a_cell_tuple T.fd_cell_tuple ["things","size"] (sp_cell_tuple K cl):=
  okLN T.F_cell_tuple sc_cell_tuple (fun _=>rfl) none (fun y e=>nomatch e) (fun cdv A outer s H E hg hr=>by
    refine⟨_,pss_cons (ps_if (PW.pt (pw_or (pt_not (pt_val (pe_callB (kx_isiT (K:=K) rfl) (by rfl) T.z_isinstance bt_isinstance (pa_cons (pv 0) (pa_cons (pe_tup (pa_cons (pe_bltn (v:= .ty "list") (by rfl) T.z_list bt_list rfl) (pa_cons (pe_bltn (v:= .ty "tuple") (by rfl) T.z_tuple bt_tuple rfl) pa_nil))) pa_nil))))) (pw_or1 (pt_not (pt_val (pe_callB (kx_all (K:=K) rfl rfl) (by rfl) T.z_all bt_all (pa_cons (pe_lc (own:= [("one",2)]) (g:=gName 2) (tt:=tYes)  rfl sc_cell_tuple.nd (pi_seq (K:=K) rfl (pv 0)) (blkOk_by (own:= [("one",2)]) (N:=N_cell_tuple) (sc:=defScope st_cell_tuple) (by decide +kernel)) (fun _ _ _ _ _=>pg_name (i:=2) sc_cell_tuple.nd rfl (by first | exact Or.inl rfl | exact Or.inr rfl)) (fun _ _ _ _ _=>pts_nil) (fun _ _ _ _ _=>pe_fnKS ((okN_is_cell T).atKS hg (hr.mono (by decide)) (kb_is_cell__1_size T) takes0N) rfl T.g_is_cell T.F_is_cell.kp (pa_cons (pv 2) pa_nil) (pk_cons (pv 1) pk_nil))) pa_nil))))))) (pss_one (ps_errN (k:=0) rfl T.e_NoCells er_rel1 (hr.mono (by decide)) (L2N.takes_of rfl rfl rfl rfl) (pa_cons (pv 0) pa_nil) rfl)) pss_nil)
    (pss_cons (ps_set (i:=3) sc_cell_tuple.nd rfl (by first | exact Or.inl rfl | exact Or.inr rfl) (pe_callB (kx_sorted (K:=K) rfl) (by rfl) T.z_sorted bt_sorted (pa_cons (pv 0) pa_nil)))
    (pss_cons (ps_if (pt_not (pt_val (pe_callB (kx_all (K:=K) rfl rfl) (by rfl) T.z_all bt_all (pa_cons (pe_lc (own:= [("one",2),("other",4)]) (g:=gTup K 2 (gCons (gName 2) (gCons (gName 4) (gNil)))) (tt:=tYes)  rfl sc_cell_tuple.nd (pi_zipK (K:=K) rfl (by rfl) T.z_zip (pa_cons (pv 3) (pa_cons (pe_slice (kx_sl (K:=K) rfl) (pv 3) (po_some (pe_int)) po_none) pa_nil))) (blkOk_by (own:= [("one",2),("other",4)]) (N:=N_cell_tuple) (sc:=defScope st_cell_tuple) (by decide +kernel)) (fun _ _ _ _ _=>pg_tupK (K:=K) rfl rfl (pgs_cons (pg_name (i:=2) sc_cell_tuple.nd rfl (by first | exact Or.inl rfl | exact Or.inr rfl)) (pgs_cons (pg_name (i:=4) sc_cell_tuple.nd rfl (by first | exact Or.inl rfl | exact Or.inr rfl)) pgs_nil))) (fun _ _ _ _ _=>pts_nil) (fun _ _ _ _ _=>pe_cmpR op_lt (pv 2) (pv 4) (nomark _))) pa_nil)))) (pss_one (ps_errN (k:=0) rfl T.e_NoCells er_rel1 (hr.mono (by decide)) (L2N.takes_of rfl rfl rfl rfl) (pa_cons (pv 0) pa_nil) rfl)) pss_nil)
    (pss_one (ps_ret (pe_callTy (kx_tuple (K:=K) rfl) (by rfl) T.z_tuple bt_tuple (pa_cons (pv 3) pa_nil)))))),?_⟩
    exact⟨_,fun x=>(simS_seq (simS_if le_none (simB_or (simB_not (simB_B (sim_callB cb_isiT2 (simA_cons (sim_var (i:=0) (r:=kPy) (x:=x.1) rfl) (simA_cons (sim_pair (simA_cons (sim_ty (T:= "list")) (simA_cons (sim_ty (T:= "tuple")) simA_nil))) simA_nil))))) (simB_not (simB_B (sim_callB cb_all (simA_cons (sim_lc (simI_py (i:=0) (d:=x.1) rfl) simG_name (fun _ _ hy=>hy) (fun (x18:PyData)=>simB_yes) (fun (x18:PyData)=>(sim_callK (cal_liftK (δ':=fun x:PyData×Int×Unit=> [kPy x.1,kI x.2.1]) (w:=w_is_cell K cl) (fun (x:PyData×Unit) (y:Int×Unit)=>(x.1,y.1,())) (by rintro Z H x y vs zs ⟨_,_,rfl,a0,rfl⟩ ⟨_,_,rfl,a1,rfl⟩;exact⟨_,_,rfl,a0,_,_,rfl,a1,rfl⟩)) (simA_cons (sim_var (i:=2) (r:=kPy) (x:=x18) rfl) simA_nil) (simA_cons (sim_var (i:=1) (r:=kI) (x:=x.2.1) rfl) simA_nil)))) simA_nil))))) (simS_raise le_none (simA_cons (sim_var (i:=0) (r:=kPy) (x:=x.1) rfl) simA_nil) (fun (y:PyData×Unit)=> [("cells",kPy y.1)]) (by rintro y Z H vs ⟨v,_,rfl,h,rfl⟩;exact⟨v,[],rfl,rfl,v,[],rfl,h,rfl⟩)) (simS_next (simS_seq (simS_asg simG_name le_none (sim_callB cb_sortedPy (simA_cons (sim_var (i:=0) (r:=kPy) (x:=x.1) rfl) simA_nil)) (fun (found_37:List Int)=>(show SimS _ _ ([some (kPy x.1),some (kI x.2.1),none,some ((kL kI) found_37),none]:Gm K) _ _ _ _ from (simS_seq (simS_if le_none (simB_not (simB_B (sim_callB cb_all (simA_cons (sim_lc (simI_zip (simA_cons (sim_var (i:=3) (r:=(kL kI)) (x:=found_37) rfl) (simA_cons (sim_sl ss_L (sim_var (i:=3) (r:=(kL kI)) (x:=found_37) rfl) (simO_some sim_i) simO_no) simA_nil))) (simG_pair simG_name simG_name) (fun _ _ hy=>hy) (fun (x47:(Int×Int))=>simB_yes) (fun (x47:(Int×Int))=>(sim_op os_B0 (sim_var (i:=2) (r:=kI) (x:=x47.1) rfl) (sim_var (i:=4) (r:=kI) (x:=x47.2) rfl)))) simA_nil)))) (simS_raise le_none (simA_cons (sim_var (i:=0) (r:=kPy) (x:=x.1) rfl) simA_nil) (fun (y:PyData×Unit)=> [("cells",kPy y.1)]) (by rintro y Z H vs ⟨v,_,rfl,h,rfl⟩;exact⟨v,[],rfl,rfl,v,[],rfl,h,rfl⟩)) (simS_next (simS_ret le_none (sim_callB cb_tupleL (simA_cons (sim_var (i:=3) (r:=(kL kI)) (x:=found_37) rfl) simA_nil))))))))))))),fun _ _ _ _ h=>h⟩)
theorem ok_cell_tuple (T:Tx K mg cl):FnG P w K mg base 3 T.a_cell_tuple T.fd_cell_tuple ["things","size"] (sp_cell_tuple K cl):=(okN_cell_tuple T).wk
def w_cells_text (K:PySem.W.Frag) (cl:Cl):PyData×Unit→W K Str:=fun x=>outW (bnd (bnd (bnd (ret x.1) fun p4=>(bnd (ret ()) fun p5=>(ret (p4,p5)))) fun p1=>(w_cell_tuple K cl ((fun x:PyData×Unit=>(x.1,(40:Int),())) p1))) fun (found_6:List Int)=>(bnd (bnd (bnd (bnd (ret found_6) fun v8=>(ret ((fun xs=>PyData.tuple (xs.map PyData.int)) v8))) fun v10=>(bnd (bnd (bnd (ret ()) fun y7=>(ret ([]:List Int))) fun v9=>(ret ((fun xs=>PyData.tuple (xs.map PyData.int)) v9))) fun v11=>(wAss (SeqAt.shaped v10=true∧SeqAt.shaped v11=true) (ret (!PyData.eqv v10 v11))))) fun v20=>(wIf v20 (bnd (ret ("," :Str)) fun v12=>(bnd (bnd (bnd (ret found_6) fun y14=>(ret (y14,nI))) fun y16=>(wAss (y16.1.length≤50000) (wCalm (fmapW y16.2 (fun (x15:Int)=>(ret true)) (fun (x15:Int)=>(bnd (bnd (ret x15) fun p18=>(bnd (ret ()) fun p19=>(ret (p18,p19)))) fun y17=>(wAss (y17.1.natAbs.log2<1920) (ret (toString y17.1:Str))))) y16.1)))) fun v13=>(wAss ((v13.map (·.length)).sum+v13.length * v12.length≤16777216) (ret (Txt.join v12 v13))))) (ret ("-" :Str)))) fun v21=>(ret (Flow.rt v21)))) none
abbrev sp_cells_text (K:PySem.W.Frag) (cl:Cl):Sp:=lift K (fun x:PyData×Unit=> [kPy x.1]) kS (w_cells_text K cl)
theorem ok_cells_text (T:Tx K mg cl):FnG P w K mg base 4 T.a_cells_text T.fd_cells_text ["cells"] (sp_cells_text K cl):=
  okL T.F_cells_text sc_cells_text (fun _=>rfl) none (fun y e=>nomatch e) (fun cdv A outer s H E hg hr=>by
    refine⟨_,pss_cons (ps_set (i:=1) sc_cells_text.nd rfl (by first | exact Or.inl rfl | exact Or.inr rfl) (pe_fnS ((ok_cell_tuple T).atS hg (hr.mono (by decide)) (b_cell_tuple T).choose_spec.2 (b_cell_tuple T).choose_spec.1 (takes_of rfl rfl rfl rfl)) rfl T.g_cell_tuple T.F_cell_tuple.kp (pa_cons (pv 0) pa_nil)))
    (pss_one (ps_ret (pe_ifExp (pt_cmpR (kx_ne (K:=K) rfl hr) (pv 1) (pe_tup (pa_nil)) (nomark _)) (pe_joinK (K:=K) rfl (pe_glob (v:=(.str ",")) rfl T.c_BETWEEN ⟨_,rfl⟩) (pe_lc (own:= [("cell",2)]) (g:=gName 2) (tt:=tYes)  rfl sc_cells_text.nd (pi_tupK rfl (pv 1)) (blkOk_by (own:= [("cell",2)]) (N:=N_cells_text) (sc:=defScope st_cells_text) (by decide +kernel)) (fun _ _ _ _ _=>pg_name (i:=2) sc_cells_text.nd rfl (by first | exact Or.inl rfl | exact Or.inr rfl)) (fun _ _ _ _ _=>pts_nil) (fun _ _ _ _ _=>pe_callTy call_str_int (by rfl) T.z_str bt_str (pa_cons (pv 2) pa_nil)))) (pe_glob (v:=(.str "-")) rfl T.c_NO_CELLS ⟨_,rfl⟩)))),?_⟩
    exact⟨_,fun x=>(simS_seq (simS_asg simG_name le_none (sim_call (cal_liftD (δ':=fun x:PyData×Int×Unit=> [kPy x.1,kI x.2.1]) (w:=w_cell_tuple K cl) (fun x:PyData×Unit=>(x.1,(40:Int),())) [kI (40:Int)] (fun _=>rfl) (fun _ _=>⟨_,_,rfl,mk_int,rfl⟩)) (simA_cons (sim_var (i:=0) (r:=kPy) (x:=x.1) rfl) simA_nil)) (fun (found_6:List Int)=>(show SimS _ _ ([some (kPy x.1),some ((kT kI) found_6),none]:Gm K) _ _ _ _ from (simS_ret le_none (sim_if (simB_test (sim_op os_neP (sim_co (sim_var (i:=1) (r:=(kT kI)) (x:=found_6) rfl) (co_TP co_I)) (sim_co (sim_tupK (r:=kI) (fun y7:Unit=>([]:List Int)) (fun _=>rfl) (fun _=>(by decide:0≤50000)) simA_nil) (co_TP co_I)))) (sim_join sim_s (sim_lc (simI_tup (r:=kI) (sim_var (i:=1) (r:=(kT kI)) (x:=found_6) rfl)) simG_name (fun _ _ hy=>hy) (fun (x15:Int)=>simB_yes) (fun (x15:Int)=>(sim_callB cb_strI (simA_cons (sim_var (i:=2) (r:=kI) (x:=x15) rfl) simA_nil))))) sim_s)))))),fun _ _ _ _ h=>h⟩)
def w_number_in (K:PySem.W.Frag) (cl:Cl):Str×Int×Unit→W K (Option Int):=fun x=>outW (bnd (bnd (bnd (bnd (ret (1:Int)) fun v4=>(bnd (bnd (bnd (ret x.1) fun p2=>(bnd (ret ()) fun p3=>(ret (p2,p3)))) fun y1=>(wAss (y1.1.length≤50000) (ret (y1.1.length:Int)))) fun v5=>(bnd (ret (decide (v4≤v5))) fun v6=>(wIf v6 (bnd (ret x.2.1) fun v7=>(ret (decide (v5≤v7)))) (ret false))))) fun v8=>(ret (!v8))) fun v18=>(wIf v18 (ret true) (bnd (bnd (bnd (bnd (bnd (ret x.1) fun y9=>(ret (TL.signs y9,nI))) fun y11=>(wAss (y11.1.length≤50000) (wCalm (fmapW y11.2 (fun (x10:Str)=>(ret true)) (fun (x10:Str)=>(bnd (ret x10) fun v12=>(bnd (ret ("0123456789" :Str)) fun v13=>(wInC v12 v13)))) y11.1)))) fun p15=>(bnd (ret ()) fun p16=>(ret (p15,p16)))) fun y14=>(ret (y14.1.all id))) fun v17=>(ret (!v17))))) fun v40=>(wIf v40 (bnd (bnd (ret ()) fun v19=>(ret ((fun _=>none:Unit→Option Int) v19))) fun v20=>(ret (Flow.rt v20))) (bnd (bnd (bnd (bnd (ret x.1) fun v22=>(bnd (ret (0:Int)) fun v23=>(wIxS v22 v23))) fun v24=>(bnd (ret ("0" :Str)) fun v25=>(ret (decide (v24=v25))))) fun v31=>(wIf v31 (bnd (bnd (bnd (ret x.1) fun p27=>(bnd (ret ()) fun p28=>(ret (p27,p28)))) fun y26=>(wAss (y26.1.length≤50000) (ret (y26.1.length:Int)))) fun v29=>(bnd (ret (1:Int)) fun v30=>(ret (decide (v30<v29))))) (ret false))) fun v39=>(wIf v39 (bnd (bnd (ret ()) fun v32=>(ret ((fun _=>none:Unit→Option Int) v32))) fun v33=>(ret (Flow.rt v33))) (bnd (bnd (bnd (bnd (ret x.1) fun p35=>(bnd (ret ()) fun p36=>(ret (p35,p36)))) fun y34=>(wInt y34.1)) fun v37=>(ret (some v37))) fun v38=>(ret (Flow.rt v38))))))) (some none)
abbrev sp_number_in (K:PySem.W.Frag) (cl:Cl):Sp:=lift K (fun x:Str×Int×Unit=> [kS x.1,kI x.2.1]) (kO kI) (w_number_in K cl)
theorem ok_number_in (T:Tx K mg cl):FnG P w K mg base 1 T.a_number_in T.fd_number_in ["word","most"] (sp_number_in K cl):=
  okLP T.F_number_in sc_number_in (fun _=>rfl) (some none) (fun y e=>by cases e;rfl) (fun cdv A outer s H E hg hr=>by
    refine⟨_,pss_cons (ps_if (PW.pt (pw_or (pt_not (pt_chain op_le op_le (pe_int) (pe_callB (kx_len (K:=K) rfl) (by rfl) T.z_len bt_len (pa_cons (pv 0) pa_nil)) (pv 1))) (pw_or1 (pt_not (pt_val (pe_callB (kx_all (K:=K) rfl rfl) (by rfl) T.z_all bt_all (pa_cons (pe_lc (own:= [("sign",2)]) (g:=gName 2) (tt:=tYes)  rfl sc_number_in.nd (pi_str (pv 0)) (blkOk_by (own:= [("sign",2)]) (N:=N_number_in) (sc:=defScope st_number_in) (by decide +kernel)) (fun _ _ _ _ _=>pg_name (i:=2) sc_number_in.nd rfl (by first | exact Or.inl rfl | exact Or.inr rfl)) (fun _ _ _ _ _=>pts_nil) (fun _ _ _ _ _=>pe_cmpR (kx_in (K:=K) rfl) (pv 2) (pe_glob (v:=(.str "0123456789")) rfl T.c_DIGITS ⟨_,rfl⟩) rfl)) pa_nil))))))) (pss_one (ps_ret (pe_non))) pss_nil)
    (pss_cons (ps_if (PW.pt (pw_and (pt_cmpR (kx_eq (K:=K) rfl hr) (pe_ix (kx_ix (K:=K) rfl) (pv 0) (pe_int) (fun _ _=>rfl)) (pe_str) (nomark _)) (pw_and1 (pt_cmpR op_gt (pe_callB (kx_len (K:=K) rfl) (by rfl) T.z_len bt_len (pa_cons (pv 0) pa_nil)) (pe_int) (nomark _))))) (pss_one (ps_ret (pe_non))) pss_nil)
    (pss_one (ps_ret (pe_callTy call_int_str (by rfl) T.z_int bt_int (pa_cons (pv 0) pa_nil))))),?_⟩
    exact⟨_,fun x=>(simS_seq (simS_if le_none (simB_or (simB_not (simB_test (sim_chain os_B0 os_B0 sim_i (sim_callB cb_lenS (simA_cons (sim_var (i:=0) (r:=kS) (x:=x.1) rfl) simA_nil)) (sim_var (i:=1) (r:=kI) (x:=x.2.1) rfl)))) (simB_not (simB_B (sim_callB cb_all (simA_cons (sim_lc (simI_str (sim_var (i:=0) (r:=kS) (x:=x.1) rfl)) simG_name (fun _ _ hy=>hy) (fun (x10:Str)=>simB_yes) (fun (x10:Str)=>(sim_op os_inC (sim_var (i:=2) (r:=kS) (x:=x10) rfl) sim_s))) simA_nil))))) (simS_ret le_none (sim_co sim_n (co_none (r:=kI)))) (simS_next (simS_seq (simS_if le_none (simB_and (simB_test (sim_op os_eqS (sim_op os_ixS (sim_var (i:=0) (r:=kS) (x:=x.1) rfl) sim_i) sim_s)) (simB_test (sim_op os_B0 (sim_callB cb_lenS (simA_cons (sim_var (i:=0) (r:=kS) (x:=x.1) rfl) simA_nil)) sim_i))) (simS_ret le_none (sim_co sim_n (co_none (r:=kI)))) (simS_next (simS_ret le_none (sim_co (sim_callB cb_intS (simA_cons (sim_var (i:=0) (r:=kS) (x:=x.1) rfl) simA_nil)) co_some)))))))),fun _ _ _ _ h=>h⟩)
def w_cells_written (K:PySem.W.Frag) (cl:Cl):PyData×Unit→W K (Option (List Int)):=fun x=>outW (bnd (bnd (bnd (bnd (ret x.1) fun p4=>(bnd (bnd (ret "str") fun p2=>(bnd (ret ()) fun p3=>(ret (p2,p3)))) fun p5=>(ret (p4,p5)))) fun y1=>(wAss (IsTy y1.2.1) (ret (isD y1.1 y1.2.1)))) fun v6=>(ret (!v6))) fun v70=>(wIf v70 (bnd (bnd (ret ()) fun v7=>(ret ((fun _=>none:Unit→Option (List Int)) v7))) fun v8=>(ret (Flow.rt v8))) (bnd (bnd (ret x.1) fun v10=>(bnd (bnd (ret ("-" :Str)) fun v9=>(ret (PyData.str v9))) fun v11=>(wAss (SeqAt.shaped v10=true∧SeqAt.shaped v11=true) (ret (PyData.eqv v10 v11))))) fun v69=>(wIf v69 (bnd (bnd (bnd (ret ()) fun y12=>(ret ([]:List Int))) fun v13=>(ret (some v13))) fun v14=>(ret (Flow.rt v14))) (bnd (bnd (bnd (bnd (bnd (bnd (bnd (ret x.1) (wAs PyData.str)) fun v16=>(bnd (ret ("," :Str)) fun v17=>(wAss (v17.length≠0∧v16.length≤50000) (ret (Txt.split v16 v17))))) fun y15=>(ret (y15,nI))) fun y20=>(wAss (y20.1.length≤50000) (wCalm (fmapW y20.2 (fun (x19:Str)=>(ret true)) (fun (x19:Str)=>(bnd (bnd (ret x19) fun p24=>(bnd (ret ()) fun p25=>(ret (p24,p25)))) fun p21=>(w_number_in K cl ((fun x:Str×Unit=>(x.1,(30:Int),())) p21)))) y20.1)))) fun p27=>(bnd (ret ()) fun p28=>(ret (p27,p28)))) fun y26=>(ret y26.1)) fun (found_29:List (Option Int))=>(bnd (bnd (bnd (bnd (bnd (bnd (ret found_29) fun y30=>(ret (y30,nI))) fun y32=>(wAss (y32.1.length≤50000) (wCalm (fmapW y32.2 (fun (x31:Option Int)=>(ret true)) (fun (x31:Option Int)=>(bnd (bnd (ret x31) fun v33=>(bnd (ret ()) fun v34=>(ret (!v33.isNone)))) fun v38=>(wIf v38 (bnd (bnd (ret x31) wSome) fun v36=>(bnd (ret (40:Int)) fun v37=>(ret (decide (v36<v37))))) (ret false)))) y32.1)))) fun p40=>(bnd (ret ()) fun p41=>(ret (p40,p41)))) fun y39=>(ret (y39.1.all id))) fun v42=>(ret (!v42))) fun v68=>(wIf v68 (bnd (bnd (ret ()) fun v43=>(ret ((fun _=>none:Unit→Option (List Int)) v43))) fun v44=>(ret (Flow.rt v44))) (bnd (bnd (bnd (bnd (bnd (bnd (bnd (ret found_29) fun p52=>(bnd (bnd (bnd (ret found_29) fun v46=>(bnd (bnd (ret (1:Int)) fun v47=>(ret (some v47))) fun v48=>(bnd (ret none) fun v49=>(ret (sli v46 v48 v49))))) fun p50=>(bnd (ret ()) fun p51=>(ret (p50,p51)))) fun p53=>(ret (p52,p53)))) fun y45=>(ret (y45.1.zip y45.2.1,nI))) fun y55=>(wAss (y55.1.length≤50000) (wCalm (fmapW y55.2 (fun (x54:((Option Int)×(Option Int)))=>(ret true)) (fun (x54:((Option Int)×(Option Int)))=>(bnd (bnd (ret x54.1) wSome) fun v58=>(bnd (bnd (ret x54.2) wSome) fun v59=>(ret (decide (v58<v59)))))) y55.1)))) fun p61=>(bnd (ret ()) fun p62=>(ret (p61,p62)))) fun y60=>(ret (y60.1.all id))) fun v66=>(wIf v66 (bnd (bnd (ret found_29) wSomes) fun v63=>(ret (some v63))) (bnd (ret ()) fun v65=>(ret ((fun _=>none:Unit→Option (List Int)) v65))))) fun v67=>(ret (Flow.rt v67)))))))))) (some none)
abbrev sp_cells_written (K:PySem.W.Frag) (cl:Cl):Sp:=lift K (fun x:PyData×Unit=> [kPy x.1]) (kO (kT kI)) (w_cells_written K cl)
theorem ok_cells_written (T:Tx K mg cl):FnG P w K mg base 2 T.a_cells_written T.fd_cells_written ["text"] (sp_cells_written K cl):=
  okL T.F_cells_written sc_cells_written (fun _=>rfl) (some none) (fun y e=>by cases e;rfl) (fun cdv A outer s H E hg hr=>by
    refine⟨_,pss_cons (ps_if (pt_not (pt_val (pe_callB (kx_isi (K:=K) rfl) (by rfl) T.z_isinstance bt_isinstance (pa_cons (pv 0) (pa_cons (pe_bltn (v:= .ty "str") (by rfl) T.z_str bt_str rfl) pa_nil))))) (pss_one (ps_ret (pe_non))) pss_nil)
    (pss_cons (ps_if (pt_cmpR (kx_eq (K:=K) rfl hr) (pv 0) (pe_glob (v:=(.str "-")) rfl T.c_NO_CELLS ⟨_,rfl⟩) (nomark _)) (pss_one (ps_ret (pe_tup (pa_nil)))) pss_nil)
    (pss_cons (ps_set (i:=1) sc_cells_written.nd rfl (by first | exact Or.inl rfl | exact Or.inr rfl) (pe_callTy (kx_tuple (K:=K) rfl) (by rfl) T.z_tuple bt_tuple (pa_cons (pe_lc (own:= [("word",2)]) (g:=gName 2) (tt:=tYes)  rfl sc_cells_written.nd (pi_listK rfl (pe_split (pv 0) (pe_glob (v:=(.str ",")) rfl T.c_BETWEEN ⟨_,rfl⟩))) (blkOk_by (own:= [("word",2)]) (N:=N_cells_written) (sc:=defScope st_cells_written) (by decide +kernel)) (fun _ _ _ _ _=>pg_name (i:=2) sc_cells_written.nd rfl (by first | exact Or.inl rfl | exact Or.inr rfl)) (fun _ _ _ _ _=>pts_nil) (fun _ _ _ _ _=>pe_fnS ((ok_number_in T).atS hg (hr.mono (by decide)) (b_number_in T).choose_spec.2 (b_number_in T).choose_spec.1 takes0) rfl T.g_number_in T.F_number_in.kp (pa_cons (pv 2) pa_nil))) pa_nil)))
    (pss_cons (ps_if (pt_not (pt_val (pe_callB (kx_all (K:=K) rfl rfl) (by rfl) T.z_all bt_all (pa_cons (pe_lc (own:= [("cell",3)]) (g:=gName 3) (tt:=tYes)  rfl sc_cells_written.nd (pi_tupK rfl (pv 1)) (blkOk_by (own:= [("cell",3)]) (N:=N_cells_written) (sc:=defScope st_cells_written) (by decide +kernel)) (fun _ _ _ _ _=>pg_name (i:=3) sc_cells_written.nd rfl (by first | exact Or.inl rfl | exact Or.inr rfl)) (fun _ _ _ _ _=>pts_nil) (fun _ _ _ _ _=>pe_and (pe_cmpR op_notN (pv 3) (pe_non) (nomark _)) (pe_one (pe_cmpR op_lt (pv 3) (pe_glob (v:=(.int 40)) rfl T.c_MOST_CELLS ⟨_,rfl⟩) (nomark _))))) pa_nil)))) (pss_one (ps_ret (pe_non))) pss_nil)
    (pss_one (ps_ret (pe_ifExp (pt_val (pe_callB (kx_all (K:=K) rfl rfl) (by rfl) T.z_all bt_all (pa_cons (pe_lc (own:= [("one",4),("other",5)]) (g:=gTup K 2 (gCons (gName 4) (gCons (gName 5) (gNil)))) (tt:=tYes)  rfl sc_cells_written.nd (pi_zipK (K:=K) rfl (by rfl) T.z_zip (pa_cons (pv 1) (pa_cons (pe_slice (kx_sl (K:=K) rfl) (pv 1) (po_some (pe_int)) po_none) pa_nil))) (blkOk_by (own:= [("one",4),("other",5)]) (N:=N_cells_written) (sc:=defScope st_cells_written) (by decide +kernel)) (fun _ _ _ _ _=>pg_tupK (K:=K) rfl rfl (pgs_cons (pg_name (i:=4) sc_cells_written.nd rfl (by first | exact Or.inl rfl | exact Or.inr rfl)) (pgs_cons (pg_name (i:=5) sc_cells_written.nd rfl (by first | exact Or.inl rfl | exact Or.inr rfl)) pgs_nil))) (fun _ _ _ _ _=>pts_nil) (fun _ _ _ _ _=>pe_cmpR op_lt (pv 4) (pv 5) (nomark _))) pa_nil))) (pv 1) (pe_non))))))),?_⟩
    exact⟨_,fun x=>(simS_seq (simS_if le_none (simB_not (simB_B (sim_callB cb_isi (simA_cons (sim_var (i:=0) (r:=kPy) (x:=x.1) rfl) (simA_cons (sim_ty (T:= "str")) simA_nil))))) (simS_ret le_none (sim_co sim_n (co_none (r:=(kT kI))))) (simS_next (simS_seq (simS_if le_none (simB_test (sim_op os_eqP (sim_var (i:=0) (r:=kPy) (x:=x.1) rfl) (sim_co sim_s co_S))) (simS_ret le_none (sim_co (sim_tupK (r:=kI) (fun y12:Unit=>([]:List Int)) (fun _=>rfl) (fun _=>(by decide:0≤50000)) simA_nil) co_some)) (simS_next (simS_seq (simS_asg simG_name le_none (sim_callB cb_tupleL (simA_cons (sim_lc (simI_list (r:=kS) (sim_new (simN_split (sim_as oc_S (sim_var (i:=0) (r:=kPy) (x:=x.1) rfl)) sim_s))) simG_name (fun _ _ hy=>hy) (fun (x19:Str)=>simB_yes) (fun (x19:Str)=>(sim_call (cal_liftD (δ':=fun x:Str×Int×Unit=> [kS x.1,kI x.2.1]) (w:=w_number_in K cl) (fun x:Str×Unit=>(x.1,(30:Int),())) [kI (30:Int)] (fun _=>rfl) (fun _ _=>⟨_,_,rfl,mk_int,rfl⟩)) (simA_cons (sim_var (i:=2) (r:=kS) (x:=x19) rfl) simA_nil)))) simA_nil)) (fun (found_29:List (Option Int))=>(show SimS _ _ ([some (kPy x.1),some ((kT (kO kI)) found_29),none,none,none,none]:Gm K) _ _ _ _ from (simS_seq (simS_if le_none (simB_not (simB_B (sim_callB cb_all (simA_cons (sim_lc (simI_tup (r:=(kO kI)) (sim_var (i:=1) (r:=(kT (kO kI))) (x:=found_29) rfl)) simG_name (fun _ _ hy=>hy) (fun (x31:Option Int)=>simB_yes) (fun (x31:Option Int)=>(sim_andV (sim_op (os_notNO sm_I) (sim_var (i:=3) (r:=(kO kI)) (x:=x31) rfl) sim_n) (sim_op os_B0 (sim_some (r:=kI) (sim_var (i:=3) (r:=(kO kI)) (x:=x31) rfl)) sim_i)))) simA_nil)))) (simS_ret le_none (sim_co sim_n (co_none (r:=(kT kI))))) (simS_next (simS_ret le_none (sim_if (simB_B (sim_callB cb_all (simA_cons (sim_lc (simI_zipT (simA_cons (sim_var (i:=1) (r:=(kT (kO kI))) (x:=found_29) rfl) (simA_cons (sim_sl ss_T (sim_var (i:=1) (r:=(kT (kO kI))) (x:=found_29) rfl) (simO_some sim_i) simO_no) simA_nil))) (simG_pair simG_name simG_name) (fun _ _ hy=>hy) (fun (x54:((Option Int)×(Option Int)))=>simB_yes) (fun (x54:((Option Int)×(Option Int)))=>(sim_op os_B0 (sim_some (r:=kI) (sim_var (i:=4) (r:=(kO kI)) (x:=x54.1) rfl)) (sim_some (r:=kI) (sim_var (i:=5) (r:=(kO kI)) (x:=x54.2) rfl))))) simA_nil))) (sim_co (sim_somesT (r:=kI) (sim_var (i:=1) (r:=(kT (kO kI))) (x:=found_29) rfl)) co_some) (sim_co sim_n (co_none (r:=(kT kI))))))))))))))))))),fun _ _ _ _ h=>h⟩)
def w_read_cells (K:PySem.W.Frag) (cl:Cl):PyData×Unit→W K (List Int):=fun x=>outW (bnd (bnd (bnd (ret x.1) fun p4=>(bnd (ret ()) fun p5=>(ret (p4,p5)))) fun p1=>(w_cells_written K cl p1)) fun (found_6:Option (List Int))=>(bnd (bnd (ret found_6) fun v7=>(bnd (ret ()) fun v8=>(ret (v7.isNone)))) fun v13=>(wIf v13 (bnd (bnd (ret (0:Int)) fun p9=>(bnd (ret ()) fun p10=>(ret (p9,p10)))) fun (y:Int×Unit)=>(wRaise (cl.NoText,[("line",kI y.1)]))) (bnd (bnd (ret found_6) wSome) fun v12=>(ret (Flow.rt v12)))))) none
abbrev sp_read_cells (K:PySem.W.Frag) (cl:Cl):Sp:=lift K (fun x:PyData×Unit=> [kPy x.1]) (kT kI) (w_read_cells K cl)
theorem ok_read_cells (T:Tx K mg cl):FnG P w K mg base 3 T.a_read_cells T.fd_read_cells ["text"] (sp_read_cells K cl):=
  okL T.F_read_cells sc_read_cells (fun _=>rfl) none (fun y e=>nomatch e) (fun cdv A outer s H E hg hr=>by
    refine⟨_,pss_cons (ps_set (i:=1) sc_read_cells.nd rfl (by first | exact Or.inl rfl | exact Or.inr rfl) (pe_fnS ((ok_cells_written T).atS hg (hr.mono (by decide)) (b_cells_written T) .nil (takes_of rfl rfl rfl rfl)) rfl T.g_cells_written T.F_cells_written.kp (pa_cons (pv 0) pa_nil)))
    (pss_cons (ps_if (pt_cmpR op_isN (pv 1) (pe_non) (nomark _)) (pss_one (ps_err (k:=0) rfl T.e_NoText er_rel1 (hr.mono (by decide)) (takes_of rfl rfl rfl rfl) (pa_cons (pe_int) pa_nil) rfl)) pss_nil)
    (pss_one (ps_ret (pv 1)))),?_⟩
    exact⟨_,fun x=>(simS_seq (simS_asg simG_name le_none (sim_call (cal_lift (w:=w_cells_written K cl)) (simA_cons (sim_var (i:=0) (r:=kPy) (x:=x.1) rfl) simA_nil)) (fun (found_6:Option (List Int))=>(show SimS _ _ ([some (kPy x.1),some ((kO (kT kI)) found_6)]:Gm K) _ _ _ _ from (simS_seq (simS_if le_none (simB_test (sim_op (os_isNO sm_T) (sim_var (i:=1) (r:=(kO (kT kI))) (x:=found_6) rfl) sim_n)) (simS_raise le_none (simA_cons sim_i simA_nil) (fun (y:Int×Unit)=> [("line",kI y.1)]) (by rintro y Z H vs ⟨v,_,rfl,h,rfl⟩;exact⟨v,[],rfl,rfl,v,[],rfl,h,rfl⟩)) (simS_next (simS_ret le_none (sim_some (r:=(kT kI)) (sim_var (i:=1) (r:=(kO (kT kI))) (x:=found_6) rfl)))))))))),fun _ _ _ _ h=>h⟩)
def w_cells_in (K:PySem.W.Frag) (cl:Cl):Int×Unit→W K (List Int):=fun x=>outW (bnd (bnd (bnd (bnd (bnd (bnd (bnd (ret x.1) fun v2=>(ret ((Builtin.Int.intBits v2:Nat):Int))) fun p4=>(bnd (ret ()) fun p5=>(ret (p4,p5)))) fun y1=>(wAss (-(2 ^ 62)≤y1.1∧y1.1<2 ^ 62) (ret (rng 0 y1.1,nI)))) fun y7=>(wAss (y7.1.length≤50000) (wCalm (fmapW y7.2 (fun (x6:Int)=>(bnd (bnd (bnd (ret x.1) fun v8=>(bnd (ret x6) fun v9=>(wAss (0≤v9) (ret (v8 / 2 ^ (v9).toNat))))) fun v10=>(bnd (ret (1:Int)) fun v11=>(ret (Builtin.bitAnd v10 v11)))) fun v12=>(bnd (ret (1:Int)) fun v13=>(ret (decide (v12=v13)))))) (fun (x6:Int)=>(ret x6)) y7.1)))) fun p15=>(bnd (ret ()) fun p16=>(ret (p15,p16)))) fun y14=>(ret y14.1)) fun v17=>(ret (Flow.rt v17))) none
abbrev sp_cells_in (K:PySem.W.Frag) (cl:Cl):Sp:=lift K (fun x:Int×Unit=> [kI x.1]) (kX kI) (w_cells_in K cl)
theorem ok_cells_in (T:Tx K mg cl):FnG P w K mg base 1 T.a_cells_in T.fd_cells_in ["mask"] (sp_cells_in K cl):=
  okL T.F_cells_in sc_cells_in (fun _=>rfl) none (fun y e=>nomatch e) (fun cdv A outer s H E hg hr=>by
    refine⟨_,pss_one (ps_ret (pe_callTy (kx_tuple (K:=K) rfl) (by rfl) T.z_tuple bt_tuple (pa_cons (pe_lc (own:= [("cell",1)]) (g:=gName 1)  rfl sc_cells_in.nd (pi_range1 rfl T.z_range (pa_cons (pe_bits (pv 0)) pa_nil)) (blkOk_by (own:= [("cell",1)]) (N:=N_cells_in) (sc:=defScope st_cells_in) (by decide +kernel)) (fun _ _ _ _ _=>pg_name (i:=1) sc_cells_in.nd rfl (by first | exact Or.inl rfl | exact Or.inr rfl)) (fun _ _ _ _ _=>pts_one (pt_cmpR (kx_eq (K:=K) rfl hr) (pe_op op_and (pe_op op_shr (pv 0) (pv 1)) (pe_int)) (pe_int) (nomark _))) (fun _ _ _ _ _=>pv 1)) pa_nil))),?_⟩
    exact⟨_,fun x=>(simS_ret le_none (sim_callB cb_tupleLX (simA_cons (sim_lc (simI_r1 (simA_cons (sim_bits (sim_var (i:=0) (r:=kI) (x:=x.1) rfl)) simA_nil)) simG_name (fun _ _ hy=>hy) (fun (x6:Int)=>(simB_test (sim_op os_eqI (sim_op os_I0 (sim_op os_I (sim_var (i:=0) (r:=kI) (x:=x.1) rfl) (sim_var (i:=1) (r:=kI) (x:=x6) rfl)) sim_i) sim_i))) (fun (x6:Int)=>(sim_var (i:=1) (r:=kI) (x:=x6) rfl))) simA_nil))),fun _ _ _ _ h=>h⟩)
def w_mask_text (K:PySem.W.Frag) (cl:Cl):Int×Unit→W K Str:=fun x=>outW (bnd (bnd (ret x.1) fun v1=>(bnd (ret (0:Int)) fun v2=>(ret (decide (v1=v2))))) fun v19=>(wIf v19 (bnd (ret ("-" :Str)) fun v3=>(ret (Flow.rt v3))) (bnd (bnd (ret ("," :Str)) fun v4=>(bnd (bnd (bnd (bnd (bnd (bnd (ret x.1) fun p10=>(bnd (ret ()) fun p11=>(ret (p10,p11)))) fun p7=>(w_cells_in K cl p7)) fun v12=>(ret v12)) fun y6=>(ret (y6,nI))) fun y14=>(wAss (y14.1.length≤50000) (wCalm (fmapW y14.2 (fun (x13:Int)=>(ret true)) (fun (x13:Int)=>(bnd (bnd (ret x13) fun p16=>(bnd (ret ()) fun p17=>(ret (p16,p17)))) fun y15=>(wAss (y15.1.natAbs.log2<1920) (ret (toString y15.1:Str))))) y14.1)))) fun v5=>(wAss ((v5.map (·.length)).sum+v5.length * v4.length≤16777216) (ret (Txt.join v4 v5))))) fun v18=>(ret (Flow.rt v18))))) none
abbrev sp_mask_text (K:PySem.W.Frag) (cl:Cl):Sp:=lift K (fun x:Int×Unit=> [kI x.1]) kS (w_mask_text K cl)
theorem ok_mask_text (T:Tx K mg cl):FnG P w K mg base 2 T.a_mask_text T.fd_mask_text ["mask"] (sp_mask_text K cl):=
  okL T.F_mask_text sc_mask_text (fun _=>rfl) none (fun y e=>nomatch e) (fun cdv A outer s H E hg hr=>by
    refine⟨_,pss_cons (ps_if (pt_cmpR (kx_eq (K:=K) rfl hr) (pv 0) (pe_int) (nomark _)) (pss_one (ps_ret (pe_str))) pss_nil)
    (pss_one (ps_ret (pe_joinK (K:=K) rfl (pe_str) (pe_lc (own:= [("cell",1)]) (g:=gName 1) (tt:=tYes)  rfl sc_mask_text.nd (pi_tupK rfl (pe_fnS ((ok_cells_in T).atS hg (hr.mono (by decide)) (b_cells_in T) .nil (takes_of rfl rfl rfl rfl)) rfl T.g_cells_in T.F_cells_in.kp (pa_cons (pv 0) pa_nil))) (blkOk_by (own:= [("cell",1)]) (N:=N_mask_text) (sc:=defScope st_mask_text) (by decide +kernel)) (fun _ _ _ _ _=>pg_name (i:=1) sc_mask_text.nd rfl (by first | exact Or.inl rfl | exact Or.inr rfl)) (fun _ _ _ _ _=>pts_nil) (fun _ _ _ _ _=>pe_callTy call_str_int (by rfl) T.z_str bt_str (pa_cons (pv 1) pa_nil)))))),?_⟩
    exact⟨_,fun x=>(simS_seq (simS_if le_none (simB_test (sim_op os_eqI (sim_var (i:=0) (r:=kI) (x:=x.1) rfl) sim_i)) (simS_ret le_none sim_s) (simS_next (simS_ret le_none (sim_join sim_s (sim_lc (simI_tup (r:=kI) (sim_co (sim_call (cal_lift (w:=w_cells_in K cl)) (simA_cons (sim_var (i:=0) (r:=kI) (x:=x.1) rfl) simA_nil)) co_XT)) simG_name (fun _ _ hy=>hy) (fun (x13:Int)=>simB_yes) (fun (x13:Int)=>(sim_callB cb_strI (simA_cons (sim_var (i:=1) (r:=kI) (x:=x13) rfl) simA_nil))))))))),fun _ _ _ _ h=>h⟩)
def w_Flip____str__ (K:PySem.W.Frag) (cl:Cl):(Nat×Nat)×Unit→W K Str:=fun x=>outW (bnd (bnd (bnd (bnd (bnd (bnd (ret x.1) fun x=>ret (x.1:Int)) fun p4=>(bnd (ret ()) fun p5=>(ret (p4,p5)))) fun p1=>(w_mask_text K cl p1)) fun v6=>(wAss (v6.length≤50000) (ret v6))) fun y13=>(wAss ((Str.empty++y13).length≤50000) (bnd (ret (">" :Str)) fun y14=>(wAss (((Str.empty++y13)++y14).length≤50000) (bnd (bnd (bnd (bnd (bnd (ret x.1) fun x=>ret (x.2:Int)) fun p10=>(bnd (ret ()) fun p11=>(ret (p10,p11)))) fun p7=>(w_mask_text K cl p7)) fun v12=>(wAss (v12.length≤50000) (ret v12))) fun y15=>(wAss ((((Str.empty++y13)++y14)++y15).length≤50000) (ret (((Str.empty++y13)++y14)++y15)))))))) fun v16=>(ret (Flow.rt v16))) none
abbrev sp_Flip____str__ (K:PySem.W.Frag) (cl:Cl):Sp:=lift K (fun x:(Nat×Nat)×Unit=> [(k_Flip K cl) x.1]) kS (w_Flip____str__ K cl)
theorem ok_Flip____str__ (T:Tx K mg cl):FnG P w K mg base 3 T.a_Flip____str__ T.fd_Flip____str__ ["self"] (sp_Flip____str__ K cl):=
  okL T.F_Flip____str__ sc_Flip____str__ (fun _=>rfl) none (fun y e=>nomatch e) (fun cdv A outer s H E hg hr=>by
    refine⟨_,pss_one (ps_ret (pe_joined (.cons (pe_fmt (pe_fnS ((ok_mask_text T).atS hg (hr.mono (by decide)) (b_mask_text T) .nil (takes_of rfl rfl rfl rfl)) rfl T.g_mask_text T.F_mask_text.kp (pa_cons (pe_fldK (K:=K) rfl (pv 0)) pa_nil))) (.cons (pe_str) (.cons (pe_fmt (pe_fnS ((ok_mask_text T).atS hg (hr.mono (by decide)) (b_mask_text T) .nil (takes_of rfl rfl rfl rfl)) rfl T.g_mask_text T.F_mask_text.kp (pa_cons (pe_fldK (K:=K) rfl (pv 0)) pa_nil))) .nil))))),?_⟩
    exact⟨_,fun x=>(simS_ret le_none (sim_joined (simJ_cons (sim_fmtS (sim_call (cal_lift (w:=w_mask_text K cl)) (simA_cons (sim_fld (fs:=fs_Flip K cl) (s:=kI) (fun x=>(x.1:Int)) (fun _=>rfl) (fun _=>fl_Flip_test_mask) T.cls_Flip T.no_Flip_test_mask (sim_var (i:=0) (r:=(k_Flip K cl)) (x:=x.1) rfl)) simA_nil))) (simJ_cons sim_s (simJ_cons (sim_fmtS (sim_call (cal_lift (w:=w_mask_text K cl)) (simA_cons (sim_fld (fs:=fs_Flip K cl) (s:=kI) (fun x=>(x.2:Int)) (fun _=>rfl) (fun _=>fl_Flip_toggle_mask) T.cls_Flip T.no_Flip_toggle_mask (sim_var (i:=0) (r:=(k_Flip K cl)) (x:=x.1) rfl)) simA_nil))) simJ_nil))))),fun _ _ _ _ h=>h⟩)
def w_flip_text (K:PySem.W.Frag) (cl:Cl):(Nat×Nat)×Unit→W K Str:=fun x=>outW (bnd (bnd (bnd (ret x.1) fun p2=>(bnd (ret ()) fun p3=>(ret (p2,p3)))) fun y1=>(wCalm (w_Flip____str__ K cl y1))) fun v4=>(ret (Flow.rt v4))) none
abbrev sp_flip_text (K:PySem.W.Frag) (cl:Cl):Sp:=lift K (fun x:(Nat×Nat)×Unit=> [(k_Flip K cl) x.1]) kS (w_flip_text K cl)
theorem ok_flip_text (T:Tx K mg cl):FnG P w K mg base 6 T.a_flip_text T.fd_flip_text ["flip"] (sp_flip_text K cl):=
  okL T.F_flip_text sc_flip_text (fun _=>rfl) none (fun y e=>nomatch e) (fun cdv A outer s H E hg hr=>by
    refine⟨_,pss_one (ps_ret (pe_callTy (call_strI (ok_Flip____str__ T) T.m_Flip____str__.at_ T.m_Flip____str__.fn hg (hr.mono (by decide)) (b_Flip____str__ T)) (by rfl) T.z_str bt_str (pa_cons (pv 0) pa_nil))),?_⟩
    exact⟨_,fun x=>(simS_ret le_none (sim_callB (cb_strO (fs:=fs_Flip K cl) (r:=(k_Flip K cl)) (w:=w_Flip____str__ K cl) (fun _=>rfl)) (simA_cons (sim_var (i:=0) (r:=(k_Flip K cl)) (x:=x.1) rfl) simA_nil))),fun _ _ _ _ h=>h⟩)
def w_mask_of (K:PySem.W.Frag) (cl:Cl):(List Int)×Unit→W K Int:=fun x=>outW (bnd (bnd (bnd (bnd (bnd (ret x.1) fun y1=>(ret (y1,nI))) fun y3=>(wAss (y3.1.length≤50000) (wCalm (fmapW y3.2 (fun (x2:Int)=>(ret true)) (fun (x2:Int)=>(bnd (ret (1:Int)) fun v4=>(bnd (ret x2) fun v5=>(wAss (CPow v4 v5) (ret (v4 * 2 ^ (v5).toNat)))))) y3.1)))) fun p7=>(bnd (ret ()) fun p8=>(ret (p7,p8)))) fun y6=>(ret y6.1.sum)) fun v9=>(ret (Flow.rt v9))) none
abbrev sp_mask_of (K:PySem.W.Frag) (cl:Cl):Sp:=lift K (fun x:(List Int)×Unit=> [(kT kI) x.1]) kI (w_mask_of K cl)
theorem okN_mask_of (T:Tx K mg cl):FnN P w K mg base 1 T.a_mask_of T.fd_mask_of ["cells"] (sp_mask_of K cl):=
  okLN T.F_mask_of sc_mask_of (fun _=>rfl) none (fun y e=>nomatch e) (fun cdv A outer s H E hg hr=>by
    refine⟨_,pss_one (ps_ret (pe_callB (kx_sum (K:=K) rfl rfl) (by rfl) T.z_sum bt_sum (pa_cons (pe_lc (own:= [("cell",1)]) (g:=gName 1) (tt:=tYes)  rfl sc_mask_of.nd (pi_tupK rfl (pv 0)) (blkOk_by (own:= [("cell",1)]) (N:=N_mask_of) (sc:=defScope st_mask_of) (by decide +kernel)) (fun _ _ _ _ _=>pg_name (i:=1) sc_mask_of.nd rfl (by first | exact Or.inl rfl | exact Or.inr rfl)) (fun _ _ _ _ _=>pts_nil) (fun _ _ _ _ _=>pe_op op_shl (pe_int) (pv 1))) pa_nil))),?_⟩
    exact⟨_,fun x=>(simS_ret le_none (sim_callB cb_sum (simA_cons (sim_lc (simI_tup (r:=kI) (sim_var (i:=0) (r:=(kT kI)) (x:=x.1) rfl)) simG_name (fun _ _ hy=>hy) (fun (x2:Int)=>simB_yes) (fun (x2:Int)=>(sim_op os_I sim_i (sim_var (i:=1) (r:=kI) (x:=x2) rfl)))) simA_nil))),fun _ _ _ _ h=>h⟩)
def w_cell_mask (K:PySem.W.Frag) (cl:Cl):PyData×Int×Unit→W K Int:=fun x=>outW (bnd (bnd (bnd (bnd (bnd (ret x.1) fun p4=>(bnd (ret ()) fun p5=>(ret (p4,p5)))) fun p1=>(bnd (bnd (ret x.2.1) fun p6=>(bnd (ret ()) fun p7=>(ret (p6,p7)))) fun p2=>(w_cell_tuple K cl ((fun (x:PyData×Unit) (y:Int×Unit)=>(x.1,y.1,())) p1 p2)))) fun p11=>(bnd (ret ()) fun p12=>(ret (p11,p12)))) fun p8=>(w_mask_of K cl p8)) fun v13=>(ret (Flow.rt v13))) none
abbrev sp_cell_mask (K:PySem.W.Frag) (cl:Cl):Sp:=lift K (fun x:PyData×Int×Unit=> [kPy x.1,kI x.2.1]) kI (w_cell_mask K cl)
theorem okN_cell_mask (T:Tx K mg cl):FnN P w K mg base 4 T.a_cell_mask T.fd_cell_mask ["things","size"] (sp_cell_mask K cl):=
  okLN T.F_cell_mask sc_cell_mask (fun _=>rfl) none (fun y e=>nomatch e) (fun cdv A outer s H E hg hr=>by
    refine⟨_,pss_one (ps_ret (pe_fnS ((okN_mask_of T).atS hg (hr.mono (by decide)) (b_mask_of T) .nil (L2N.takes_of rfl rfl rfl rfl)) rfl T.g_mask_of T.F_mask_of.kp (pa_cons (pe_fnKS ((okN_cell_tuple T).atKS hg (hr.mono (by decide)) (kb_cell_tuple__1_size T) (L2N.takes_of rfl rfl rfl rfl)) rfl T.g_cell_tuple T.F_cell_tuple.kp (pa_cons (pv 0) pa_nil) (pk_cons (pv 1) pk_nil)) pa_nil))),?_⟩
    exact⟨_,fun x=>(simS_ret le_none (sim_call (cal_lift (w:=w_mask_of K cl)) (simA_cons (sim_callK (cal_liftK (δ':=fun x:PyData×Int×Unit=> [kPy x.1,kI x.2.1]) (w:=w_cell_tuple K cl) (fun (x:PyData×Unit) (y:Int×Unit)=>(x.1,y.1,())) (by rintro Z H x y vs zs ⟨_,_,rfl,a0,rfl⟩ ⟨_,_,rfl,a1,rfl⟩;exact⟨_,_,rfl,a0,_,_,rfl,a1,rfl⟩)) (simA_cons (sim_var (i:=0) (r:=kPy) (x:=x.1) rfl) simA_nil) (simA_cons (sim_var (i:=1) (r:=kI) (x:=x.2.1) rfl) simA_nil)) simA_nil))),fun _ _ _ _ h=>h⟩)
theorem ok_cell_mask (T:Tx K mg cl):FnG P w K mg base 4 T.a_cell_mask T.fd_cell_mask ["things","size"] (sp_cell_mask K cl):=(okN_cell_mask T).wk
def w_is_odd (K:PySem.W.Frag) (cl:Cl):Int×Unit→W K Bool:=fun x=>outW (bnd (bnd (ret x.1) fun p15=>(bnd (bnd (ret false) fun p13=>(bnd (ret ()) fun p14=>(ret (p13,p14)))) fun p16=>(ret (p15,p16)))) fun (y1:Int×Bool×Unit)=>(bnd (whileW (fun (s2:Int×Bool×Unit)=>(bnd (ret s2.1) fun v4=>(bnd (ret (0:Int)) fun v5=>(ret (decide (v5<v4)))))) (fun (s2:Int×Bool×Unit)=>(bnd (bnd (ret s2.1) fun v8=>(bnd (bnd (ret s2.1) fun v6=>(bnd (ret (1:Int)) fun v7=>(ret (v6 - v7)))) fun v9=>(ret (Builtin.bitAnd v8 v9)))) fun (rest_10:Int)=>(bnd (bnd (ret s2.2.1) fun v11=>(ret (!v11))) fun (found_12:Bool)=>(ret (Flow.nx (rest_10,found_12,())))))) (y1.1,y1.2.1,())) (aft fun (s2:Int×Bool×Unit)=>(bnd (ret s2.2.1) fun v3=>(ret (Flow.rt v3)))))) none
abbrev sp_is_odd (K:PySem.W.Frag) (cl:Cl):Sp:=lift K (fun x:Int×Unit=> [kI x.1]) kB (w_is_odd K cl)
theorem okN_is_odd (T:Tx K mg cl):FnN P w K mg base 1 T.a_is_odd T.fd_is_odd ["mask"] (sp_is_odd K cl):=
  okLN T.F_is_odd sc_is_odd (fun _=>rfl) none (fun y e=>nomatch e) (fun cdv A outer s H E hg hr=>by
    refine⟨_,pss_cons (ps_par (i:=1) (j:=2) (by rfl) sc_is_odd.nd rfl rfl (by decide) rfl rfl (pa_cons (pv 0) (pa_cons (pe_bl) pa_nil)) (by rfl))
    (pss_cons (ps_while (passes_of rfl) (pt_cmpR op_gt (pv 1) (pe_int) (nomark _))
      (pss_cons (ps_set (i:=1) sc_is_odd.nd rfl (by first | exact Or.inl rfl | exact Or.inr rfl) (pe_op op_and (pv 1) (pe_op op_sub (pv 1) (pe_int))))
    (pss_one (ps_set (i:=2) sc_is_odd.nd rfl (by first | exact Or.inl rfl | exact Or.inr rfl) (pe_not (pv 2))))))
    (pss_one (ps_ret (pv 2)))),?_⟩
    exact⟨_,fun x=>(simS_seq (simS_par (r:=kI) (s:=kB) le_none (simA_cons (sim_var (i:=0) (r:=kI) (x:=x.1) rfl) (simA_cons sim_b simA_nil)) (fun (y1:Int×Bool×Unit)=>(show SimS _ _ ([some (kI x.1),some (kI y1.1),some (kB y1.2.1)]:Gm K) _ _ _ _ from (simS_seq (simS_while (Gl:=(fun s2:Int×Bool×Unit=>([some (kI x.1),some (kI s2.1),some (kB s2.2.1)]:Gm K))) (s0:=(y1.1,y1.2.1,())) (fun _=>le_none) (.so (.so (.so .nil))) (fun (s2:Int×Bool×Unit)=>(simB_test (sim_op os_B0 (sim_var (i:=1) (r:=kI) (x:=s2.1) rfl) sim_i))) (fun (s2:Int×Bool×Unit)=>(show SimS _ _ ([some (kI x.1),some (kI s2.1),some (kB s2.2.1)]:Gm K) _ _ _ _ from (simS_seq (simS_asg simG_name le_none (sim_op os_I0 (sim_var (i:=1) (r:=kI) (x:=s2.1) rfl) (sim_op os_I0 (sim_var (i:=1) (r:=kI) (x:=s2.1) rfl) sim_i)) (fun (rest_10:Int)=>(show SimS _ _ ([some (kI x.1),some (kI rest_10),some (kB s2.2.1)]:Gm K) _ _ _ _ from (simS_asg simG_name le_none (sim_notV (sim_var (i:=2) (r:=kB) (x:=s2.2.1) rfl)) (fun (found_12:Bool)=>(show SimS _ _ ([some (kI x.1),some (kI rest_10),some (kB found_12)]:Gm K) _ _ _ _ from (simS_end (s:=((rest_10,found_12,()):Int×Bool×Unit)) (.so (.so (.so .nil))))))))))))) (fun (s2:Int×Bool×Unit)=>(show SimS _ _ ([some (kI x.1),some (kI s2.1),some (kB s2.2.1)]:Gm K) _ _ _ _ from (simS_ret le_none (sim_var (i:=2) (r:=kB) (x:=s2.2.1) rfl)))))))))),fun _ _ _ _ h=>h⟩)
def w_Flip____init__ (K:PySem.W.Frag) (cl:Cl):Addr×PyData×PyData×Unit→W K Unit:=fun x=>outW (bnd (bnd (bnd (ret x.2.1) fun p6=>(bnd (bnd (ret (40:Int)) fun p4=>(bnd (ret ()) fun p5=>(ret (p4,p5)))) fun p7=>(ret (p6,p7)))) fun p1=>(w_cell_mask K cl p1)) fun v34=>(bnd (ret x.1) fun v35=>(wSetF cl.Flip "test_mask" v35 (kI v34) (bnd (bnd (bnd (ret x.2.2.1) fun p13=>(bnd (bnd (ret (40:Int)) fun p11=>(bnd (ret ()) fun p12=>(ret (p11,p12)))) fun p14=>(ret (p13,p14)))) fun p8=>(w_cell_mask K cl p8)) fun v32=>(bnd (ret x.1) fun v33=>(wSetF cl.Flip "toggle_mask" v33 (kI v32) (bnd (bnd (bnd (bnd (ret x.1) (wGetF cl.Flip "toggle_mask" kI)) fun v15=>(bnd (ret (1:Int)) fun v16=>(ret (Builtin.bitAnd v15 v16)))) fun v17=>(bnd (ret (1:Int)) fun v18=>(ret (decide (v17=v18))))) fun v31=>(wIf v31 (bnd (bnd (ret ("fixed" :Str)) fun p19=>(bnd (ret ()) fun p20=>(ret (p19,p20)))) fun (y:Str×Unit)=>(wRaise (cl.NoFlip,[("why",kS y.1)]))) (bnd (bnd (bnd (bnd (bnd (ret x.1) (wGetF cl.Flip "test_mask" kI)) fun v21=>(bnd (bnd (ret x.1) (wGetF cl.Flip "toggle_mask" kI)) fun v22=>(ret (Builtin.bitAnd v21 v22)))) fun p26=>(bnd (ret ()) fun p27=>(ret (p26,p27)))) fun p23=>(w_is_odd K cl p23)) fun v30=>(wIf v30 (bnd (bnd (ret ("odd" :Str)) fun p28=>(bnd (ret ()) fun p29=>(ret (p28,p29)))) fun (y:Str×Unit)=>(wRaise (cl.NoFlip,[("why",kS y.1)]))) (ret (Flow.nx ())))))))))))) (some ())
abbrev sp_Flip____init__ (K:PySem.W.Frag) (cl:Cl):Sp:=lift K (fun x:Addr×PyData×PyData×Unit=> [kRef x.1,kPy x.2.1,kPy x.2.2.1]) kN (w_Flip____init__ K cl)
theorem okN_Flip____init__ (T:Tx K mg cl):FnN P w K mg base 5 T.a_Flip____init__ T.fd_Flip____init__ ["self","tested","toggled"] (sp_Flip____init__ K cl):=
  okLN T.F_Flip____init__ sc_Flip____init__ (fun _=>rfl) (some ()) (fun y e=>by cases e;rfl) (fun cdv A outer s H E hg hr=>by
    refine⟨_,pss_cons (ps_fldK (K:=K) rfl (pv 0) (pe_fnS ((okN_cell_mask T).atS hg (hr.mono (by decide)) (b_cell_mask T) .nil (L2N.takes_of rfl rfl rfl rfl)) rfl T.g_cell_mask T.F_cell_mask.kp (pa_cons (pv 1) (pa_cons (pe_glob (v:=(.int 40)) rfl T.c_MOST_CELLS ⟨_,rfl⟩) pa_nil))))
    (pss_cons (ps_fldK (K:=K) rfl (pv 0) (pe_fnS ((okN_cell_mask T).atS hg (hr.mono (by decide)) (b_cell_mask T) .nil (L2N.takes_of rfl rfl rfl rfl)) rfl T.g_cell_mask T.F_cell_mask.kp (pa_cons (pv 2) (pa_cons (pe_glob (v:=(.int 40)) rfl T.c_MOST_CELLS ⟨_,rfl⟩) pa_nil))))
    (pss_cons (ps_if (pt_cmpR (kx_eq (K:=K) rfl hr) (pe_op op_and (pe_fldK (K:=K) rfl (pv 0)) (pe_int)) (pe_int) (nomark _)) (pss_one (ps_errN (k:=0) rfl T.e_NoFlip er_rel1 (hr.mono (by decide)) (L2N.takes_of rfl rfl rfl rfl) (pa_cons (pe_str) pa_nil) rfl)) pss_nil)
    (pss_one (ps_if (pt_val (pe_fnS ((okN_is_odd T).atS hg (hr.mono (by decide)) (b_is_odd T) .nil (L2N.takes_of rfl rfl rfl rfl)) rfl T.g_is_odd T.F_is_odd.kp (pa_cons (pe_op op_and (pe_fldK (K:=K) rfl (pv 0)) (pe_fldK (K:=K) rfl (pv 0))) pa_nil))) (pss_one (ps_errN (k:=0) rfl T.e_NoFlip er_rel1 (hr.mono (by decide)) (L2N.takes_of rfl rfl rfl rfl) (pa_cons (pe_str) pa_nil) rfl)) pss_nil)))),?_⟩
    exact⟨_,fun x=>(simS_seq (simS_fld (r:=kI) T.cls_Flip T.no_Flip_test_mask le_none (sim_call (cal_lift (w:=w_cell_mask K cl)) (simA_cons (sim_var (i:=1) (r:=kPy) (x:=x.2.1) rfl) (simA_cons sim_i simA_nil))) (sim_var (i:=0) (r:=kRef) (x:=x.1) rfl) (simS_seq (simS_fld (r:=kI) T.cls_Flip T.no_Flip_toggle_mask le_none (sim_call (cal_lift (w:=w_cell_mask K cl)) (simA_cons (sim_var (i:=2) (r:=kPy) (x:=x.2.2.1) rfl) (simA_cons sim_i simA_nil))) (sim_var (i:=0) (r:=kRef) (x:=x.1) rfl) (simS_seq (simS_if le_none (simB_test (sim_op os_eqI (sim_op os_I0 (sim_fldC (s:=kI) T.cls_Flip T.no_Flip_toggle_mask (sim_var (i:=0) (r:=kRef) (x:=x.1) rfl)) sim_i) sim_i)) (simS_raise le_none (simA_cons sim_s simA_nil) (fun (y:Str×Unit)=> [("why",kS y.1)]) (by rintro y Z H vs ⟨v,_,rfl,h,rfl⟩;exact⟨v,[],rfl,rfl,v,[],rfl,h,rfl⟩)) (simS_next (simS_if le_none (simB_B (sim_call (cal_lift (w:=w_is_odd K cl)) (simA_cons (sim_op os_I0 (sim_fldC (s:=kI) T.cls_Flip T.no_Flip_test_mask (sim_var (i:=0) (r:=kRef) (x:=x.1) rfl)) (sim_fldC (s:=kI) T.cls_Flip T.no_Flip_toggle_mask (sim_var (i:=0) (r:=kRef) (x:=x.1) rfl))) simA_nil))) (simS_raise le_none (simA_cons sim_s simA_nil) (fun (y:Str×Unit)=> [("why",kS y.1)]) (by rintro y Z H vs ⟨v,_,rfl,h,rfl⟩;exact⟨v,[],rfl,rfl,v,[],rfl,h,rfl⟩)) (simS_next (simS_end (.no (.no (.no .nil))))))))))))),fun _ _ _ _ h=>h⟩)
def w_read_flip (K:PySem.W.Frag) (cl:Cl):PyData×Unit→W K (Nat×Nat):=fun x=>outW (bnd (bnd (bnd (bnd (ret x.1) fun p4=>(bnd (bnd (ret "str") fun p2=>(bnd (ret ()) fun p3=>(ret (p2,p3)))) fun p5=>(ret (p4,p5)))) fun y1=>(wAss (IsTy y1.2.1) (ret (isD y1.1 y1.2.1)))) fun v6=>(ret (!v6))) fun v55=>(wIf v55 (bnd (bnd (ret (0:Int)) fun p7=>(bnd (ret ()) fun p8=>(ret (p7,p8)))) fun (y:Int×Unit)=>(wRaise (cl.NoText,[("line",kI y.1)]))) (bnd (bnd (bnd (ret x.1) (wAs PyData.str)) fun v9=>(bnd (ret (">" :Str)) fun v10=>(wAss (v10.length≠0∧v9.length≤50000) (ret (Txt.partition v9 v10))))) fun (y12:(Str×Str×Str))=>(bnd (bnd (bnd (bnd (bnd (ret y12.1) fun v13=>(ret (PyData.str v13))) fun p17=>(bnd (ret ()) fun p18=>(ret (p17,p18)))) fun p14=>(w_cells_written K cl p14)) fun p53=>(bnd (bnd (bnd (bnd (bnd (ret y12.2.2) fun v19=>(ret (PyData.str v19))) fun p23=>(bnd (ret ()) fun p24=>(ret (p23,p24)))) fun p20=>(w_cells_written K cl p20)) fun p51=>(bnd (ret ()) fun p52=>(ret (p51,p52)))) fun p54=>(ret (p53,p54)))) fun (y25:(Option (List Int))×(Option (List Int))×Unit)=>(bnd (bnd (bnd (ret y12.2.1) fun v26=>(bnd (ret ("" :Str)) fun v27=>(ret (decide (v26=v27))))) fun v33=>(wIf v33 (ret true) (bnd (bnd (ret y25.1) fun v28=>(bnd (ret ()) fun v29=>(ret (v28.isNone)))) fun v32=>(wIf v32 (ret true) (bnd (ret y25.2.1) fun v30=>(bnd (ret ()) fun v31=>(ret (v30.isNone)))))))) fun v50=>(wIf v50 (bnd (bnd (ret (0:Int)) fun p34=>(bnd (ret ()) fun p35=>(ret (p34,p35)))) fun (y:Int×Unit)=>(wRaise (cl.NoText,[("line",kI y.1)]))) (bnd (wTry (bnd (bnd (bnd (bnd (bnd (ret y25.1) fun v37=>(ret ((oPy (fun xs=>PyData.tuple (xs.map PyData.int))) v37))) fun p44=>(bnd (bnd (bnd (ret y25.2.1) fun v38=>(ret ((oPy (fun xs=>PyData.tuple (xs.map PyData.int))) v38))) fun p42=>(bnd (ret ()) fun p43=>(ret (p42,p43)))) fun p45=>(ret (p44,p45)))) fun p39=>(wMk cl.Flip (w_Flip____init__ K cl) p39)) (wFrz cl.Flip (fs_Flip K cl))) fun v46=>(ret (Flow.rt v46))) (wCatch cl.NoFlip (fun e47=>(wFrom cl.NoFlip e47 (bnd (bnd (ret (0:Int)) fun p48=>(bnd (ret ()) fun p49=>(ret (p48,p49)))) fun (y:Int×Unit)=>(wRaise (cl.NoText,[("line",kI y.1)]))))) wRaise)) (aftT fun (s36:Unit)=>(ret (Flow.nx ())))))))))) none
abbrev sp_read_flip (K:PySem.W.Frag) (cl:Cl):Sp:=lift K (fun x:PyData×Unit=> [kPy x.1]) (k_Flip K cl) (w_read_flip K cl)
theorem ok_read_flip (T:Tx K mg cl):FnG P w K mg base 7 T.a_read_flip T.fd_read_flip ["text"] (sp_read_flip K cl):=
  okL T.F_read_flip sc_read_flip (fun _=>rfl) none (fun y e=>nomatch e) (fun cdv A outer s H E hg hr=>by
    refine⟨_,pss_cons (ps_if (pt_not (pt_val (pe_callB (kx_isi (K:=K) rfl) (by rfl) T.z_isinstance bt_isinstance (pa_cons (pv 0) (pa_cons (pe_bltn (v:= .ty "str") (by rfl) T.z_str bt_str rfl) pa_nil))))) (pss_one (ps_err (k:=0) rfl T.e_NoText er_rel1 (hr.mono (by decide)) (takes_of rfl rfl rfl rfl) (pa_cons (pe_int) pa_nil) rfl)) pss_nil)
    (pss_cons (ps_asg (pe_partition (pv 0) (pe_glob (v:=(.str ">")) rfl T.c_BEFORE_TOGGLED ⟨_,rfl⟩)) (pg_tupK (K:=K) rfl rfl (pgs_cons (pg_name (i:=1) sc_read_flip.nd rfl (by first | exact Or.inl rfl | exact Or.inr rfl)) (pgs_cons (pg_name (i:=2) sc_read_flip.nd rfl (by first | exact Or.inl rfl | exact Or.inr rfl)) (pgs_cons (pg_name (i:=3) sc_read_flip.nd rfl (by first | exact Or.inl rfl | exact Or.inr rfl)) pgs_nil)))))
    (pss_cons (ps_par (i:=4) (j:=5) (by rfl) sc_read_flip.nd rfl rfl (by decide) rfl rfl (pa_cons (pe_fnS ((ok_cells_written T).atS hg (hr.mono (by decide)) (b_cells_written T) .nil (takes_of rfl rfl rfl rfl)) rfl T.g_cells_written T.F_cells_written.kp (pa_cons (pv 1) pa_nil)) (pa_cons (pe_fnS ((ok_cells_written T).atS hg (hr.mono (by decide)) (b_cells_written T) .nil (takes_of rfl rfl rfl rfl)) rfl T.g_cells_written T.F_cells_written.kp (pa_cons (pv 3) pa_nil)) pa_nil)) (by rfl))
    (pss_cons (ps_if (PW.pt (pw_or (pt_cmpR (kx_eq (K:=K) rfl hr) (pv 2) (pe_str) (nomark _)) (pw_or (pt_cmpR op_isN (pv 4) (pe_non) (nomark _)) (pw_or1 (pt_cmpR op_isN (pv 5) (pe_non) (nomark _)))))) (pss_one (ps_err (k:=0) rfl T.e_NoText er_rel1 (hr.mono (by decide)) (takes_of rfl rfl rfl rfl) (pa_cons (pe_int) pa_nil) rfl)) pss_nil)
    (pss_one (ps_try_clausesX rfl rfl sc_read_flip.nd (takes_of rfl rfl rfl rfl) (L2H.passesAt_of rfl)
      (fun W pn xe tk _=>pss_one (ps_ret (pe_fnS ((okN_Flip____init__ T).make T.mk_Flip hg (hr.mono (by decide)) (b_Flip____init__ T) .nil tk) rfl T.gc_Flip T.mk_Flip.kp (pa_cons (pv 4) (pa_cons (pv 5) pa_nil)))))
      (.cons (i:=6) rfl rfl ⟨rfl,by decide,Or.inl T.e_NoFlip.gC⟩ (fun a oe cls d pn xe hz hf tkS=>pss_one (ps_raiseF (i:=6) rfl rfl List.mem_cons_self ⟨rfl,hf.choose,hf.choose_spec,hz.2.2 _ hf.choose_spec⟩ hz.1 (raises_own T.e_NoFlip.eC T.e_NoFlip.tC) tkS (pmk_errN (k:=0) T.e_NoText er_rel1 (L2H.roomH_mark (hr.mono (by decide)) _) (pa_cons (pe_int) pa_nil) rfl))) .nil)))))),?_⟩
    exact⟨_,fun x=>(simS_seq (simS_if le_none (simB_not (simB_B (sim_callB cb_isi (simA_cons (sim_var (i:=0) (r:=kPy) (x:=x.1) rfl) (simA_cons (sim_ty (T:= "str")) simA_nil))))) (simS_raise le_none (simA_cons sim_i simA_nil) (fun (y:Int×Unit)=> [("line",kI y.1)]) (by rintro y Z H vs ⟨v,_,rfl,h,rfl⟩;exact⟨v,[],rfl,rfl,v,[],rfl,h,rfl⟩)) (simS_next (simS_seq (simS_asg (simG_trip simG_name simG_name simG_name) le_none (sim_partition (sim_as oc_S (sim_var (i:=0) (r:=kPy) (x:=x.1) rfl)) sim_s) (fun (y12:(Str×Str×Str))=>(show SimS _ _ ([some (kPy x.1),some (kS y12.1),some (kS y12.2.1),some (kS y12.2.2),none,none,none]:Gm K) _ _ _ _ from (simS_seq (simS_par (r:=(kO (kT kI))) (s:=(kO (kT kI))) le_none (simA_cons (sim_call (cal_lift (w:=w_cells_written K cl)) (simA_cons (sim_co (sim_var (i:=1) (r:=kS) (x:=y12.1) rfl) co_S) simA_nil)) (simA_cons (sim_call (cal_lift (w:=w_cells_written K cl)) (simA_cons (sim_co (sim_var (i:=3) (r:=kS) (x:=y12.2.2) rfl) co_S) simA_nil)) simA_nil)) (fun (y25:(Option (List Int))×(Option (List Int))×Unit)=>(show SimS _ _ ([some (kPy x.1),some (kS y12.1),some (kS y12.2.1),some (kS y12.2.2),some ((kO (kT kI)) y25.1),some ((kO (kT kI)) y25.2.1),none]:Gm K) _ _ _ _ from (simS_seq (simS_if le_none (simB_or (simB_test (sim_op os_eqS (sim_var (i:=2) (r:=kS) (x:=y12.2.1) rfl) sim_s)) (simB_or (simB_test (sim_op (os_isNO sm_T) (sim_var (i:=4) (r:=(kO (kT kI))) (x:=y25.1) rfl) sim_n)) (simB_test (sim_op (os_isNO sm_T) (sim_var (i:=5) (r:=(kO (kT kI))) (x:=y25.2.1) rfl) sim_n)))) (simS_raise le_none (simA_cons sim_i simA_nil) (fun (y:Int×Unit)=> [("line",kI y.1)]) (by rintro y Z H vs ⟨v,_,rfl,h,rfl⟩;exact⟨v,[],rfl,rfl,v,[],rfl,h,rfl⟩)) (simS_next (simS_try (Gc:= [some (kPy x.1),some (kS y12.1),some (kS y12.2.1),some (kS y12.2.2),some ((kO (kT kI)) y25.1),some ((kO (kT kI)) y25.2.1),none]) (G1:=(fun s36:Unit=>([some (kPy x.1),some (kS y12.1),some (kS y12.2.1),some (kS y12.2.2),some ((kO (kT kI)) y25.1),some ((kO (kT kI)) y25.2.1),none]:Gm K))) (fun ε'=>(simS_ret (.so (.so (.so (.so (.so (.so (.no .nil))))))) (sim_frz (fs:=fs_Flip K cl) (r:=(k_Flip K cl)) (fun _=>rfl) (sim_call (cal_mk (w:=w_Flip____init__ K cl)) (simA_cons (sim_co (sim_var (i:=4) (r:=(kO (kT kI))) (x:=y25.1) rfl) (co_OQ (co_TP co_I))) (simA_cons (sim_co (sim_var (i:=5) (r:=(kO (kT kI))) (x:=y25.2.1) rfl) (co_OQ (co_TP co_I))) simA_nil)))))) (SimC.cons (i:=6) (Gs:=(fun s36:Unit=>([some (kPy x.1),some (kS y12.1),some (kS y12.2.1),some (kS y12.2.2),some ((kO (kT kI)) y25.1),some ((kO (kT kI)) y25.2.1),none]:Gm K))) (fun a k d e47=>(show SimS _ _ ([some (kPy x.1),some (kS y12.1),some (kS y12.2.1),some (kS y12.2.2),some ((kO (kT kI)) y25.1),some ((kO (kT kI)) y25.2.1),some (kErr a k d e47)]:Gm K) _ _ _ _ from (simS_raiseF (i:=6) rfl (fun _ _ _ _ _ h=>h) le_none (simA_cons sim_i simA_nil) (fun (y:Int×Unit)=> [("line",kI y.1)]) (by rintro y Z H vs ⟨v,_,rfl,h,rfl⟩;exact⟨v,[],rfl,rfl,v,[],rfl,h,rfl⟩)))) (fun _=>(.so (.so (.so (.so (.so (.so (.no .nil)))))))) (.nil le_none)) (fun (s36:Unit)=>(show SimS _ _ ([some (kPy x.1),some (kS y12.1),some (kS y12.2.1),some (kS y12.2.2),some ((kO (kT kI)) y25.1),some ((kO (kT kI)) y25.2.1),none]:Gm K) _ _ _ _ from (simS_end (.no (.no (.no (.no (.no (.no (.no .nil))))))))))))))))))))))))),fun _ _ _ _ h=>h⟩)
def w_Board____str__ (K:PySem.W.Frag) (cl:Cl):(Nat×Nat)×Unit→W K Str:=fun x=>outW (bnd (bnd (ret ("" :Str)) fun v1=>(bnd (bnd (bnd (bnd (bnd (ret x.1) fun x=>ret (x.1:Int)) fun p4=>(bnd (ret ()) fun p5=>(ret (p4,p5)))) fun y3=>(wAss (-(2 ^ 62)≤y3.1∧y3.1<2 ^ 62) (ret (rng 0 y3.1,nI)))) fun y7=>(wAss (y7.1.length≤50000) (wCalm (fmapW y7.2 (fun (x6:Int)=>(ret true)) (fun (x6:Int)=>(bnd (bnd (bnd (bnd (bnd (ret x.1) fun x=>ret (x.2:Int)) fun v8=>(bnd (ret x6) fun v9=>(wAss (0≤v9) (ret (v8 / 2 ^ (v9).toNat))))) fun v10=>(bnd (ret (1:Int)) fun v11=>(ret (Builtin.bitAnd v10 v11)))) fun p13=>(bnd (ret ()) fun p14=>(ret (p13,p14)))) fun y12=>(wAss (y12.1.natAbs.log2<1920) (ret (toString y12.1:Str))))) y7.1)))) fun v2=>(wAss ((v2.map (·.length)).sum+v2.length * v1.length≤16777216) (ret (Txt.join v1 v2))))) fun v15=>(ret (Flow.rt v15))) none
abbrev sp_Board____str__ (K:PySem.W.Frag) (cl:Cl):Sp:=lift K (fun x:(Nat×Nat)×Unit=> [(k_Board K cl) x.1]) kS (w_Board____str__ K cl)
theorem ok_Board____str__ (T:Tx K mg cl):FnG P w K mg base 1 T.a_Board____str__ T.fd_Board____str__ ["self"] (sp_Board____str__ K cl):=
  okL T.F_Board____str__ sc_Board____str__ (fun _=>rfl) none (fun y e=>nomatch e) (fun cdv A outer s H E hg hr=>by
    refine⟨_,pss_one (ps_ret (pe_joinK (K:=K) rfl (pe_str) (pe_lc (own:= [("cell",1)]) (g:=gName 1) (tt:=tYes)  rfl sc_Board____str__.nd (pi_range1 rfl T.z_range (pa_cons (pe_fldK (K:=K) rfl (pv 0)) pa_nil)) (blkOk_by (own:= [("cell",1)]) (N:=N_Board____str__) (sc:=defScope st_Board____str__) (by decide +kernel)) (fun _ _ _ _ _=>pg_name (i:=1) sc_Board____str__.nd rfl (by first | exact Or.inl rfl | exact Or.inr rfl)) (fun _ _ _ _ _=>pts_nil) (fun _ _ _ _ _=>pe_callTy call_str_int (by rfl) T.z_str bt_str (pa_cons (pe_op op_and (pe_op op_shr (pe_fldK (K:=K) rfl (pv 0)) (pv 1)) (pe_int)) pa_nil))))),?_⟩
    exact⟨_,fun x=>(simS_ret le_none (sim_join sim_s (sim_lc (simI_r1 (simA_cons (sim_fld (fs:=fs_Board K cl) (s:=kI) (fun x=>(x.1:Int)) (fun _=>rfl) (fun _=>fl_Board_own_size) T.cls_Board T.no_Board_own_size (sim_var (i:=0) (r:=(k_Board K cl)) (x:=x.1) rfl)) simA_nil)) simG_name (fun _ _ hy=>hy) (fun (x6:Int)=>simB_yes) (fun (x6:Int)=>(sim_callB cb_strI (simA_cons (sim_op os_I0 (sim_op os_I (sim_fld (fs:=fs_Board K cl) (s:=kI) (fun x=>(x.2:Int)) (fun _=>rfl) (fun _=>fl_Board_up_mask) T.cls_Board T.no_Board_up_mask (sim_var (i:=0) (r:=(k_Board K cl)) (x:=x.1) rfl)) (sim_var (i:=1) (r:=kI) (x:=x6) rfl)) sim_i) simA_nil)))))),fun _ _ _ _ h=>h⟩)
def w_board_text (K:PySem.W.Frag) (cl:Cl):(Nat×Nat)×Unit→W K Str:=fun x=>outW (bnd (bnd (bnd (ret x.1) fun p2=>(bnd (ret ()) fun p3=>(ret (p2,p3)))) fun y1=>(wCalm (w_Board____str__ K cl y1))) fun v4=>(ret (Flow.rt v4))) none
abbrev sp_board_text (K:PySem.W.Frag) (cl:Cl):Sp:=lift K (fun x:(Nat×Nat)×Unit=> [(k_Board K cl) x.1]) kS (w_board_text K cl)
theorem ok_board_text (T:Tx K mg cl):FnG P w K mg base 4 T.a_board_text T.fd_board_text ["board"] (sp_board_text K cl):=
  okL T.F_board_text sc_board_text (fun _=>rfl) none (fun y e=>nomatch e) (fun cdv A outer s H E hg hr=>by
    refine⟨_,pss_one (ps_ret (pe_callTy (call_strI (ok_Board____str__ T) T.m_Board____str__.at_ T.m_Board____str__.fn hg (hr.mono (by decide)) (b_Board____str__ T)) (by rfl) T.z_str bt_str (pa_cons (pv 0) pa_nil))),?_⟩
    exact⟨_,fun x=>(simS_ret le_none (sim_callB (cb_strO (fs:=fs_Board K cl) (r:=(k_Board K cl)) (w:=w_Board____str__ K cl) (fun _=>rfl)) (simA_cons (sim_var (i:=0) (r:=(k_Board K cl)) (x:=x.1) rfl) simA_nil))),fun _ _ _ _ h=>h⟩)
def w_require_size (K:PySem.W.Frag) (cl:Cl):PyData×Unit→W K Unit:=fun x=>outW (bnd (bnd (bnd (bnd (ret x.1) fun p8=>(bnd (bnd (ret (1:Int)) fun p6=>(bnd (bnd (ret (40:Int)) fun p4=>(bnd (ret ()) fun p5=>(ret (p4,p5)))) fun p7=>(ret (p6,p7)))) fun p9=>(ret (p8,p9)))) fun p1=>(w_is_integer_in K cl p1)) fun v10=>(ret (!v10))) fun v13=>(wIf v13 (bnd (bnd (ret x.1) fun p11=>(bnd (ret ()) fun p12=>(ret (p11,p12)))) fun (y:PyData×Unit)=>(wRaise (cl.NoSize,[("value",kPy y.1)]))) (ret (Flow.nx ())))) (some ())
abbrev sp_require_size (K:PySem.W.Frag) (cl:Cl):Sp:=lift K (fun x:PyData×Unit=> [kPy x.1]) kN (w_require_size K cl)
theorem ok_require_size (T:Tx K mg cl):FnG P w K mg base 2 T.a_require_size T.fd_require_size ["size"] (sp_require_size K cl):=
  okL T.F_require_size sc_require_size (fun _=>rfl) (some ()) (fun y e=>by cases e;rfl) (fun cdv A outer s H E hg hr=>by
    refine⟨_,pss_one (ps_if (pt_not (pt_val (pe_fnS ((ok_is_integer_in T).atS hg (hr.mono (by decide)) (b_is_integer_in T) .nil (takes_of rfl rfl rfl rfl)) rfl T.g_is_integer_in T.F_is_integer_in.kp (pa_cons (pv 0) (pa_cons (pe_int) (pa_cons (pe_glob (v:=(.int 40)) rfl T.c_MOST_CELLS ⟨_,rfl⟩) pa_nil)))))) (pss_one (ps_err (k:=0) rfl T.e_NoSize er_rel1 (hr.mono (by decide)) (takes_of rfl rfl rfl rfl) (pa_cons (pv 0) pa_nil) rfl)) pss_nil),?_⟩
    exact⟨_,fun x=>(simS_if le_none (simB_not (simB_B (sim_call (cal_lift (w:=w_is_integer_in K cl)) (simA_cons (sim_var (i:=0) (r:=kPy) (x:=x.1) rfl) (simA_cons sim_i (simA_cons sim_i simA_nil)))))) (simS_raise le_none (simA_cons (sim_var (i:=0) (r:=kPy) (x:=x.1) rfl) simA_nil) (fun (y:PyData×Unit)=> [("value",kPy y.1)]) (by rintro y Z H vs ⟨v,_,rfl,h,rfl⟩;exact⟨v,[],rfl,rfl,v,[],rfl,h,rfl⟩)) (simS_next (simS_end (.no .nil)))),fun _ _ _ _ h=>h⟩)
def w_Board____init__ (K:PySem.W.Frag) (cl:Cl):Addr×PyData×PyData×Unit→W K Unit:=fun x=>outW (bnd (bnd (bnd (ret x.2.1) fun p4=>(bnd (ret ()) fun p5=>(ret (p4,p5)))) fun p1=>(w_require_size K cl p1)) fun _=>(bnd (bnd (ret x.2.1) (wAs PyData.int)) fun v19=>(bnd (ret x.1) fun v20=>(wSetF cl.Board "own_size" v20 (kI v19) (bnd (bnd (bnd (bnd (ret x.2.2.1) fun p13=>(bnd (bnd (bnd (ret x.2.1) (wAs PyData.int)) fun p11=>(bnd (ret ()) fun p12=>(ret (p11,p12)))) fun p14=>(ret (p13,p14)))) fun p8=>(w_cell_mask K cl p8)) fun v15=>(bnd (ret (1:Int)) fun v16=>(ret (Builtin.bitOr v15 v16)))) fun v17=>(bnd (ret x.1) fun v18=>(wSetF cl.Board "up_mask" v18 (kI v17) (ret (Flow.nx ()))))))))) (some ())
abbrev sp_Board____init__ (K:PySem.W.Frag) (cl:Cl):Sp:=lift K (fun x:Addr×PyData×PyData×Unit=> [kRef x.1,kPy x.2.1,kPy x.2.2.1]) kN (w_Board____init__ K cl)
theorem ok_Board____init__ (T:Tx K mg cl):FnG P w K mg base 5 T.a_Board____init__ T.fd_Board____init__ ["self","size","up"] (sp_Board____init__ K cl):=
  okL T.F_Board____init__ sc_Board____init__ (fun _=>rfl) (some ()) (fun y e=>by cases e;rfl) (fun cdv A outer s H E hg hr=>by
    refine⟨_,pss_cons (ps_expr (pe_fnS ((ok_require_size T).atS hg (hr.mono (by decide)) (b_require_size T) .nil (takes_of rfl rfl rfl rfl)) rfl T.g_require_size T.F_require_size.kp (pa_cons (pv 1) pa_nil)))
    (pss_cons (ps_fldK (K:=K) rfl (pv 0) (pv 1))
    (pss_one (ps_fldK (K:=K) rfl (pv 0) (pe_op op_or (pe_fnS ((ok_cell_mask T).atS hg (hr.mono (by decide)) (b_cell_mask T) .nil (takes_of rfl rfl rfl rfl)) rfl T.g_cell_mask T.F_cell_mask.kp (pa_cons (pv 2) (pa_cons (pv 1) pa_nil))) (pe_int))))),?_⟩
    exact⟨_,fun x=>(simS_seq (simS_drop le_none (sim_call (cal_lift (w:=w_require_size K cl)) (simA_cons (sim_var (i:=1) (r:=kPy) (x:=x.2.1) rfl) simA_nil)) (simS_seq (simS_fld (r:=kI) T.cls_Board T.no_Board_own_size le_none (sim_as oc_I (sim_var (i:=1) (r:=kPy) (x:=x.2.1) rfl)) (sim_var (i:=0) (r:=kRef) (x:=x.1) rfl) (simS_fld (r:=kI) T.cls_Board T.no_Board_up_mask le_none (sim_op os_I0 (sim_call (cal_lift (w:=w_cell_mask K cl)) (simA_cons (sim_var (i:=2) (r:=kPy) (x:=x.2.2.1) rfl) (simA_cons (sim_as oc_I (sim_var (i:=1) (r:=kPy) (x:=x.2.1) rfl)) simA_nil))) sim_i) (sim_var (i:=0) (r:=kRef) (x:=x.1) rfl) (simS_end (.no (.no (.no .nil))))))))),fun _ _ _ _ h=>h⟩)
def w_read_board (K:PySem.W.Frag) (cl:Cl):PyData×Unit→W K (Nat×Nat):=fun x=>outW (bnd (bnd (bnd (bnd (bnd (ret x.1) fun p4=>(bnd (bnd (ret "str") fun p2=>(bnd (ret ()) fun p3=>(ret (p2,p3)))) fun p5=>(ret (p4,p5)))) fun y1=>(wAss (IsTy y1.2.1) (ret (isD y1.1 y1.2.1)))) fun v6=>(ret (!v6))) fun v16=>(wIf v16 (ret true) (bnd (bnd (ret (1:Int)) fun v11=>(bnd (bnd (bnd (bnd (ret x.1) (wAs PyData.str)) fun p9=>(bnd (ret ()) fun p10=>(ret (p9,p10)))) fun y8=>(wAss (y8.1.length≤50000) (ret (y8.1.length:Int)))) fun v12=>(bnd (ret (decide (v11≤v12))) fun v13=>(wIf v13 (bnd (ret (40:Int)) fun v14=>(ret (decide (v12≤v14)))) (ret false))))) fun v15=>(ret (!v15))))) fun v71=>(wIf v71 (bnd (bnd (ret (0:Int)) fun p17=>(bnd (ret ()) fun p18=>(ret (p17,p18)))) fun (y:Int×Unit)=>(wRaise (cl.NoText,[("line",kI y.1)]))) (bnd (bnd (bnd (bnd (bnd (ret x.1) (wAs PyData.str)) fun v21=>(bnd (ret (0:Int)) fun v22=>(wIxS v21 v22))) fun v23=>(bnd (ret ("1" :Str)) fun v24=>(ret (!decide (v23=v24))))) fun v45=>(wIf v45 (ret true) (bnd (bnd (bnd (bnd (bnd (bnd (ret x.1) (wAs PyData.str)) fun y25=>(ret (TL.signs y25,nI))) fun y28=>(wAss (y28.1.length≤50000) (wCalm (fmapW y28.2 (fun (x27:Str)=>(ret true)) (fun (x27:Str)=>(bnd (ret x27) fun v39=>(bnd (bnd (bnd (ret ("0" :Str)) fun p37=>(bnd (bnd (ret ("1" :Str)) fun p35=>(bnd (ret ()) fun p36=>(ret (p35,p36)))) fun p38=>(ret (p37,p38)))) fun y34=>(ret ([y34.1,y34.2.1]:List Str))) fun v40=>(ret (decide (v39∈v40)))))) y28.1)))) fun p42=>(bnd (ret ()) fun p43=>(ret (p42,p43)))) fun y41=>(ret (y41.1.all id))) fun v44=>(ret (!v44))))) fun v70=>(wIf v70 (bnd (bnd (ret (0:Int)) fun p46=>(bnd (ret ()) fun p47=>(ret (p46,p47)))) fun (y:Int×Unit)=>(wRaise (cl.NoText,[("line",kI y.1)]))) (bnd (bnd (bnd (bnd (bnd (bnd (bnd (bnd (ret x.1) (wAs PyData.str)) fun p50=>(bnd (ret ()) fun p51=>(ret (p50,p51)))) fun y49=>(wAss (y49.1.length≤50000) (ret (y49.1.length:Int)))) fun v52=>(ret (PyData.int v52))) fun p65=>(bnd (ret ()) fun p66=>(ret (p65,p66)))) fun p62=>(bnd (bnd (bnd (bnd (bnd (bnd (bnd (ret x.1) (wAs PyData.str)) fun p55=>(bnd (ret ()) fun p56=>(ret (p55,p56)))) fun y53=>(ret (enumI (TL.signs y53.1),nI))) fun y58=>(wAss (y58.1.length≤50000) (wCalm (fmapW y58.2 (fun (x57:(Int×Str))=>(bnd (ret x57.2) fun v59=>(bnd (ret ("1" :Str)) fun v60=>(ret (decide (v59=v60)))))) (fun (x57:(Int×Str))=>(ret x57.1)) y58.1)))) fun v61=>(ret ((fun xs=>PyData.list (xs.map PyData.int)) v61))) fun p67=>(bnd (ret ()) fun p68=>(ret (p67,p68)))) fun p63=>(wMk cl.Board (w_Board____init__ K cl) ((fun (x:PyData×Unit) (y:PyData×Unit)=>(x.1,y.1,())) p62 p63)))) (wFrz cl.Board (fs_Board K cl))) fun v69=>(ret (Flow.rt v69))))))) none
abbrev sp_read_board (K:PySem.W.Frag) (cl:Cl):Sp:=lift K (fun x:PyData×Unit=> [kPy x.1]) (k_Board K cl) (w_read_board K cl)
theorem ok_read_board (T:Tx K mg cl):FnG P w K mg base 7 T.a_read_board T.fd_read_board ["text"] (sp_read_board K cl):=
  okL T.F_read_board sc_read_board (fun _=>rfl) none (fun y e=>nomatch e) (fun cdv A outer s H E hg hr=>by
    refine⟨_,pss_cons (ps_if (PW.pt (pw_or (pt_not (pt_val (pe_callB (kx_isi (K:=K) rfl) (by rfl) T.z_isinstance bt_isinstance (pa_cons (pv 0) (pa_cons (pe_bltn (v:= .ty "str") (by rfl) T.z_str bt_str rfl) pa_nil))))) (pw_or1 (pt_not (pt_chain op_le op_le (pe_int) (pe_callB (kx_len (K:=K) rfl) (by rfl) T.z_len bt_len (pa_cons (pv 0) pa_nil)) (pe_glob (v:=(.int 40)) rfl T.c_MOST_CELLS ⟨_,rfl⟩)))))) (pss_one (ps_err (k:=0) rfl T.e_NoText er_rel1 (hr.mono (by decide)) (takes_of rfl rfl rfl rfl) (pa_cons (pe_int) pa_nil) rfl)) pss_nil)
    (pss_cons (ps_if (PW.pt (pw_or (pt_cmpR (kx_ne (K:=K) rfl hr) (pe_ix (kx_ix (K:=K) rfl) (pv 0) (pe_int) (fun _ _=>rfl)) (pe_str) (nomark _)) (pw_or1 (pt_not (pt_val (pe_callB (kx_all (K:=K) rfl rfl) (by rfl) T.z_all bt_all (pa_cons (pe_lc (own:= [("sign",1)]) (g:=gName 1) (tt:=tYes)  rfl sc_read_board.nd (pi_str (pv 0)) (blkOk_by (own:= [("sign",1)]) (N:=N_read_board) (sc:=defScope st_read_board) (by decide +kernel)) (fun _ _ _ _ _=>pg_name (i:=1) sc_read_board.nd rfl (by first | exact Or.inl rfl | exact Or.inr rfl)) (fun _ _ _ _ _=>pts_nil) (fun _ _ _ _ _=>pe_cmpR (kx_in (K:=K) rfl) (pv 1) (pe_tup (pa_cons (pe_str) (pa_cons (pe_str) pa_nil))) rfl)) pa_nil))))))) (pss_one (ps_err (k:=0) rfl T.e_NoText er_rel1 (hr.mono (by decide)) (takes_of rfl rfl rfl rfl) (pa_cons (pe_int) pa_nil) rfl)) pss_nil)
    (pss_one (ps_ret (pe_fnKS ((ok_Board____init__ T).makeK T.mk_Board hg (hr.mono (by decide)) (kb_Board____init____2_up T) (takes_of rfl rfl rfl rfl)) rfl T.gc_Board T.mk_Board.kp (pa_cons (pe_callB (kx_len (K:=K) rfl) (by rfl) T.z_len bt_len (pa_cons (pv 0) pa_nil)) pa_nil) (pk_cons (pe_lc (own:= [("cell",2),("sign",1)]) (g:=gTup K 2 (gCons (gName 2) (gCons (gName 1) (gNil))))  rfl sc_read_board.nd (pi_enumS (by rfl) T.z_enumerate (pa_cons (pv 0) pa_nil)) (blkOk_by (own:= [("cell",2),("sign",1)]) (N:=N_read_board) (sc:=defScope st_read_board) (by decide +kernel)) (fun _ _ _ _ _=>pg_tupK (K:=K) rfl rfl (pgs_cons (pg_name (i:=2) sc_read_board.nd rfl (by first | exact Or.inl rfl | exact Or.inr rfl)) (pgs_cons (pg_name (i:=1) sc_read_board.nd rfl (by first | exact Or.inl rfl | exact Or.inr rfl)) pgs_nil))) (fun _ _ _ _ _=>pts_one (pt_cmpR (kx_eq (K:=K) rfl hr) (pv 1) (pe_str) (nomark _))) (fun _ _ _ _ _=>pv 2)) pk_nil))))),?_⟩
    exact⟨_,fun x=>(simS_seq (simS_if le_none (simB_or (simB_not (simB_B (sim_callB cb_isi (simA_cons (sim_var (i:=0) (r:=kPy) (x:=x.1) rfl) (simA_cons (sim_ty (T:= "str")) simA_nil))))) (simB_not (simB_test (sim_chain os_B0 os_B0 sim_i (sim_callB cb_lenS (simA_cons (sim_as oc_S (sim_var (i:=0) (r:=kPy) (x:=x.1) rfl)) simA_nil)) sim_i)))) (simS_raise le_none (simA_cons sim_i simA_nil) (fun (y:Int×Unit)=> [("line",kI y.1)]) (by rintro y Z H vs ⟨v,_,rfl,h,rfl⟩;exact⟨v,[],rfl,rfl,v,[],rfl,h,rfl⟩)) (simS_next (simS_seq (simS_if le_none (simB_or (simB_test (sim_op os_neS (sim_op os_ixS (sim_as oc_S (sim_var (i:=0) (r:=kPy) (x:=x.1) rfl)) sim_i) sim_s)) (simB_not (simB_B (sim_callB cb_all (simA_cons (sim_lc (simI_str (sim_as oc_S (sim_var (i:=0) (r:=kPy) (x:=x.1) rfl))) simG_name (fun _ _ hy=>hy) (fun (x27:Str)=>simB_yes) (fun (x27:Str)=>(sim_op os_inST (sim_var (i:=1) (r:=kS) (x:=x27) rfl) (sim_tupK (r:=kS) (fun y34:Str×Str×Unit=>([y34.1,y34.2.1]:List Str)) (fun _=>rfl) (fun _=>(by decide:2≤50000)) (simA_cons sim_s (simA_cons sim_s simA_nil)))))) simA_nil))))) (simS_raise le_none (simA_cons sim_i simA_nil) (fun (y:Int×Unit)=> [("line",kI y.1)]) (by rintro y Z H vs ⟨v,_,rfl,h,rfl⟩;exact⟨v,[],rfl,rfl,v,[],rfl,h,rfl⟩)) (simS_next (simS_ret le_none (sim_frz (fs:=fs_Board K cl) (r:=(k_Board K cl)) (fun _=>rfl) (sim_callK (cal_mkK (δ':=fun x:PyData×PyData×Unit=> [kPy x.1,kPy x.2.1]) (w:=w_Board____init__ K cl) (fun (x:PyData×Unit) (y:PyData×Unit)=>(x.1,y.1,())) (by rintro Z H x y vs zs v ⟨_,_,rfl,a0,rfl⟩ ⟨_,_,rfl,a1,rfl⟩;exact⟨_,rfl,_,_,rfl,a0,_,_,rfl,a1,rfl⟩)) (simA_cons (sim_co (sim_callB cb_lenS (simA_cons (sim_as oc_S (sim_var (i:=0) (r:=kPy) (x:=x.1) rfl)) simA_nil)) co_I) simA_nil) (simA_cons (sim_co (sim_lc (simI_enumS (simA_cons (sim_as oc_S (sim_var (i:=0) (r:=kPy) (x:=x.1) rfl)) simA_nil)) (simG_pair simG_name simG_name) (fun _ _ hy=>hy) (fun (x57:(Int×Str))=>(simB_test (sim_op os_eqS (sim_var (i:=1) (r:=kS) (x:=x57.2) rfl) sim_s))) (fun (x57:(Int×Str))=>(sim_var (i:=2) (r:=kI) (x:=x57.1) rfl))) (co_LP co_I)) simA_nil)))))))))),fun _ _ _ _ h=>h⟩)
def w__law_read (K:PySem.W.Frag) (cl:Cl):Int×PyData×Unit→W K Str:=fun x=>outW (bnd (bnd (ret x.1) fun v1=>(bnd (ret (0:Int)) fun v2=>(ret (decide (v1=v2))))) fun v39=>(wIf v39 (bnd (bnd (bnd (bnd (bnd (bnd (ret x.2.1) fun p6=>(bnd (ret ()) fun p7=>(ret (p6,p7)))) fun p3=>(w_read_cells K cl p3)) fun v8=>(ret ((fun xs=>PyData.tuple (xs.map PyData.int)) v8))) fun p12=>(bnd (ret ()) fun p13=>(ret (p12,p13)))) fun p9=>(w_cells_text K cl p9)) fun v14=>(ret (Flow.rt v14))) (bnd (bnd (bnd (ret x.1) fun v15=>(bnd (ret (1:Int)) fun v16=>(ret (decide (v15=v16))))) fun v37=>(wIf v37 (bnd (bnd (bnd (bnd (ret x.2.1) fun p20=>(bnd (ret ()) fun p21=>(ret (p20,p21)))) fun p17=>(w_read_flip K cl p17)) fun p25=>(bnd (ret ()) fun p26=>(ret (p25,p26)))) fun p22=>(w_flip_text K cl p22)) (bnd (bnd (bnd (bnd (ret x.2.1) fun p30=>(bnd (ret ()) fun p31=>(ret (p30,p31)))) fun p27=>(w_read_board K cl p27)) fun p35=>(bnd (ret ()) fun p36=>(ret (p35,p36)))) fun p32=>(w_board_text K cl p32)))) fun v38=>(ret (Flow.rt v38))))) none
abbrev sp__law_read (K:PySem.W.Frag) (cl:Cl):Sp:=lift K (fun x:Int×PyData×Unit=> [kI x.1,kPy x.2.1]) kS (w__law_read K cl)
theorem ok__law_read (T:Tx K mg cl):FnG P w K mg base 8 T.a__law_read T.fd__law_read ["_law_door","_law_text"] (sp__law_read K cl):=
  okL T.F__law_read sc__law_read (fun _=>rfl) none (fun y e=>nomatch e) (fun cdv A outer s H E hg hr=>by
    refine⟨_,pss_cons (ps_if (pt_cmpR (kx_eq (K:=K) rfl hr) (pv 0) (pe_int) (nomark _)) (pss_one (ps_ret (pe_fnS ((ok_cells_text T).atS hg (hr.mono (by decide)) (b_cells_text T) .nil (takes_of rfl rfl rfl rfl)) rfl T.g_cells_text T.F_cells_text.kp (pa_cons (pe_fnS ((ok_read_cells T).atS hg (hr.mono (by decide)) (b_read_cells T) .nil (takes_of rfl rfl rfl rfl)) rfl T.g_read_cells T.F_read_cells.kp (pa_cons (pv 1) pa_nil)) pa_nil)))) pss_nil)
    (pss_one (ps_ret (pe_ifExp (pt_cmpR (kx_eq (K:=K) rfl hr) (pv 0) (pe_int) (nomark _)) (pe_fnS ((ok_flip_text T).atS hg (hr.mono (by decide)) (b_flip_text T) .nil (takes_of rfl rfl rfl rfl)) rfl T.g_flip_text T.F_flip_text.kp (pa_cons (pe_fnS ((ok_read_flip T).atS hg (hr.mono (by decide)) (b_read_flip T) .nil (takes_of rfl rfl rfl rfl)) rfl T.g_read_flip T.F_read_flip.kp (pa_cons (pv 1) pa_nil)) pa_nil)) (pe_fnS ((ok_board_text T).atS hg (hr.mono (by decide)) (b_board_text T) .nil (takes_of rfl rfl rfl rfl)) rfl T.g_board_text T.F_board_text.kp (pa_cons (pe_fnS ((ok_read_board T).atS hg (hr.mono (by decide)) (b_read_board T) .nil (takes_of rfl rfl rfl rfl)) rfl T.g_read_board T.F_read_board.kp (pa_cons (pv 1) pa_nil)) pa_nil))))),?_⟩
    exact⟨_,fun x=>(simS_seq (simS_if le_none (simB_test (sim_op os_eqI (sim_var (i:=0) (r:=kI) (x:=x.1) rfl) sim_i)) (simS_ret le_none (sim_call (cal_lift (w:=w_cells_text K cl)) (simA_cons (sim_co (sim_call (cal_lift (w:=w_read_cells K cl)) (simA_cons (sim_var (i:=1) (r:=kPy) (x:=x.2.1) rfl) simA_nil)) (co_TP co_I)) simA_nil))) (simS_next (simS_ret le_none (sim_if (simB_test (sim_op os_eqI (sim_var (i:=0) (r:=kI) (x:=x.1) rfl) sim_i)) (sim_call (cal_lift (w:=w_flip_text K cl)) (simA_cons (sim_call (cal_lift (w:=w_read_flip K cl)) (simA_cons (sim_var (i:=1) (r:=kPy) (x:=x.2.1) rfl) simA_nil)) simA_nil)) (sim_call (cal_lift (w:=w_board_text K cl)) (simA_cons (sim_call (cal_lift (w:=w_read_board K cl)) (simA_cons (sim_var (i:=1) (r:=kPy) (x:=x.2.1) rfl) simA_nil)) simA_nil))))))),fun _ _ _ _ h=>h⟩)
def w__law_told (K:PySem.W.Frag) (cl:Cl):Int×PyData×Unit→W K (List PyData):=fun x=>outW (bnd (bnd (bnd (bnd (ret ("nothing" :Str)) fun v2=>(ret (PyData.str v2))) fun p3=>(bnd (ret ()) fun p4=>(ret (p3,p4)))) fun y1=>(ret ([y1.1]:List PyData))) fun (told_here_5:List PyData)=>(bnd (wTry (bnd (bnd (bnd (bnd (ret ("read" :Str)) fun v15=>(ret (PyData.str v15))) fun p19=>(bnd (bnd (bnd (bnd (bnd (ret x.1) fun p13=>(bnd (bnd (ret x.2.1) fun p11=>(bnd (ret ()) fun p12=>(ret (p11,p12)))) fun p14=>(ret (p13,p14)))) fun p8=>(w__law_read K cl p8)) fun v16=>(ret (PyData.str v16))) fun p17=>(bnd (ret ()) fun p18=>(ret (p17,p18)))) fun p20=>(ret (p19,p20)))) fun y7=>(ret ([y7.1,y7.2.1]:List PyData))) fun (told_here_21:List PyData)=>(ret (Flow.nx (told_here_21,())))) (wCatch cl.NoText (fun e22=>(bnd (bnd (bnd (bnd (ret e22) fun p35=>(bnd (bnd (bnd (bnd (ret (Value.ref cl.LimitError)) fun p30=>(bnd (bnd (ret (Value.ref cl.NoCells)) fun p28=>(bnd (bnd (ret (Value.ref cl.NoFlip)) fun p26=>(bnd (bnd (ret (Value.ref cl.NoSize)) fun p24=>(bnd (ret ()) fun p25=>(ret (p24,p25)))) fun p27=>(ret (p26,p27)))) fun p29=>(ret (p28,p29)))) fun p31=>(ret (p30,p31)))) fun y23=>(ret ([y23.1,y23.2.1,y23.2.2.1,y23.2.2.2.1]:List Value))) fun p33=>(bnd (ret ()) fun p34=>(ret (p33,p34)))) fun p36=>(ret (p35,p36)))) fun y32=>(wIsEs y32.1 y32.2.1)) fun v43=>(wIf v43 (ret true) (bnd (bnd (bnd (ret e22) fun p41=>(bnd (bnd (ret (Value.ref cl.CellError)) fun p39=>(bnd (ret ()) fun p40=>(ret (p39,p40)))) fun p42=>(ret (p41,p42)))) fun y38=>(wIsE y38.1 y38.2.1)) fun v37=>(ret (!v37))))) fun (others_44:Bool)=>(bnd (bnd (bnd (bnd (ret ("no" :Str)) fun v53=>(ret (PyData.str v53))) fun p60=>(bnd (bnd (bnd (bnd (ret e22) (wXf (C:=cl.NoText) "line" kI)) fun v54=>(ret (PyData.int v54))) fun p58=>(bnd (bnd (bnd (bnd (ret others_44) fun v52=>(wIf v52 (ret true) (bnd (bnd (bnd (ret e22) fun p50=>(bnd (bnd (ret (Value.type "ValueError")) fun p48=>(bnd (ret ()) fun p49=>(ret (p48,p49)))) fun p51=>(ret (p50,p51)))) fun y47=>(wIsE y47.1 y47.2.1)) fun v46=>(ret (!v46))))) fun v55=>(ret (PyData.bool v55))) fun p56=>(bnd (ret ()) fun p57=>(ret (p56,p57)))) fun p59=>(ret (p58,p59)))) fun p61=>(ret (p60,p61)))) fun y45=>(ret ([y45.1,y45.2.1,y45.2.2.1]:List PyData))) fun (told_here_62:List PyData)=>(ret (Flow.nx (told_here_62,())))))) wRaise)) (aftT fun (s6:(List PyData)×Unit)=>(bnd (ret s6.1) fun v63=>(ret (Flow.rt v63)))))) none
abbrev sp__law_told (K:PySem.W.Frag) (cl:Cl):Sp:=lift K (fun x:Int×PyData×Unit=> [kI x.1,kPy x.2.1]) (kL kPy) (w__law_told K cl)
theorem ok__law_told (T:Tx K mg cl):FnG P w K mg base 9 T.a__law_told T.fd__law_told ["_law_door","_law_text"] (sp__law_told K cl):=
  okL T.F__law_told sc__law_told (fun _=>rfl) none (fun y e=>nomatch e) (fun cdv A outer s H E hg hr=>by
    refine⟨_,pss_cons (ps_set (i:=2) sc__law_told.nd rfl (by first | exact Or.inl rfl | exact Or.inr rfl) (pe_lst (pa_cons (pe_str) pa_nil)))
    (pss_cons (ps_try_clauses rfl rfl sc__law_told.nd (takes_of rfl rfl rfl rfl)
      (fun W pn xe tk _=>pss_one (ps_set (i:=2) sc__law_told.nd rfl (by first | exact Or.inl rfl | exact Or.inr rfl) (pe_lst (pa_cons (pe_str) (pa_cons (pe_fnS ((ok__law_read T).atS hg (hr.mono (by decide)) (b__law_read T) .nil tk) rfl T.g__law_read T.F__law_read.kp (pa_cons (pv 0) (pa_cons (pv 1) pa_nil))) pa_nil)))))
      (.cons (i:=3) rfl rfl ⟨rfl,by decide,Or.inl T.e_NoText.gC⟩ (fun a oe cls d pn hz hf=>pss_cons (ps_set (i:=4) sc__law_told.nd rfl (by first | exact Or.inl rfl | exact Or.inr rfl) (pe_or (pe_callB (call_isErr hz hf) (by rfl) T.z_isinstance bt_isinstance (pa_cons (pv 3) (pa_cons (pe_tup (pa_cons (pe_glob (v:= .ref cl.LimitError) rfl T.g_LimitError rfl) (pa_cons (pe_glob (v:= .ref cl.NoCells) rfl T.e_NoCells.gC rfl) (pa_cons (pe_glob (v:= .ref cl.NoFlip) rfl T.e_NoFlip.gC rfl) (pa_cons (pe_glob (v:= .ref cl.NoSize) rfl T.e_NoSize.gC rfl) pa_nil))))) pa_nil))) (pe_one (pe_not (pe_callB (call_isErr hz hf) (by rfl) T.z_isinstance bt_isinstance (pa_cons (pv 3) (pa_cons (pe_glob (v:= .ref cl.CellError) rfl T.g_CellError rfl) pa_nil)))))))
    (pss_one (ps_set (i:=2) sc__law_told.nd rfl (by first | exact Or.inl rfl | exact Or.inr rfl) (pe_lst (pa_cons (pe_str) (pa_cons (pe_xf T.q_NoText.xf (T.e_NoText.noF _ (by simp)) hz hf (pv 3)) (pa_cons (pe_or (pv 4) (pe_one (pe_not (pe_callB (call_isErr hz hf) (by rfl) T.z_isinstance bt_isinstance (pa_cons (pv 3) (pa_cons (pe_bltn (v:= .ty "ValueError") (by rfl) T.z_ValueError bt_ValueError rfl) pa_nil)))))) pa_nil))))))) .nil))
    (pss_one (ps_ret (pv 2)))),?_⟩
    exact⟨_,fun x=>(simS_seq (simS_asg simG_name le_none (sim_lstK (r:=kPy) (fun y1:PyData×Unit=>([y1.1]:List PyData)) (fun _=>rfl) (fun _=>(by decide:1≤50000)) (simA_cons (sim_co sim_s co_S) simA_nil)) (fun (told_here_5:List PyData)=>(show SimS _ _ ([some (kI x.1),some (kPy x.2.1),some ((kL kPy) told_here_5),none,none]:Gm K) _ _ _ _ from (simS_seq (simS_try (Gc:= [some (kI x.1),some (kPy x.2.1),none,none,none]) (G1:=(fun s6:(List PyData)×Unit=>([some (kI x.1),some (kPy x.2.1),some ((kL kPy) s6.1),none,none]:Gm K))) (fun ε'=>(simS_asg (simG_name (i:=2) (r:=(kL kPy))) (.so (.so (.no (.no (.no .nil))))) (sim_lstK (r:=kPy) (fun y7:PyData×PyData×Unit=>([y7.1,y7.2.1]:List PyData)) (fun _=>rfl) (fun _=>(by decide:2≤50000)) (simA_cons (sim_co sim_s co_S) (simA_cons (sim_co (sim_call (cal_lift (w:=w__law_read K cl)) (simA_cons (sim_var (i:=0) (r:=kI) (x:=x.1) rfl) (simA_cons (sim_var (i:=1) (r:=kPy) (x:=x.2.1) rfl) simA_nil))) co_S) simA_nil))) (fun (told_here_21:List PyData)=>(show SimS _ (some ([some (kI x.1),some (kPy x.2.1),none,none,none]:Gm K)) ([some (kI x.1),some (kPy x.2.1),some ((kL kPy) told_here_21),none,none]:Gm K) _ _ _ _ from (simS_end (s:=((told_here_21,()):(List PyData)×Unit)) (.so (.so (.so (.no (.no .nil)))))))))) (SimC.cons (i:=3) (Gs:=(fun s6:(List PyData)×Unit=>([some (kI x.1),some (kPy x.2.1),some ((kL kPy) s6.1),none,none]:Gm K))) (fun a k d e22=>(show SimS _ _ ([some (kI x.1),some (kPy x.2.1),none,some (kErr a k d e22),none]:Gm K) _ _ _ _ from (simS_seq (simS_asg simG_name le_none (sim_orV (sim_callB cb_isEs (simA_cons (sim_var (i:=3) (r:=(kErr a k d)) (x:=e22) rfl) (simA_cons (sim_tupX (r:=kCls) (fun y23:Value×Value×Value×Value×Unit=>([y23.1,y23.2.1,y23.2.2.1,y23.2.2.2.1]:List Value)) (fun _=>rfl) (fun _=>(by decide:4≤50000)) (simA_cons (sim_clsR (C:=cl.LimitError)) (simA_cons (sim_clsR (C:=cl.NoCells)) (simA_cons (sim_clsR (C:=cl.NoFlip)) (simA_cons (sim_clsR (C:=cl.NoSize)) simA_nil))))) simA_nil))) (sim_notV (sim_callB cb_isE (simA_cons (sim_var (i:=3) (r:=(kErr a k d)) (x:=e22) rfl) (simA_cons (sim_clsR (C:=cl.CellError)) simA_nil))))) (fun (others_44:Bool)=>(show SimS _ _ ([some (kI x.1),some (kPy x.2.1),none,some (kErr a k d e22),some (kB others_44)]:Gm K) _ _ _ _ from (simS_asg simG_name le_none (sim_lstK (r:=kPy) (fun y45:PyData×PyData×PyData×Unit=>([y45.1,y45.2.1,y45.2.2.1]:List PyData)) (fun _=>rfl) (fun _=>(by decide:3≤50000)) (simA_cons (sim_co sim_s co_S) (simA_cons (sim_co (sim_xf (r:=kI) (sim_var (i:=3) (r:=kErr a k d) (x:=e22) rfl)) co_I) (simA_cons (sim_co (sim_orV (sim_var (i:=4) (r:=kB) (x:=others_44) rfl) (sim_notV (sim_callB cb_isE (simA_cons (sim_var (i:=3) (r:=(kErr a k d)) (x:=e22) rfl) (simA_cons (sim_clsT (T:= "ValueError")) simA_nil))))) co_B) simA_nil)))) (fun (told_here_62:List PyData)=>(show SimS _ _ ([some (kI x.1),some (kPy x.2.1),some ((kL kPy) told_here_62),some (kErr a k d e22),some (kB others_44)]:Gm K) _ _ _ _ from (simS_end (s:=((told_here_62,()):(List PyData)×Unit)) (.so (.so (.so (.no (.no .nil))))))))))))))) (fun _=>(.so (.so (.so (.no (.no .nil)))))) (.nil le_none)) (fun (s6:(List PyData)×Unit)=>(show SimS _ _ ([some (kI x.1),some (kPy x.2.1),some ((kL kPy) s6.1),none,none]:Gm K) _ _ _ _ from (simS_ret le_none (sim_var (i:=2) (r:=(kL kPy)) (x:=s6.1) rfl)))))))))),fun _ _ _ _ h=>h⟩)
def w__law_is_board (K:PySem.W.Frag) (cl:Cl):Str×Unit→W K Bool:=fun x=>outW (bnd (bnd (bnd (bnd (ret (1:Int)) fun v4=>(bnd (bnd (bnd (ret x.1) fun p2=>(bnd (ret ()) fun p3=>(ret (p2,p3)))) fun y1=>(wAss (y1.1.length≤50000) (ret (y1.1.length:Int)))) fun v5=>(bnd (ret (decide (v4≤v5))) fun v6=>(wIf v6 (bnd (ret (40:Int)) fun v7=>(ret (decide (v5≤v7)))) (ret false))))) fun v8=>(ret (!v8))) fun v14=>(wIf v14 (ret true) (bnd (bnd (ret x.1) fun v10=>(bnd (ret (0:Int)) fun v11=>(wIxS v10 v11))) fun v12=>(bnd (ret ("1" :Str)) fun v13=>(ret (!decide (v12=v13))))))) fun v27=>(wIf v27 (bnd (ret false) fun v15=>(ret (Flow.rt v15))) (bnd (bnd (bnd (bnd (bnd (bnd (ret x.1) fun y16=>(ret (TL.signs y16,nI))) fun y18=>(wAss (y18.1.length≤50000) (wCalm (fmapW y18.2 (fun (x17:Str)=>(bnd (ret x17) fun v19=>(bnd (ret ("01" :Str)) fun v20=>(wNiC v19 v20)))) (fun (x17:Str)=>(ret x17)) y18.1)))) fun p22=>(bnd (ret ()) fun p23=>(ret (p22,p23)))) fun y21=>(ret (y21.1.length:Int))) fun v24=>(bnd (ret (0:Int)) fun v25=>(ret (decide (v24=v25))))) fun v26=>(ret (Flow.rt v26))))) none
abbrev sp__law_is_board (K:PySem.W.Frag) (cl:Cl):Sp:=lift K (fun x:Str×Unit=> [kS x.1]) kB (w__law_is_board K cl)
theorem ok__law_is_board (T:Tx K mg cl):FnG P w K mg base 1 T.a__law_is_board T.fd__law_is_board ["_law_text"] (sp__law_is_board K cl):=
  okL T.F__law_is_board sc__law_is_board (fun _=>rfl) none (fun y e=>nomatch e) (fun cdv A outer s H E hg hr=>by
    refine⟨_,pss_cons (ps_if (PW.pt (pw_or (pt_not (pt_chain op_le op_le (pe_int) (pe_callB (kx_len (K:=K) rfl) (by rfl) T.z_len bt_len (pa_cons (pv 0) pa_nil)) (pe_int))) (pw_or1 (pt_cmpR (kx_ne (K:=K) rfl hr) (pe_ix (kx_ix (K:=K) rfl) (pv 0) (pe_int) (fun _ _=>rfl)) (pe_str) (nomark _))))) (pss_one (ps_ret (pe_bl))) pss_nil)
    (pss_one (ps_ret (pe_cmpR (kx_eq (K:=K) rfl hr) (pe_callB (kx_len (K:=K) rfl) (by rfl) T.z_len bt_len (pa_cons (pe_lc (own:= [("_law_sign",1)]) (g:=gName 1)  rfl sc__law_is_board.nd (pi_str (pv 0)) (blkOk_by (own:= [("_law_sign",1)]) (N:=N__law_is_board) (sc:=defScope st__law_is_board) (by decide +kernel)) (fun _ _ _ _ _=>pg_name (i:=1) sc__law_is_board.nd rfl (by first | exact Or.inl rfl | exact Or.inr rfl)) (fun _ _ _ _ _=>pts_one (pt_cmpR (kx_notIn (K:=K) rfl) (pv 1) (pe_str) rfl)) (fun _ _ _ _ _=>pv 1)) pa_nil)) (pe_int) (nomark _)))),?_⟩
    exact⟨_,fun x=>(simS_seq (simS_if le_none (simB_or (simB_not (simB_test (sim_chain os_B0 os_B0 sim_i (sim_callB cb_lenS (simA_cons (sim_var (i:=0) (r:=kS) (x:=x.1) rfl) simA_nil)) sim_i))) (simB_test (sim_op os_neS (sim_op os_ixS (sim_var (i:=0) (r:=kS) (x:=x.1) rfl) sim_i) sim_s))) (simS_ret le_none sim_b) (simS_next (simS_ret le_none (sim_op os_eqI (sim_callB cb_lenL (simA_cons (sim_lc (simI_str (sim_var (i:=0) (r:=kS) (x:=x.1) rfl)) simG_name (fun _ _ hy=>hy) (fun (x17:Str)=>(simB_test (sim_op os_niC (sim_var (i:=1) (r:=kS) (x:=x17) rfl) sim_s))) (fun (x17:Str)=>(sim_var (i:=1) (r:=kS) (x:=x17) rfl))) simA_nil)) sim_i))))),fun _ _ _ _ h=>h⟩)
def w__law_are_cells (K:PySem.W.Frag) (cl:Cl):Str×Unit→W K Bool:=fun x=>outW (bnd (bnd (ret x.1) fun v1=>(bnd (ret ("-" :Str)) fun v2=>(ret (decide (v1=v2))))) fun v60=>(wIf v60 (bnd (ret true) fun v3=>(ret (Flow.rt v3))) (bnd (bnd (ret (1:Int)) fun v4=>(ret (-v4))) fun (ahead_5:Int)=>(bnd (bnd (bnd (ret x.1) fun v9=>(bnd (ret ("," :Str)) fun v10=>(wAss (v10.length≠0∧v9.length≤50000) (ret (Txt.split v9 v10))))) fun y8=>(ret (y8,nI))) fun y12=>(bnd (forW y12.2 (fun (x11:Str) (s6:Int×Unit)=>(bnd (bnd (bnd (ret x11) fun v13=>(bnd (ret ("" :Str)) fun v14=>(ret (decide (v13=v14))))) fun v31=>(wIf v31 (ret true) (bnd (bnd (bnd (bnd (bnd (bnd (ret x11) fun y15=>(ret (TL.signs y15,nI))) fun y17=>(wAss (y17.1.length≤50000) (wCalm (fmapW y17.2 (fun (x16:Str)=>(bnd (ret x16) fun v18=>(bnd (ret ("0123456789" :Str)) fun v19=>(wNiC v18 v19)))) (fun (x16:Str)=>(ret x16)) y17.1)))) fun p21=>(bnd (ret ()) fun p22=>(ret (p21,p22)))) fun y20=>(ret (y20.1.length:Int))) fun v23=>(bnd (ret (0:Int)) fun v24=>(ret (decide (v24<v23))))) fun v30=>(wIf v30 (ret true) (bnd (bnd (bnd (ret x11) fun p26=>(bnd (ret ()) fun p27=>(ret (p26,p27)))) fun y25=>(wAss (y25.1.length≤50000) (ret (y25.1.length:Int)))) fun v28=>(bnd (ret (2:Int)) fun v29=>(ret (decide (v29<v28))))))))) fun v59=>(wIf v59 (bnd (ret false) fun v32=>(ret (Flow.rt v32))) (bnd (bnd (bnd (bnd (bnd (ret x11) fun v34=>(bnd (ret (0:Int)) fun v35=>(wIxS v34 v35))) fun v36=>(bnd (ret ("0" :Str)) fun v37=>(ret (decide (v36=v37))))) fun v40=>(wIf v40 (bnd (ret x11) fun v38=>(bnd (ret ("0" :Str)) fun v39=>(ret (!decide (v38=v39))))) (ret false))) fun v52=>(wIf v52 (ret true) (bnd (bnd (bnd (bnd (ret x11) fun p42=>(bnd (ret ()) fun p43=>(ret (p42,p43)))) fun y41=>(wInt y41.1)) fun v44=>(bnd (ret s6.1) fun v45=>(ret (decide (v44≤v45))))) fun v51=>(wIf v51 (ret true) (bnd (bnd (bnd (ret x11) fun p47=>(bnd (ret ()) fun p48=>(ret (p47,p48)))) fun y46=>(wInt y46.1)) fun v49=>(bnd (ret (39:Int)) fun v50=>(ret (decide (v50<v49))))))))) fun v58=>(wIf v58 (bnd (ret false) fun v53=>(ret (Flow.rt v53))) (bnd (bnd (bnd (ret x11) fun p55=>(bnd (ret ()) fun p56=>(ret (p55,p56)))) fun y54=>(wInt y54.1)) fun (ahead_57:Int)=>(ret (Flow.nx (ahead_57,()))))))))) y12.1 (ahead_5,())) (aft fun (s6:Int×Unit)=>(bnd (ret true) fun v7=>(ret (Flow.rt v7))))))))) none
abbrev sp__law_are_cells (K:PySem.W.Frag) (cl:Cl):Sp:=lift K (fun x:Str×Unit=> [kS x.1]) kB (w__law_are_cells K cl)
theorem ok__law_are_cells (T:Tx K mg cl):FnG P w K mg base 1 T.a__law_are_cells T.fd__law_are_cells ["_law_text"] (sp__law_are_cells K cl):=
  okL T.F__law_are_cells sc__law_are_cells (fun _=>rfl) none (fun y e=>nomatch e) (fun cdv A outer s H E hg hr=>by
    refine⟨_,pss_cons (ps_if (pt_cmpR (kx_eq (K:=K) rfl hr) (pv 0) (pe_str) (nomark _)) (pss_one (ps_ret (pe_bl))) pss_nil)
    (pss_cons (ps_set (i:=1) sc__law_are_cells.nd rfl (by first | exact Or.inl rfl | exact Or.inr rfl) (pe_un un_neg (pe_int)))
    (pss_cons (ps_for (passes_of rfl) rfl (pi_listK rfl (pe_split (pv 0) (pe_str))) (pg_name (i:=2) sc__law_are_cells.nd rfl (by first | exact Or.inl rfl | exact Or.inr rfl))
      (pss_cons (ps_if (PW.pt (pw_or (pt_cmpR (kx_eq (K:=K) rfl hr) (pv 2) (pe_str) (nomark _)) (pw_or (pt_cmpR op_gt (pe_callB (kx_len (K:=K) rfl) (by rfl) T.z_len bt_len (pa_cons (pe_lc (own:= [("_law_sign",3)]) (g:=gName 3)  rfl sc__law_are_cells.nd (pi_str (pv 2)) (blkOk_by (own:= [("_law_sign",3)]) (N:=N__law_are_cells) (sc:=defScope st__law_are_cells) (by decide +kernel)) (fun _ _ _ _ _=>pg_name (i:=3) sc__law_are_cells.nd rfl (by first | exact Or.inl rfl | exact Or.inr rfl)) (fun _ _ _ _ _=>pts_one (pt_cmpR (kx_notIn (K:=K) rfl) (pv 3) (pe_str) rfl)) (fun _ _ _ _ _=>pv 3)) pa_nil)) (pe_int) (nomark _)) (pw_or1 (pt_cmpR op_gt (pe_callB (kx_len (K:=K) rfl) (by rfl) T.z_len bt_len (pa_cons (pv 2) pa_nil)) (pe_int) (nomark _)))))) (pss_one (ps_ret (pe_bl))) pss_nil)
    (pss_cons (ps_if (PW.pt (pw_or (PW.pt (pw_and (pt_cmpR (kx_eq (K:=K) rfl hr) (pe_ix (kx_ix (K:=K) rfl) (pv 2) (pe_int) (fun _ _=>rfl)) (pe_str) (nomark _)) (pw_and1 (pt_cmpR (kx_ne (K:=K) rfl hr) (pv 2) (pe_str) (nomark _))))) (pw_or (pt_cmpR op_le (pe_callTy call_int_str (by rfl) T.z_int bt_int (pa_cons (pv 2) pa_nil)) (pv 1) (nomark _)) (pw_or1 (pt_cmpR op_gt (pe_callTy call_int_str (by rfl) T.z_int bt_int (pa_cons (pv 2) pa_nil)) (pe_int) (nomark _)))))) (pss_one (ps_ret (pe_bl))) pss_nil)
    (pss_one (ps_set (i:=1) sc__law_are_cells.nd rfl (by first | exact Or.inl rfl | exact Or.inr rfl) (pe_callTy call_int_str (by rfl) T.z_int bt_int (pa_cons (pv 2) pa_nil)))))))
    (pss_one (ps_ret (pe_bl))))),?_⟩
    exact⟨_,fun x=>(simS_seq (simS_if le_none (simB_test (sim_op os_eqS (sim_var (i:=0) (r:=kS) (x:=x.1) rfl) sim_s)) (simS_ret le_none sim_b) (simS_next (simS_seq (simS_asg simG_name le_none (sim_neg sim_i) (fun (ahead_5:Int)=>(show SimS _ _ ([some (kS x.1),some (kI ahead_5),none,none]:Gm K) _ _ _ _ from (simS_seq (simS_for (Gl:=(fun s6:Int×Unit=>([some (kS x.1),some (kI s6.1),none,none]:Gm K))) (s0:=(ahead_5,())) le_none (simI_list (r:=kS) (sim_new (simN_split (sim_var (i:=0) (r:=kS) (x:=x.1) rfl) sim_s))) simG_name (.so (.so (.no (.no .nil)))) (fun (x11:Str) (s6:Int×Unit)=>(show SimS _ _ ([some (kS x.1),some (kI s6.1),some (kS x11),none]:Gm K) _ _ _ _ from (simS_seq (simS_if le_none (simB_or (simB_test (sim_op os_eqS (sim_var (i:=2) (r:=kS) (x:=x11) rfl) sim_s)) (simB_or (simB_test (sim_op os_B0 (sim_callB cb_lenL (simA_cons (sim_lc (simI_str (sim_var (i:=2) (r:=kS) (x:=x11) rfl)) simG_name (fun _ _ hy=>hy) (fun (x16:Str)=>(simB_test (sim_op os_niC (sim_var (i:=3) (r:=kS) (x:=x16) rfl) sim_s))) (fun (x16:Str)=>(sim_var (i:=3) (r:=kS) (x:=x16) rfl))) simA_nil)) sim_i)) (simB_test (sim_op os_B0 (sim_callB cb_lenS (simA_cons (sim_var (i:=2) (r:=kS) (x:=x11) rfl) simA_nil)) sim_i)))) (simS_ret le_none sim_b) (simS_next (simS_seq (simS_if le_none (simB_or (simB_and (simB_test (sim_op os_eqS (sim_op os_ixS (sim_var (i:=2) (r:=kS) (x:=x11) rfl) sim_i) sim_s)) (simB_test (sim_op os_neS (sim_var (i:=2) (r:=kS) (x:=x11) rfl) sim_s))) (simB_or (simB_test (sim_op os_B0 (sim_callB cb_intS (simA_cons (sim_var (i:=2) (r:=kS) (x:=x11) rfl) simA_nil)) (sim_var (i:=1) (r:=kI) (x:=s6.1) rfl))) (simB_test (sim_op os_B0 (sim_callB cb_intS (simA_cons (sim_var (i:=2) (r:=kS) (x:=x11) rfl) simA_nil)) sim_i)))) (simS_ret le_none sim_b) (simS_next (simS_asg simG_name le_none (sim_callB cb_intS (simA_cons (sim_var (i:=2) (r:=kS) (x:=x11) rfl) simA_nil)) (fun (ahead_57:Int)=>(show SimS _ _ ([some (kS x.1),some (kI ahead_57),some (kS x11),none]:Gm K) _ _ _ _ from (simS_end (s:=((ahead_57,()):Int×Unit)) (.so (.so (.no (.no .nil)))))))))))))))) (fun (s6:Int×Unit)=>(show SimS _ _ ([some (kS x.1),some (kI s6.1),none,none]:Gm K) _ _ _ _ from (simS_ret le_none sim_b)))))))))))),fun _ _ _ _ h=>h⟩)
def w__law_own_spots (K:PySem.W.Frag) (cl:Cl):Str×Unit→W K (List Int):=fun x=>outW (bnd (bnd (bnd (ret x.1) fun v1=>(bnd (ret ("-" :Str)) fun v2=>(ret (decide (v1=v2))))) fun v12=>(wIf v12 (bnd (ret ()) fun y3=>(ret ([]:List Int))) (bnd (bnd (bnd (ret x.1) fun v5=>(bnd (ret ("," :Str)) fun v6=>(wAss (v6.length≠0∧v5.length≤50000) (ret (Txt.split v5 v6))))) fun y4=>(ret (y4,nI))) fun y8=>(wAss (y8.1.length≤50000) (wCalm (fmapW y8.2 (fun (x7:Str)=>(ret true)) (fun (x7:Str)=>(bnd (bnd (ret x7) fun p10=>(bnd (ret ()) fun p11=>(ret (p10,p11)))) fun y9=>(wInt y9.1))) y8.1)))))) fun v13=>(ret (Flow.rt v13))) none
abbrev sp__law_own_spots (K:PySem.W.Frag) (cl:Cl):Sp:=lift K (fun x:Str×Unit=> [kS x.1]) (kL kI) (w__law_own_spots K cl)
theorem ok__law_own_spots (T:Tx K mg cl):FnG P w K mg base 1 T.a__law_own_spots T.fd__law_own_spots ["_law_text"] (sp__law_own_spots K cl):=
  okL T.F__law_own_spots sc__law_own_spots (fun _=>rfl) none (fun y e=>nomatch e) (fun cdv A outer s H E hg hr=>by
    refine⟨_,pss_one (ps_ret (pe_ifExp (pt_cmpR (kx_eq (K:=K) rfl hr) (pv 0) (pe_str) (nomark _)) (pe_lst (pa_nil)) (pe_lc (own:= [("_law_word",1)]) (g:=gName 1) (tt:=tYes)  rfl sc__law_own_spots.nd (pi_listK rfl (pe_split (pv 0) (pe_str))) (blkOk_by (own:= [("_law_word",1)]) (N:=N__law_own_spots) (sc:=defScope st__law_own_spots) (by decide +kernel)) (fun _ _ _ _ _=>pg_name (i:=1) sc__law_own_spots.nd rfl (by first | exact Or.inl rfl | exact Or.inr rfl)) (fun _ _ _ _ _=>pts_nil) (fun _ _ _ _ _=>pe_callTy call_int_str (by rfl) T.z_int bt_int (pa_cons (pv 1) pa_nil))))),?_⟩
    exact⟨_,fun x=>(simS_ret le_none (sim_if (simB_test (sim_op os_eqS (sim_var (i:=0) (r:=kS) (x:=x.1) rfl) sim_s)) (sim_lstK (r:=kI) (fun y3:Unit=>([]:List Int)) (fun _=>rfl) (fun _=>(by decide:0≤50000)) simA_nil) (sim_lc (simI_list (r:=kS) (sim_new (simN_split (sim_var (i:=0) (r:=kS) (x:=x.1) rfl) sim_s))) simG_name (fun _ _ hy=>hy) (fun (x7:Str)=>simB_yes) (fun (x7:Str)=>(sim_callB cb_intS (simA_cons (sim_var (i:=1) (r:=kS) (x:=x7) rfl) simA_nil)))))),fun _ _ _ _ h=>h⟩)
def w__law_is_flip (K:PySem.W.Frag) (cl:Cl):Str×Unit→W K Bool:=fun x=>outW (bnd (bnd (ret x.1) fun v1=>(bnd (ret (">" :Str)) fun v2=>(wAss (v2.length≠0∧v1.length≤50000) (ret (Txt.split v1 v2))))) fun (parts_3:List Str)=>(bnd (bnd (bnd (bnd (bnd (ret parts_3) fun p5=>(bnd (ret ()) fun p6=>(ret (p5,p6)))) fun y4=>(ret (y4.1.length:Int))) fun v7=>(bnd (ret (2:Int)) fun v8=>(ret (!decide (v7=v8))))) fun v28=>(wIf v28 (ret true) (bnd (bnd (bnd (bnd (bnd (ret parts_3) fun v10=>(bnd (ret (0:Int)) fun v11=>(wIx v10 v11))) fun p15=>(bnd (ret ()) fun p16=>(ret (p15,p16)))) fun p12=>(w__law_are_cells K cl p12)) fun v17=>(ret (!v17))) fun v27=>(wIf v27 (ret true) (bnd (bnd (bnd (bnd (ret parts_3) fun v19=>(bnd (ret (1:Int)) fun v20=>(wIx v19 v20))) fun p24=>(bnd (ret ()) fun p25=>(ret (p24,p25)))) fun p21=>(w__law_are_cells K cl p21)) fun v26=>(ret (!v26))))))) fun v68=>(wIf v68 (bnd (ret false) fun v29=>(ret (Flow.rt v29))) (bnd (bnd (bnd (bnd (bnd (bnd (ret parts_3) fun v31=>(bnd (ret (0:Int)) fun v32=>(wIx v31 v32))) fun p36=>(bnd (ret ()) fun p37=>(ret (p36,p37)))) fun p33=>(w__law_own_spots K cl p33)) fun p49=>(bnd (bnd (bnd (bnd (bnd (ret parts_3) fun v39=>(bnd (ret (1:Int)) fun v40=>(wIx v39 v40))) fun p44=>(bnd (ret ()) fun p45=>(ret (p44,p45)))) fun p41=>(w__law_own_spots K cl p41)) fun p47=>(bnd (ret ()) fun p48=>(ret (p47,p48)))) fun p50=>(ret (p49,p50)))) fun y46=>(ret (y46.1,y46.2.1))) fun (y51:((List Int)×(List Int)))=>(bnd (bnd (bnd (ret (0:Int)) fun v52=>(bnd (ret y51.2) fun v53=>(ret (!decide (v52∈v53))))) fun v66=>(wIf v66 (bnd (bnd (bnd (bnd (bnd (bnd (ret y51.1) fun y54=>(ret (y54,nI))) fun y56=>(wAss (y56.1.length≤50000) (wCalm (fmapW y56.2 (fun (x55:Int)=>(bnd (ret x55) fun v57=>(bnd (ret y51.2) fun v58=>(ret (decide (v57∈v58)))))) (fun (x55:Int)=>(ret x55)) y56.1)))) fun p60=>(bnd (ret ()) fun p61=>(ret (p60,p61)))) fun y59=>(ret (y59.1.length:Int))) fun v62=>(bnd (ret (2:Int)) fun v63=>(wAss (0<v63) (ret (v62 % v63))))) fun v64=>(bnd (ret (0:Int)) fun v65=>(ret (decide (v64=v65))))) (ret false))) fun v67=>(ret (Flow.rt v67))))))) none
abbrev sp__law_is_flip (K:PySem.W.Frag) (cl:Cl):Sp:=lift K (fun x:Str×Unit=> [kS x.1]) kB (w__law_is_flip K cl)
theorem ok__law_is_flip (T:Tx K mg cl):FnG P w K mg base 2 T.a__law_is_flip T.fd__law_is_flip ["_law_text"] (sp__law_is_flip K cl):=
  okL T.F__law_is_flip sc__law_is_flip (fun _=>rfl) none (fun y e=>nomatch e) (fun cdv A outer s H E hg hr=>by
    refine⟨_,pss_cons (ps_set (i:=1) sc__law_is_flip.nd rfl (by first | exact Or.inl rfl | exact Or.inr rfl) (pe_split (pv 0) (pe_str)))
    (pss_cons (ps_if (PW.pt (pw_or (pt_cmpR (kx_ne (K:=K) rfl hr) (pe_callB (kx_len (K:=K) rfl) (by rfl) T.z_len bt_len (pa_cons (pv 1) pa_nil)) (pe_int) (nomark _)) (pw_or (pt_not (pt_val (pe_fnS ((ok__law_are_cells T).atS hg (hr.mono (by decide)) (b__law_are_cells T) .nil (takes_of rfl rfl rfl rfl)) rfl T.g__law_are_cells T.F__law_are_cells.kp (pa_cons (pe_ix (kx_ix (K:=K) rfl) (pv 1) (pe_int) (fun _ _=>rfl)) pa_nil)))) (pw_or1 (pt_not (pt_val (pe_fnS ((ok__law_are_cells T).atS hg (hr.mono (by decide)) (b__law_are_cells T) .nil (takes_of rfl rfl rfl rfl)) rfl T.g__law_are_cells T.F__law_are_cells.kp (pa_cons (pe_ix (kx_ix (K:=K) rfl) (pv 1) (pe_int) (fun _ _=>rfl)) pa_nil)))))))) (pss_one (ps_ret (pe_bl))) pss_nil)
    (pss_cons (ps_asg (pe_tup (pa_cons (pe_fnS ((ok__law_own_spots T).atS hg (hr.mono (by decide)) (b__law_own_spots T) .nil (takes_of rfl rfl rfl rfl)) rfl T.g__law_own_spots T.F__law_own_spots.kp (pa_cons (pe_ix (kx_ix (K:=K) rfl) (pv 1) (pe_int) (fun _ _=>rfl)) pa_nil)) (pa_cons (pe_fnS ((ok__law_own_spots T).atS hg (hr.mono (by decide)) (b__law_own_spots T) .nil (takes_of rfl rfl rfl rfl)) rfl T.g__law_own_spots T.F__law_own_spots.kp (pa_cons (pe_ix (kx_ix (K:=K) rfl) (pv 1) (pe_int) (fun _ _=>rfl)) pa_nil)) pa_nil))) (pg_tupK (K:=K) rfl rfl (pgs_cons (pg_name (i:=2) sc__law_is_flip.nd rfl (by first | exact Or.inl rfl | exact Or.inr rfl)) (pgs_cons (pg_name (i:=3) sc__law_is_flip.nd rfl (by first | exact Or.inl rfl | exact Or.inr rfl)) pgs_nil))))
    (pss_one (ps_ret (pe_and (pe_cmpR (kx_notIn (K:=K) rfl) (pe_int) (pv 3) rfl) (pe_one (pe_cmpR (kx_eq (K:=K) rfl hr) (pe_op op_modA (pe_callB (kx_len (K:=K) rfl) (by rfl) T.z_len bt_len (pa_cons (pe_lc (own:= [("_law_spot",4)]) (g:=gName 4)  rfl sc__law_is_flip.nd (pi_listK rfl (pv 2)) (blkOk_by (own:= [("_law_spot",4)]) (N:=N__law_is_flip) (sc:=defScope st__law_is_flip) (by decide +kernel)) (fun _ _ _ _ _=>pg_name (i:=4) sc__law_is_flip.nd rfl (by first | exact Or.inl rfl | exact Or.inr rfl)) (fun _ _ _ _ _=>pts_one (pt_cmpR (kx_in (K:=K) rfl) (pv 4) (pv 3) rfl)) (fun _ _ _ _ _=>pv 4)) pa_nil)) (pe_int)) (pe_int) (nomark _)))))))),?_⟩
    exact⟨_,fun x=>(simS_seq (simS_asg simG_name le_none (sim_new (simN_split (sim_var (i:=0) (r:=kS) (x:=x.1) rfl) sim_s)) (fun (parts_3:List Str)=>(show SimS _ _ ([some (kS x.1),some ((kL kS) parts_3),none,none,none]:Gm K) _ _ _ _ from (simS_seq (simS_if le_none (simB_or (simB_test (sim_op os_neI (sim_callB cb_lenL (simA_cons (sim_var (i:=1) (r:=(kL kS)) (x:=parts_3) rfl) simA_nil)) sim_i)) (simB_or (simB_not (simB_B (sim_call (cal_lift (w:=w__law_are_cells K cl)) (simA_cons (sim_op os_ixL (sim_var (i:=1) (r:=(kL kS)) (x:=parts_3) rfl) sim_i) simA_nil)))) (simB_not (simB_B (sim_call (cal_lift (w:=w__law_are_cells K cl)) (simA_cons (sim_op os_ixL (sim_var (i:=1) (r:=(kL kS)) (x:=parts_3) rfl) sim_i) simA_nil)))))) (simS_ret le_none sim_b) (simS_next (simS_seq (simS_asg (simG_pair simG_name simG_name) le_none (sim_pair (simA_cons (sim_call (cal_lift (w:=w__law_own_spots K cl)) (simA_cons (sim_op os_ixL (sim_var (i:=1) (r:=(kL kS)) (x:=parts_3) rfl) sim_i) simA_nil)) (simA_cons (sim_call (cal_lift (w:=w__law_own_spots K cl)) (simA_cons (sim_op os_ixL (sim_var (i:=1) (r:=(kL kS)) (x:=parts_3) rfl) sim_i) simA_nil)) simA_nil))) (fun (y51:((List Int)×(List Int)))=>(show SimS _ _ ([some (kS x.1),some ((kL kS) parts_3),some ((kL kI) y51.1),some ((kL kI) y51.2),none]:Gm K) _ _ _ _ from (simS_ret le_none (sim_andV (sim_op os_niI sim_i (sim_var (i:=3) (r:=(kL kI)) (x:=y51.2) rfl)) (sim_op os_eqI (sim_op os_I (sim_callB cb_lenL (simA_cons (sim_lc (simI_list (r:=kI) (sim_var (i:=2) (r:=(kL kI)) (x:=y51.1) rfl)) simG_name (fun _ _ hy=>hy) (fun (x55:Int)=>(simB_test (sim_op os_inI (sim_var (i:=4) (r:=kI) (x:=x55) rfl) (sim_var (i:=3) (r:=(kL kI)) (x:=y51.2) rfl)))) (fun (x55:Int)=>(sim_var (i:=4) (r:=kI) (x:=x55) rfl))) simA_nil)) sim_i) sim_i)))))))))))))),fun _ _ _ _ h=>h⟩)
def w__law_due (K:PySem.W.Frag) (cl:Cl):Int×PyData×Unit→W K (List PyData):=fun x=>outW (bnd (bnd (bnd (bnd (ret x.2.1) fun p4=>(bnd (bnd (ret "str") fun p2=>(bnd (ret ()) fun p3=>(ret (p2,p3)))) fun p5=>(ret (p4,p5)))) fun y1=>(wAss (IsTy y1.2.1) (ret (isD y1.1 y1.2.1)))) fun v6=>(ret (!v6))) fun v53=>(wIf v53 (bnd (bnd (bnd (bnd (ret ("no" :Str)) fun v8=>(ret (PyData.str v8))) fun p15=>(bnd (bnd (bnd (ret (0:Int)) fun v9=>(ret (PyData.int v9))) fun p13=>(bnd (bnd (bnd (ret false) fun v10=>(ret (PyData.bool v10))) fun p11=>(bnd (ret ()) fun p12=>(ret (p11,p12)))) fun p14=>(ret (p13,p14)))) fun p16=>(ret (p15,p16)))) fun y7=>(ret ([y7.1,y7.2.1,y7.2.2.1]:List PyData))) fun v17=>(ret (Flow.rt v17))) (bnd (bnd (bnd (ret (0:Nat)) fun p23=>(bnd (bnd (ret (1:Nat)) fun p21=>(bnd (bnd (ret (2:Nat)) fun p19=>(bnd (ret ()) fun p20=>(ret (p19,p20)))) fun p22=>(ret (p21,p22)))) fun p24=>(ret (p23,p24)))) fun y18=>(ret ([y18.1,y18.2.1,y18.2.2.1]:List Nat))) fun (are_25:List Nat)=>(bnd (bnd (ret are_25) fun v27=>(bnd (ret x.1) fun v28=>(wIx v27 v28))) fun (is_so_29:Nat)=>(bnd (bnd (bnd (ret is_so_29) fun i31=>(bnd (bnd (bnd (ret x.2.1) (wAs PyData.str)) fun p33=>(bnd (ret ()) fun p34=>(ret (p33,p34)))) fun p32=>(wSel [w__law_are_cells K cl,w__law_is_flip K cl,w__law_is_board K cl] i31 p32))) fun v51=>(wIf v51 (bnd (bnd (bnd (ret ("read" :Str)) fun v36=>(ret (PyData.str v36))) fun p39=>(bnd (bnd (ret x.2.1) fun p37=>(bnd (ret ()) fun p38=>(ret (p37,p38)))) fun p40=>(ret (p39,p40)))) fun y35=>(ret ([y35.1,y35.2.1]:List PyData))) (bnd (bnd (bnd (ret ("no" :Str)) fun v42=>(ret (PyData.str v42))) fun p49=>(bnd (bnd (bnd (ret (0:Int)) fun v43=>(ret (PyData.int v43))) fun p47=>(bnd (bnd (bnd (ret false) fun v44=>(ret (PyData.bool v44))) fun p45=>(bnd (ret ()) fun p46=>(ret (p45,p46)))) fun p48=>(ret (p47,p48)))) fun p50=>(ret (p49,p50)))) fun y41=>(ret ([y41.1,y41.2.1,y41.2.2.1]:List PyData))))) fun v52=>(ret (Flow.rt v52))))))) none
abbrev sp__law_due (K:PySem.W.Frag) (cl:Cl):Sp:=lift K (fun x:Int×PyData×Unit=> [kI x.1,kPy x.2.1]) (kL kPy) (w__law_due K cl)
theorem ok__law_due (T:Tx K mg cl):FnG P w K mg base 3 T.a__law_due T.fd__law_due ["_law_door","_law_text"] (sp__law_due K cl):=
  okL T.F__law_due sc__law_due (fun _=>rfl) none (fun y e=>nomatch e) (fun cdv A outer s H E hg hr=>by
    refine⟨_,pss_cons (ps_if (pt_not (pt_val (pe_callB (kx_isi (K:=K) rfl) (by rfl) T.z_isinstance bt_isinstance (pa_cons (pv 1) (pa_cons (pe_bltn (v:= .ty "str") (by rfl) T.z_str bt_str rfl) pa_nil))))) (pss_one (ps_ret (pe_lst (pa_cons (pe_str) (pa_cons (pe_int) (pa_cons (pe_bl) pa_nil)))))) pss_nil)
    (pss_cons (ps_set (i:=2) sc__law_due.nd rfl (by first | exact Or.inl rfl | exact Or.inr rfl) (pe_lst (pa_cons (pe_glob (v:= .ref T.a__law_are_cells) rfl T.g__law_are_cells rfl) (pa_cons (pe_glob (v:= .ref T.a__law_is_flip) rfl T.g__law_is_flip rfl) (pa_cons (pe_glob (v:= .ref T.a__law_is_board) rfl T.g__law_is_board rfl) pa_nil)))))
    (pss_cons (ps_set (i:=3) sc__law_due.nd rfl (by first | exact Or.inl rfl | exact Or.inr rfl) (pe_ix (kx_ix (K:=K) rfl) (pv 2) (pv 0) (fun _ _=>rfl)))
    (pss_one (ps_ret (pe_ifExp (pt_val (pe_callV (as:= [T.a__law_are_cells,T.a__law_is_flip,T.a__law_is_board]) (FnV.cons T.F__law_are_cells.kp ((ok__law_are_cells T).atS hg (hr.mono (by decide)) (b__law_are_cells T) .nil (takes_of rfl rfl rfl rfl)) (FnV.cons T.F__law_is_flip.kp ((ok__law_is_flip T).atS hg (hr.mono (by decide)) (b__law_is_flip T) .nil (takes_of rfl rfl rfl rfl)) (FnV.cons T.F__law_is_board.kp ((ok__law_is_board T).atS hg (hr.mono (by decide)) (b__law_is_board T) .nil (takes_of rfl rfl rfl rfl)) FnV.nil))) (pv 3) (pa_cons (pv 1) pa_nil))) (pe_lst (pa_cons (pe_str) (pa_cons (pv 1) pa_nil))) (pe_lst (pa_cons (pe_str) (pa_cons (pe_int) (pa_cons (pe_bl) pa_nil))))))))),?_⟩
    exact⟨_,fun x=>(simS_seq (simS_if le_none (simB_not (simB_B (sim_callB cb_isi (simA_cons (sim_var (i:=1) (r:=kPy) (x:=x.2.1) rfl) (simA_cons (sim_ty (T:= "str")) simA_nil))))) (simS_ret le_none (sim_lstK (r:=kPy) (fun y7:PyData×PyData×PyData×Unit=>([y7.1,y7.2.1,y7.2.2.1]:List PyData)) (fun _=>rfl) (fun _=>(by decide:3≤50000)) (simA_cons (sim_co sim_s co_S) (simA_cons (sim_co sim_i co_I) (simA_cons (sim_co sim_b co_B) simA_nil))))) (simS_next (simS_seq (simS_asg simG_name le_none (sim_lstK (r:=(kFn [T.a__law_are_cells,T.a__law_is_flip,T.a__law_is_board])) (fun y18:Nat×Nat×Nat×Unit=>([y18.1,y18.2.1,y18.2.2.1]:List Nat)) (fun _=>rfl) (fun _=>(by decide:3≤50000)) (simA_cons (sim_fnR (i:=0) (as:= [T.a__law_are_cells,T.a__law_is_flip,T.a__law_is_board]) rfl) (simA_cons (sim_fnR (i:=1) (as:= [T.a__law_are_cells,T.a__law_is_flip,T.a__law_is_board]) rfl) (simA_cons (sim_fnR (i:=2) (as:= [T.a__law_are_cells,T.a__law_is_flip,T.a__law_is_board]) rfl) simA_nil)))) (fun (are_25:List Nat)=>(show SimS _ _ ([some (kI x.1),some (kPy x.2.1),some ((kL (kFn [T.a__law_are_cells,T.a__law_is_flip,T.a__law_is_board])) are_25),none]:Gm K) _ _ _ _ from (simS_seq (simS_asg simG_name le_none (sim_op os_ixL (sim_var (i:=2) (r:=(kL (kFn [T.a__law_are_cells,T.a__law_is_flip,T.a__law_is_board]))) (x:=are_25) rfl) (sim_var (i:=0) (r:=kI) (x:=x.1) rfl)) (fun (is_so_29:Nat)=>(show SimS _ _ ([some (kI x.1),some (kPy x.2.1),some ((kL (kFn [T.a__law_are_cells,T.a__law_is_flip,T.a__law_is_board])) are_25),some ((kFn [T.a__law_are_cells,T.a__law_is_flip,T.a__law_is_board]) is_so_29)]:Gm K) _ _ _ _ from (simS_ret le_none (sim_if (simB_B (sim_callV (CalV.cons (cal_lift (w:=w__law_are_cells K cl)) (CalV.cons (cal_lift (w:=w__law_is_flip K cl)) (CalV.cons (cal_lift (w:=w__law_is_board K cl)) CalV.nil))) (sim_var (i:=3) (r:=(kFn [T.a__law_are_cells,T.a__law_is_flip,T.a__law_is_board])) (x:=is_so_29) rfl) (simA_cons (sim_as oc_S (sim_var (i:=1) (r:=kPy) (x:=x.2.1) rfl)) simA_nil))) (sim_lstK (r:=kPy) (fun y35:PyData×PyData×Unit=>([y35.1,y35.2.1]:List PyData)) (fun _=>rfl) (fun _=>(by decide:2≤50000)) (simA_cons (sim_co sim_s co_S) (simA_cons (sim_var (i:=1) (r:=kPy) (x:=x.2.1) rfl) simA_nil))) (sim_lstK (r:=kPy) (fun y41:PyData×PyData×PyData×Unit=>([y41.1,y41.2.1,y41.2.2.1]:List PyData)) (fun _=>rfl) (fun _=>(by decide:3≤50000)) (simA_cons (sim_co sim_s co_S) (simA_cons (sim_co sim_i co_I) (simA_cons (sim_co sim_b co_B) simA_nil))))))))))))))))),fun _ _ _ _ h=>h⟩)
def w_law (K:PySem.W.Frag) (cl:Cl):(List Int)×Unit→W K Bool:=fun x=>outW (bnd (bnd (bnd (bnd (bnd (ret (1:Int)) fun p15=>(bnd (bnd (bnd (bnd (bnd (bnd (ret x.1) fun p5=>(bnd (ret ()) fun p6=>(ret (p5,p6)))) fun y4=>(ret (y4.1.length:Int))) fun p10=>(bnd (bnd (ret (4:Int)) fun p8=>(bnd (ret ()) fun p9=>(ret (p8,p9)))) fun p11=>(ret (p10,p11)))) fun y7=>(ret (min y7.1 y7.2.1))) fun p13=>(bnd (ret ()) fun p14=>(ret (p13,p14)))) fun p16=>(ret (p15,p16)))) fun y12=>(ret (max y12.1 y12.2.1))) fun p17=>(bnd (ret ()) fun p18=>(ret (p17,p18)))) fun y3=>(wAss (-(2 ^ 62)≤y3.1∧y3.1<2 ^ 62) (ret (rng 0 y3.1,nI)))) fun y20=>(bnd (forW y20.2 (fun (x19:Int) (s1:Unit)=>(bnd (bnd (bnd (ret x.1) fun p26=>(bnd (bnd (ret x19) fun p24=>(bnd (ret ()) fun p25=>(ret (p24,p25)))) fun p27=>(ret (p26,p27)))) fun p21=>(w__law_pot K cl p21)) fun (pot_here_28:Addr)=>(bnd (bnd (bnd (bnd (ret pot_here_28) fun p34=>(bnd (bnd (ret (40:Int)) fun p32=>(bnd (ret ()) fun p33=>(ret (p32,p33)))) fun p35=>(ret (p34,p35)))) fun p29=>(w__law_width K cl p29)) fun p222=>(bnd (bnd (ret ("" :Str)) fun p220=>(bnd (ret ()) fun p221=>(ret (p220,p221)))) fun p223=>(ret (p222,p223)))) fun (y36:Int×Str×Unit)=>(bnd (bnd (bnd (ret (12:Int)) fun p120=>(bnd (ret ()) fun p121=>(ret (p120,p121)))) fun y119=>(wAss (-(2 ^ 62)≤y119.1∧y119.1<2 ^ 62) (ret (rng 0 y119.1,nI)))) fun y123=>(bnd (forW y123.2 (fun (x122:Int) (s37:Str×Unit)=>(bnd (bnd (bnd (bnd (ret pot_here_28) fun p129=>(bnd (bnd (ret (3:Int)) fun p127=>(bnd (ret ()) fun p128=>(ret (p127,p128)))) fun p130=>(ret (p129,p130)))) fun p124=>(w__law_draw K cl p124)) fun p218=>(bnd (bnd (bnd (bnd (ret pot_here_28) fun p136=>(bnd (bnd (ret y36.1) fun p134=>(bnd (ret ()) fun p135=>(ret (p134,p135)))) fun p137=>(ret (p136,p137)))) fun p131=>(w__law_pair K cl p131)) fun p216=>(bnd (ret ()) fun p217=>(ret (p216,p217)))) fun p219=>(ret (p218,p219)))) fun (y138:Int×((List Int)×(List Int))×Unit)=>(bnd (bnd (bnd (bnd (bnd (bnd (bnd (ret y138.2.1) fun v140=>(ret v140.1)) fun p144=>(bnd (ret ()) fun p145=>(ret (p144,p145)))) fun p141=>(w__law_text_of K cl p141)) fun p167=>(bnd (bnd (bnd (bnd (ret y138.2.1) fun p149=>(bnd (ret ()) fun p150=>(ret (p149,p150)))) fun p146=>(w__law_pair_text K cl p146)) fun p165=>(bnd (bnd (bnd (bnd (bnd (bnd (ret pot_here_28) fun p156=>(bnd (bnd (ret y36.1) fun p154=>(bnd (ret ()) fun p155=>(ret (p154,p155)))) fun p157=>(ret (p156,p157)))) fun p151=>(w__law_bits K cl p151)) fun p161=>(bnd (ret ()) fun p162=>(ret (p161,p162)))) fun p158=>(w__law_bits_text K cl p158)) fun p163=>(bnd (ret ()) fun p164=>(ret (p163,p164)))) fun p166=>(ret (p165,p166)))) fun p168=>(ret (p167,p168)))) fun y139=>(ret ([y139.1,y139.2.1,y139.2.2.1]:List Str))) fun v170=>(bnd (ret y138.1) fun v171=>(wIx v170 v171))) fun (text_172:Str)=>(bnd (bnd (bnd (bnd (bnd (ret pot_here_28) fun p202=>(bnd (bnd (ret (4:Int)) fun p200=>(bnd (ret ()) fun p201=>(ret (p200,p201)))) fun p203=>(ret (p202,p203)))) fun p197=>(w__law_draw K cl p197)) fun p204=>(bnd (ret ()) fun p205=>(ret (p204,p205)))) fun y196=>(wAss (-(2 ^ 62)≤y196.1∧y196.1<2 ^ 62) (ret (rng 0 y196.1,nI)))) fun y207=>(bnd (forW y207.2 (fun (x206:Int) (s173:Str×Unit)=>(bnd (bnd (bnd (ret pot_here_28) fun p213=>(bnd (bnd (ret s173.1) fun p211=>(bnd (ret ()) fun p212=>(ret (p211,p212)))) fun p214=>(ret (p213,p214)))) fun p208=>(w__law_bent K cl p208)) fun (text_215:Str)=>(ret (Flow.nx (text_215,()))))) y207.1 (text_172,())) (aft fun (s173:Str×Unit)=>(bnd (bnd (bnd (bnd (bnd (ret y138.1) fun p180=>(bnd (bnd (bnd (ret s173.1) fun v174=>(ret (PyData.str v174))) fun p178=>(bnd (ret ()) fun p179=>(ret (p178,p179)))) fun p181=>(ret (p180,p181)))) fun p175=>(w__law_told K cl p175)) fun v190=>(ret ((fun xs=>PyData.list (xs.map id)) v190))) fun v192=>(bnd (bnd (bnd (bnd (ret y138.1) fun p188=>(bnd (bnd (bnd (ret s173.1) fun v182=>(ret (PyData.str v182))) fun p186=>(bnd (ret ()) fun p187=>(ret (p186,p187)))) fun p189=>(ret (p188,p189)))) fun p183=>(w__law_due K cl p183)) fun v191=>(ret ((fun xs=>PyData.list (xs.map id)) v191))) fun v193=>(wAss (SeqAt.shaped v192=true∧SeqAt.shaped v193=true) (ret (!PyData.eqv v192 v193))))) fun v195=>(wIf v195 (bnd (ret false) fun v194=>(ret (Flow.rt v194))) (ret (Flow.nx (s173.1,()))))))))))) y123.1 (y36.2.1,())) (aft fun (s37:Str×Unit)=>(bnd (bnd (bnd (bnd (bnd (ret ()) fun v49=>(ret ((fun _=>PyData.none) v49))) fun p73=>(bnd (bnd (bnd (ret (0:Int)) fun v50=>(ret (PyData.int v50))) fun p71=>(bnd (bnd (bnd (ret (1:Int)) fun v51=>(ret (PyData.int v51))) fun p69=>(bnd (bnd (bnd (ret true) fun v52=>(ret (PyData.bool v52))) fun p67=>(bnd (bnd (bnd (bnd (ret ()) fun y39=>(ret ([]:List PyData))) fun v53=>(ret ((fun xs=>PyData.list (xs.map id)) v53))) fun p65=>(bnd (bnd (bnd (bnd (bnd (ret ("1" :Str)) fun p41=>(bnd (ret ()) fun p42=>(ret (p41,p42)))) fun y40=>(ret ([y40.1]:List Str))) fun v54=>(ret ((fun xs=>PyData.list (xs.map PyData.str)) v54))) fun p63=>(bnd (bnd (bnd (bnd (bnd (ret ("1" :Str)) fun p44=>(bnd (ret ()) fun p45=>(ret (p44,p45)))) fun y43=>(ret ([y43.1]:List Str))) fun v55=>(ret ((fun xs=>PyData.tuple (xs.map PyData.str)) v55))) fun p61=>(bnd (bnd (ret (PyData.dict [])) fun p59=>(bnd (bnd (bnd (bnd (bnd (ret s37.1) fun p47=>(bnd (ret ()) fun p48=>(ret (p47,p48)))) fun y46=>(ret ([y46.1]:List Str))) fun v56=>(ret ((fun xs=>PyData.list (xs.map PyData.str)) v56))) fun p57=>(bnd (ret ()) fun p58=>(ret (p57,p58)))) fun p60=>(ret (p59,p60)))) fun p62=>(ret (p61,p62)))) fun p64=>(ret (p63,p64)))) fun p66=>(ret (p65,p66)))) fun p68=>(ret (p67,p68)))) fun p70=>(ret (p69,p70)))) fun p72=>(ret (p71,p72)))) fun p74=>(ret (p73,p74)))) fun y38=>(ret ([y38.1,y38.2.1,y38.2.2.1,y38.2.2.2.1,y38.2.2.2.2.1,y38.2.2.2.2.2.1,y38.2.2.2.2.2.2.1,y38.2.2.2.2.2.2.2.1,y38.2.2.2.2.2.2.2.2.1]:List PyData))) fun v83=>(bnd (bnd (bnd (ret pot_here_28) fun p81=>(bnd (bnd (ret (9:Int)) fun p79=>(bnd (ret ()) fun p80=>(ret (p79,p80)))) fun p82=>(ret (p81,p82)))) fun p76=>(w__law_draw K cl p76)) fun v84=>(wIx v83 v84))) fun (odd_85:PyData)=>(bnd (bnd (bnd (bnd (bnd (bnd (ret (3:Int)) fun p87=>(bnd (ret ()) fun p88=>(ret (p87,p88)))) fun y86=>(wAss (-(2 ^ 62)≤y86.1∧y86.1<2 ^ 62) (ret (rng 0 y86.1,nI)))) fun y90=>(wAss (y90.1.length≤50000) (wCalm (fmapW y90.2 (fun (x89:Int)=>(ret true)) (fun (x89:Int)=>(bnd (bnd (ret x89) fun p96=>(bnd (bnd (ret odd_85) fun p94=>(bnd (ret ()) fun p95=>(ret (p94,p95)))) fun p97=>(ret (p96,p97)))) fun p91=>(w__law_told K cl p91))) y90.1)))) fun v113=>(ret ((fun xs=>PyData.list (xs.map (fun xs=>PyData.list (xs.map id)))) v113))) fun v115=>(bnd (bnd (bnd (bnd (bnd (bnd (bnd (bnd (ret ("no" :Str)) fun v100=>(ret (PyData.str v100))) fun p107=>(bnd (bnd (bnd (ret (0:Int)) fun v101=>(ret (PyData.int v101))) fun p105=>(bnd (bnd (bnd (ret false) fun v102=>(ret (PyData.bool v102))) fun p103=>(bnd (ret ()) fun p104=>(ret (p103,p104)))) fun p106=>(ret (p105,p106)))) fun p108=>(ret (p107,p108)))) fun y99=>(ret ([y99.1,y99.2.1,y99.2.2.1]:List PyData))) fun p109=>(bnd (ret ()) fun p110=>(ret (p109,p110)))) fun y98=>(ret ([y98.1]:List (List PyData)))) fun v111=>(bnd (ret (3:Int)) fun v112=>(wAss (-(2 ^ 62)≤v112∧v112<2 ^ 62∧v111.length * v112.toNat≤50000) (ret (List.replicate v112.toNat v111).flatten)))) fun v114=>(ret ((fun xs=>PyData.list (xs.map (fun xs=>PyData.list (xs.map id)))) v114))) fun v116=>(wAss (SeqAt.shaped v115=true∧SeqAt.shaped v116=true) (ret (!PyData.eqv v115 v116))))) fun v118=>(wIf v118 (bnd (ret false) fun v117=>(ret (Flow.rt v117))) (ret (Flow.nx ()))))))))))) y20.1 ()) (aft fun (s1:Unit)=>(bnd (ret true) fun v2=>(ret (Flow.rt v2)))))) none
abbrev sp_law (K:PySem.W.Frag) (cl:Cl):Sp:=lift K (fun x:(List Int)×Unit=> [kSc x.1]) kB (w_law K cl)
theorem ok_law (T:Tx K mg cl):FnG P w K mg base 10 T.a_law T.fd_law ["_law_script"] (sp_law K cl):=
  okL T.F_law sc_law (fun _=>rfl) none (fun y e=>nomatch e) (fun cdv A outer s H E hg hr=>by
    refine⟨_,pss_cons (ps_for (passes_of rfl) rfl (pi_range1 rfl T.z_range (pa_cons (pe_callB (call_max2 rfl) (by rfl) T.z_max bt_max (pa_cons (pe_int) (pa_cons (pe_callB (call_min2 rfl) (by rfl) T.z_min bt_min (pa_cons (pe_callB (kx_len (K:=K) rfl) (by rfl) T.z_len bt_len (pa_cons (pv 0) pa_nil)) (pa_cons (pe_int) pa_nil))) pa_nil))) pa_nil)) (pg_name (i:=1) sc_law.nd rfl (by first | exact Or.inl rfl | exact Or.inr rfl))
      (pss_cons (ps_set (i:=2) sc_law.nd rfl (by first | exact Or.inl rfl | exact Or.inr rfl) (pe_fnS ((ok__law_pot T).atS hg (hr.mono (by decide)) (b__law_pot T) .nil (takes_of rfl rfl rfl rfl)) rfl T.g__law_pot T.F__law_pot.kp (pa_cons (pv 0) (pa_cons (pv 1) pa_nil))))
    (pss_cons (ps_par (i:=5) (j:=6) (by rfl) sc_law.nd rfl rfl (by decide) rfl rfl (pa_cons (pe_fnS ((ok__law_width T).atS hg (hr.mono (by decide)) (b__law_width T) .nil (takes_of rfl rfl rfl rfl)) rfl T.g__law_width T.F__law_width.kp (pa_cons (pv 2) (pa_cons (pe_int) pa_nil))) (pa_cons (pe_str) pa_nil)) (by rfl))
    (pss_cons (ps_for (passes_of rfl) rfl (pi_range1 rfl T.z_range (pa_cons (pe_int) pa_nil)) (pg_name (i:=3) sc_law.nd rfl (by first | exact Or.inl rfl | exact Or.inr rfl))
      (pss_cons (ps_par (i:=8) (j:=9) (by rfl) sc_law.nd rfl rfl (by decide) rfl rfl (pa_cons (pe_fnS ((ok__law_draw T).atS hg (hr.mono (by decide)) (b__law_draw T) .nil (takes_of rfl rfl rfl rfl)) rfl T.g__law_draw T.F__law_draw.kp (pa_cons (pv 2) (pa_cons (pe_int) pa_nil))) (pa_cons (pe_fnS ((ok__law_pair T).atS hg (hr.mono (by decide)) (b__law_pair T) .nil (takes_of rfl rfl rfl rfl)) rfl T.g__law_pair T.F__law_pair.kp (pa_cons (pv 2) (pa_cons (pv 5) pa_nil))) pa_nil)) (by rfl))
    (pss_cons (ps_set (i:=6) sc_law.nd rfl (by first | exact Or.inl rfl | exact Or.inr rfl) (pe_ix (kx_ix (K:=K) rfl) (pe_lst (pa_cons (pe_fnS ((ok__law_text_of T).atS hg (hr.mono (by decide)) (b__law_text_of T) .nil (takes_of rfl rfl rfl rfl)) rfl T.g__law_text_of T.F__law_text_of.kp (pa_cons (pe_ix (kx_ix (K:=K) rfl) (pv 9) (pe_int) (fun _ _=>rfl)) pa_nil)) (pa_cons (pe_fnS ((ok__law_pair_text T).atS hg (hr.mono (by decide)) (b__law_pair_text T) .nil (takes_of rfl rfl rfl rfl)) rfl T.g__law_pair_text T.F__law_pair_text.kp (pa_cons (pv 9) pa_nil)) (pa_cons (pe_fnS ((ok__law_bits_text T).atS hg (hr.mono (by decide)) (b__law_bits_text T) .nil (takes_of rfl rfl rfl rfl)) rfl T.g__law_bits_text T.F__law_bits_text.kp (pa_cons (pe_fnS ((ok__law_bits T).atS hg (hr.mono (by decide)) (b__law_bits T) .nil (takes_of rfl rfl rfl rfl)) rfl T.g__law_bits T.F__law_bits.kp (pa_cons (pv 2) (pa_cons (pv 5) pa_nil))) pa_nil)) pa_nil)))) (pv 8) (fun _ _=>rfl)))
    (pss_cons (ps_for (passes_of rfl) rfl (pi_range1 rfl T.z_range (pa_cons (pe_fnS ((ok__law_draw T).atS hg (hr.mono (by decide)) (b__law_draw T) .nil (takes_of rfl rfl rfl rfl)) rfl T.g__law_draw T.F__law_draw.kp (pa_cons (pv 2) (pa_cons (pe_int) pa_nil))) pa_nil)) (pg_name (i:=7) sc_law.nd rfl (by first | exact Or.inl rfl | exact Or.inr rfl))
      (pss_one (ps_set (i:=6) sc_law.nd rfl (by first | exact Or.inl rfl | exact Or.inr rfl) (pe_fnS ((ok__law_bent T).atS hg (hr.mono (by decide)) (b__law_bent T) .nil (takes_of rfl rfl rfl rfl)) rfl T.g__law_bent T.F__law_bent.kp (pa_cons (pv 2) (pa_cons (pv 6) pa_nil))))))
    (pss_one (ps_if (pt_cmpR (kx_ne (K:=K) rfl hr) (pe_fnS ((ok__law_told T).atS hg (hr.mono (by decide)) (b__law_told T) .nil (takes_of rfl rfl rfl rfl)) rfl T.g__law_told T.F__law_told.kp (pa_cons (pv 8) (pa_cons (pv 6) pa_nil))) (pe_fnS ((ok__law_due T).atS hg (hr.mono (by decide)) (b__law_due T) .nil (takes_of rfl rfl rfl rfl)) rfl T.g__law_due T.F__law_due.kp (pa_cons (pv 8) (pa_cons (pv 6) pa_nil))) (nomark _)) (pss_one (ps_ret (pe_bl))) pss_nil))))))
    (pss_cons (ps_set (i:=4) sc_law.nd rfl (by first | exact Or.inl rfl | exact Or.inr rfl) (pe_ix (kx_ix (K:=K) rfl) (pe_lst (pa_cons (pe_non) (pa_cons (pe_int) (pa_cons (pe_int) (pa_cons (pe_bl) (pa_cons (pe_lst (pa_nil)) (pa_cons (pe_lst (pa_cons (pe_str) pa_nil)) (pa_cons (pe_tup (pa_cons (pe_str) pa_nil)) (pa_cons (pe_dnewK) (pa_cons (pe_lst (pa_cons (pv 6) pa_nil)) pa_nil)))))))))) (pe_fnS ((ok__law_draw T).atS hg (hr.mono (by decide)) (b__law_draw T) .nil (takes_of rfl rfl rfl rfl)) rfl T.g__law_draw T.F__law_draw.kp (pa_cons (pv 2) (pa_cons (pe_int) pa_nil))) (fun _ _=>rfl)))
    (pss_one (ps_if (pt_cmpR (kx_ne (K:=K) rfl hr) (pe_lc (own:= [("_law_door",8)]) (g:=gName 8) (tt:=tYes)  rfl sc_law.nd (pi_range1 rfl T.z_range (pa_cons (pe_int) pa_nil)) (blkOk_by (own:= [("_law_door",8)]) (N:=N_law) (sc:=defScope st_law) (by decide +kernel)) (fun _ _ _ _ _=>pg_name (i:=8) sc_law.nd rfl (by first | exact Or.inl rfl | exact Or.inr rfl)) (fun _ _ _ _ _=>pts_nil) (fun _ _ _ _ _=>pe_fnS ((ok__law_told T).atS hg (hr.mono (by decide)) (b__law_told T) .nil takes0) rfl T.g__law_told T.F__law_told.kp (pa_cons (pv 8) (pa_cons (pv 4) pa_nil)))) (pe_op op_rep (pe_lst (pa_cons (pe_lst (pa_cons (pe_str) (pa_cons (pe_int) (pa_cons (pe_bl) pa_nil)))) pa_nil)) (pe_int)) (nomark _)) (pss_one (ps_ret (pe_bl))) pss_nil)))))))
    (pss_one (ps_ret (pe_bl))),?_⟩
    exact⟨_,fun x=>(simS_seq (simS_for (Gl:=(fun s1:Unit=>([some (kSc x.1),none,none,none,none,none,none,none,none,none]:Gm K))) (s0:=()) le_none (simI_r1 (simA_cons (sim_callB cb_max2 (simA_cons sim_i (simA_cons (sim_callB cb_min2 (simA_cons (sim_callB cb_lenSc (simA_cons (sim_var (i:=0) (r:=kSc) (x:=x.1) rfl) simA_nil)) (simA_cons sim_i simA_nil))) simA_nil))) simA_nil)) simG_name (.so (.no (.no (.no (.no (.no (.no (.no (.no (.no .nil)))))))))) (fun (x19:Int) (s1:Unit)=>(show SimS _ _ ([some (kSc x.1),some (kI x19),none,none,none,none,none,none,none,none]:Gm K) _ _ _ _ from (simS_seq (simS_asg simG_name le_none (sim_call (cal_lift (w:=w__law_pot K cl)) (simA_cons (sim_var (i:=0) (r:=kSc) (x:=x.1) rfl) (simA_cons (sim_var (i:=1) (r:=kI) (x:=x19) rfl) simA_nil))) (fun (pot_here_28:Addr)=>(show SimS _ _ ([some (kSc x.1),some (kI x19),some (kRef pot_here_28),none,none,none,none,none,none,none]:Gm K) _ _ _ _ from (simS_seq (simS_par (r:=kI) (s:=kS) le_none (simA_cons (sim_call (cal_lift (w:=w__law_width K cl)) (simA_cons (sim_var (i:=2) (r:=kRef) (x:=pot_here_28) rfl) (simA_cons sim_i simA_nil))) (simA_cons sim_s simA_nil)) (fun (y36:Int×Str×Unit)=>(show SimS _ _ ([some (kSc x.1),some (kI x19),some (kRef pot_here_28),none,none,some (kI y36.1),some (kS y36.2.1),none,none,none]:Gm K) _ _ _ _ from (simS_seq (simS_for (Gl:=(fun s37:Str×Unit=>([some (kSc x.1),some (kI x19),some (kRef pot_here_28),none,none,some (kI y36.1),some (kS s37.1),none,none,none]:Gm K))) (s0:=(y36.2.1,())) le_none (simI_r1 (simA_cons sim_i simA_nil)) simG_name (.so (.so (.so (.no (.no (.so (.so (.no (.no (.no .nil)))))))))) (fun (x122:Int) (s37:Str×Unit)=>(show SimS _ _ ([some (kSc x.1),some (kI x19),some (kRef pot_here_28),some (kI x122),none,some (kI y36.1),some (kS s37.1),none,none,none]:Gm K) _ _ _ _ from (simS_seq (simS_par (r:=kI) (s:=(kP (kL kI) (kL kI))) le_none (simA_cons (sim_call (cal_lift (w:=w__law_draw K cl)) (simA_cons (sim_var (i:=2) (r:=kRef) (x:=pot_here_28) rfl) (simA_cons sim_i simA_nil))) (simA_cons (sim_call (cal_lift (w:=w__law_pair K cl)) (simA_cons (sim_var (i:=2) (r:=kRef) (x:=pot_here_28) rfl) (simA_cons (sim_var (i:=5) (r:=kI) (x:=y36.1) rfl) simA_nil))) simA_nil)) (fun (y138:Int×((List Int)×(List Int))×Unit)=>(show SimS _ _ ([some (kSc x.1),some (kI x19),some (kRef pot_here_28),some (kI x122),none,some (kI y36.1),some (kS s37.1),none,some (kI y138.1),some ((kP (kL kI) (kL kI)) y138.2.1)]:Gm K) _ _ _ _ from (simS_seq (simS_asg simG_name le_none (sim_op os_ixL (sim_lstK (r:=kS) (fun y139:Str×Str×Str×Unit=>([y139.1,y139.2.1,y139.2.2.1]:List Str)) (fun _=>rfl) (fun _=>(by decide:3≤50000)) (simA_cons (sim_call (cal_lift (w:=w__law_text_of K cl)) (simA_cons (sim_p1 (sim_var (i:=9) (r:=(kP (kL kI) (kL kI))) (x:=y138.2.1) rfl)) simA_nil)) (simA_cons (sim_call (cal_lift (w:=w__law_pair_text K cl)) (simA_cons (sim_var (i:=9) (r:=(kP (kL kI) (kL kI))) (x:=y138.2.1) rfl) simA_nil)) (simA_cons (sim_call (cal_lift (w:=w__law_bits_text K cl)) (simA_cons (sim_call (cal_lift (w:=w__law_bits K cl)) (simA_cons (sim_var (i:=2) (r:=kRef) (x:=pot_here_28) rfl) (simA_cons (sim_var (i:=5) (r:=kI) (x:=y36.1) rfl) simA_nil))) simA_nil)) simA_nil)))) (sim_var (i:=8) (r:=kI) (x:=y138.1) rfl)) (fun (text_172:Str)=>(show SimS _ _ ([some (kSc x.1),some (kI x19),some (kRef pot_here_28),some (kI x122),none,some (kI y36.1),some (kS text_172),none,some (kI y138.1),some ((kP (kL kI) (kL kI)) y138.2.1)]:Gm K) _ _ _ _ from (simS_seq (simS_for (Gl:=(fun s173:Str×Unit=>([some (kSc x.1),some (kI x19),some (kRef pot_here_28),some (kI x122),none,some (kI y36.1),some (kS s173.1),none,some (kI y138.1),some ((kP (kL kI) (kL kI)) y138.2.1)]:Gm K))) (s0:=(text_172,())) le_none (simI_r1 (simA_cons (sim_call (cal_lift (w:=w__law_draw K cl)) (simA_cons (sim_var (i:=2) (r:=kRef) (x:=pot_here_28) rfl) (simA_cons sim_i simA_nil))) simA_nil)) simG_name (.so (.so (.so (.so (.no (.so (.so (.no (.so (.so .nil)))))))))) (fun (x206:Int) (s173:Str×Unit)=>(show SimS _ _ ([some (kSc x.1),some (kI x19),some (kRef pot_here_28),some (kI x122),none,some (kI y36.1),some (kS s173.1),some (kI x206),some (kI y138.1),some ((kP (kL kI) (kL kI)) y138.2.1)]:Gm K) _ _ _ _ from (simS_asg simG_name le_none (sim_call (cal_lift (w:=w__law_bent K cl)) (simA_cons (sim_var (i:=2) (r:=kRef) (x:=pot_here_28) rfl) (simA_cons (sim_var (i:=6) (r:=kS) (x:=s173.1) rfl) simA_nil))) (fun (text_215:Str)=>(show SimS _ _ ([some (kSc x.1),some (kI x19),some (kRef pot_here_28),some (kI x122),none,some (kI y36.1),some (kS text_215),some (kI x206),some (kI y138.1),some ((kP (kL kI) (kL kI)) y138.2.1)]:Gm K) _ _ _ _ from (simS_end (s:=((text_215,()):Str×Unit)) (.so (.so (.so (.so (.no (.so (.so (.no (.so (.so .nil)))))))))))))))) (fun (s173:Str×Unit)=>(show SimS _ _ ([some (kSc x.1),some (kI x19),some (kRef pot_here_28),some (kI x122),none,some (kI y36.1),some (kS s173.1),none,some (kI y138.1),some ((kP (kL kI) (kL kI)) y138.2.1)]:Gm K) _ _ _ _ from (simS_if le_none (simB_test (sim_op os_neP (sim_co (sim_call (cal_lift (w:=w__law_told K cl)) (simA_cons (sim_var (i:=8) (r:=kI) (x:=y138.1) rfl) (simA_cons (sim_co (sim_var (i:=6) (r:=kS) (x:=s173.1) rfl) co_S) simA_nil))) (co_LP co_id)) (sim_co (sim_call (cal_lift (w:=w__law_due K cl)) (simA_cons (sim_var (i:=8) (r:=kI) (x:=y138.1) rfl) (simA_cons (sim_co (sim_var (i:=6) (r:=kS) (x:=s173.1) rfl) co_S) simA_nil))) (co_LP co_id)))) (simS_ret le_none sim_b) (simS_next (simS_end (s:=((s173.1,()):Str×Unit)) (.so (.so (.so (.no (.no (.so (.so (.no (.no (.no .nil))))))))))))))))))))))))))) (fun (s37:Str×Unit)=>(show SimS _ _ ([some (kSc x.1),some (kI x19),some (kRef pot_here_28),none,none,some (kI y36.1),some (kS s37.1),none,none,none]:Gm K) _ _ _ _ from (simS_seq (simS_asg simG_name le_none (sim_op os_ixL (sim_lstK (r:=kPy) (fun y38:PyData×PyData×PyData×PyData×PyData×PyData×PyData×PyData×PyData×Unit=>([y38.1,y38.2.1,y38.2.2.1,y38.2.2.2.1,y38.2.2.2.2.1,y38.2.2.2.2.2.1,y38.2.2.2.2.2.2.1,y38.2.2.2.2.2.2.2.1,y38.2.2.2.2.2.2.2.2.1]:List PyData)) (fun _=>rfl) (fun _=>(by decide:9≤50000)) (simA_cons (sim_co sim_n co_N) (simA_cons (sim_co sim_i co_I) (simA_cons (sim_co sim_i co_I) (simA_cons (sim_co sim_b co_B) (simA_cons (sim_co (sim_lstK (r:=kPy) (fun y39:Unit=>([]:List PyData)) (fun _=>rfl) (fun _=>(by decide:0≤50000)) simA_nil) (co_LP co_id)) (simA_cons (sim_co (sim_lstK (r:=kS) (fun y40:Str×Unit=>([y40.1]:List Str)) (fun _=>rfl) (fun _=>(by decide:1≤50000)) (simA_cons sim_s simA_nil)) (co_LP co_S)) (simA_cons (sim_co (sim_tupK (r:=kS) (fun y43:Str×Unit=>([y43.1]:List Str)) (fun _=>rfl) (fun _=>(by decide:1≤50000)) (simA_cons sim_s simA_nil)) (co_TP co_S)) (simA_cons sim_dnewP (simA_cons (sim_co (sim_lstK (r:=kS) (fun y46:Str×Unit=>([y46.1]:List Str)) (fun _=>rfl) (fun _=>(by decide:1≤50000)) (simA_cons (sim_var (i:=6) (r:=kS) (x:=s37.1) rfl) simA_nil)) (co_LP co_S)) simA_nil)))))))))) (sim_call (cal_lift (w:=w__law_draw K cl)) (simA_cons (sim_var (i:=2) (r:=kRef) (x:=pot_here_28) rfl) (simA_cons sim_i simA_nil)))) (fun (odd_85:PyData)=>(show SimS _ _ ([some (kSc x.1),some (kI x19),some (kRef pot_here_28),none,some (kPy odd_85),some (kI y36.1),some (kS s37.1),none,none,none]:Gm K) _ _ _ _ from (simS_if le_none (simB_test (sim_op os_neP (sim_co (sim_lc (simI_r1 (simA_cons sim_i simA_nil)) simG_name (fun _ _ hy=>hy) (fun (x89:Int)=>simB_yes) (fun (x89:Int)=>(sim_call (cal_lift (w:=w__law_told K cl)) (simA_cons (sim_var (i:=8) (r:=kI) (x:=x89) rfl) (simA_cons (sim_var (i:=4) (r:=kPy) (x:=odd_85) rfl) simA_nil))))) (co_LP (co_LP co_id))) (sim_co (sim_new (simN_repL (sim_lstK (r:=(kL kPy)) (fun y98:(List PyData)×Unit=>([y98.1]:List (List PyData))) (fun _=>rfl) (fun _=>(by decide:1≤50000)) (simA_cons (sim_lstK (r:=kPy) (fun y99:PyData×PyData×PyData×Unit=>([y99.1,y99.2.1,y99.2.2.1]:List PyData)) (fun _=>rfl) (fun _=>(by decide:3≤50000)) (simA_cons (sim_co sim_s co_S) (simA_cons (sim_co sim_i co_I) (simA_cons (sim_co sim_b co_B) simA_nil)))) simA_nil)) sim_i)) (co_LP (co_LP co_id))))) (simS_ret le_none sim_b) (simS_next (simS_end (s:=(():Unit)) (.so (.no (.no (.no (.no (.no (.no (.no (.no (.no .nil))))))))))))))))))))))))))))))) (fun (s1:Unit)=>(show SimS _ _ ([some (kSc x.1),none,none,none,none,none,none,none,none,none]:Gm K) _ _ _ _ from (simS_ret le_none sim_b))))),fun _ _ _ _ h=>h⟩)
theorem v_is_integer_in (d:PyData) (lo hi:Int):w_is_integer_in K cl (d,lo,hi,())=ret (intIn d lo hi):=by
  unfold w_is_integer_in
  wtm_at "m"
  rw[ass_t (show IsTy "int" from .inl rfl),ass_t (show IsTy "bool" from .inr (.inl rfl))]
  cases d with
  | int i=>
    simp only[show isD (.int i) "int" =true from rfl,show isD (.int i) "bool" =false from rfl]
    wtm_at "m"
    simp only[intIn]
    by_cases h:lo≤i <;> by_cases h2:i≤hi <;> simp[h,h2]
  | bool b=>simp only[show isD (.bool b) "int" =true from rfl,show isD (.bool b) "bool" =true from rfl];wtm_at "m";rfl
  | _=>rfl
theorem v_is_cell (d:PyData) (s:Int):w_is_cell K cl (d,s,())=ret (intIn d 0 (s - 1)):=by
  unfold w_is_cell
  wtm_at "m"
  simp only[v_is_integer_in]
theorem v_require_size (d:PyData):w_require_size K cl (d,())=wIf (intIn d 1 40) (ret ()) (wRaise (cl.NoSize,[("value",kPy d)])):=by
  unfold w_require_size
  wtm_at "m"
  simp only[v_is_integer_in]
  wtm_at "m"
theorem v_mask_of {ns:List Int} (h: ∀n∈ns,0≤n∧n<64) (hl:ns.length≤50000):w_mask_of K cl (ns,())=ret (maskI ns):=by
  unfold w_mask_of
  wtm_at "m"
  rw[ass_t hl,fmap_all (f':=fun n=>(1:Int) * 2 ^ n.toNat)]
  · wtm_at "m";rfl
  · intro n hn
    exact ass_t (cpow (h n hn).1 (by have:=h n hn;omega) (by decide))
theorem v_cells_in {m:Nat} (h:m<2 ^ 64):w_cells_in K cl ((m:Int),())=ret (bitsL m):=by
  have hf:=bits_fit h
  unfold w_cells_in
  wtm_at "m"
  rw[ass_t (by omega),rng_0,ass_t (by simp[intsTo];omega),fmap_filt (c':=fun i=>m.testBit i.toNat)]
  · wtm_at "m"
    simp only[bitsL,intsTo,List.filter_map]
    rw[filter_bits bits_over hf]
    rfl
  · intro i hi
    obtain⟨h0,_⟩:=mem_intsTo.mp hi
    show wAss _ _=_
    rw[ass_t h0,bit_at]
theorem v_is_odd {m:Nat} {S:Store K}:Spec (w_is_odd K cl ((m:Int),())) S (· =oddN m):=by
  intro Q E q
  unfold w_is_odd
  wtm_at "m"
  refine while_eq (fun s=> ∃r:Nat,s.1=(r:Int)∧(s.2.1 !=oddN r)=oddN m) (fun s=>s.1.toNat) (g:=fun s=>(Builtin.bitAnd s.1 (s.1 - 1),!s.2.1,())) ?_ ⟨m,rfl,by simp⟩ ?_
  · rintro ⟨s,f,⟨⟩⟩ ⟨r,hr,hf⟩ hb
    simp only at hr hf hb
    subst hr
    have r0:0<r:=by simpa using hb
    have hp:=pop_less r r0
    have e:((r:Int) - 1)=((r - 1:Nat):Int):=by omega
    refine⟨rfl,⟨r &&& (r - 1),by simp only[e,and_nn],?_⟩,?_⟩
    · rw[← hf]
      have:oddN (r &&& (r - 1))= !oddN r:=by
        unfold oddN
        rw[← hp]
        by_cases h:pop (r &&& (r - 1)) % 2=1
        · simp[h];omega
        · simp[h];omega
      rw[this]
      cases f <;> cases oddN r <;> rfl
    · simp only[e,and_nn,Int.toNat_natCast]
      have:=Nat.and_le_right (n:=r) (m:=r - 1)
      omega
  · rintro ⟨s,f,⟨⟩⟩ ⟨r,hr,hf⟩ hb
    simp only at hr hf hb
    subst hr
    have r0:r=0:=by
      have: ¬ 0<r:=by simpa using hb
      omega
    subst r0
    refine q _ ?_
    rw[← hf]
    show f=(f !=oddN 0)
    rw[show oddN 0=false by decide +kernel]
    cases f <;> rfl
theorem v_cell_tuple {d:PyData} {s:Int} (hl: ∀ds,seqD d=some ds→ds.length≤50000):w_cell_tuple K cl (d,s,())=(match cellsD d s with | some ts=>ret ts | none=>wRaise (cl.NoCells,[("cells",kPy d)])):=by
  unfold w_cell_tuple
  wtm_at "m"
  cases hs:(isD d "list" || isD d "tuple") with
  | false=>rw[cellsD_no hs];wtm_at "m"
  | true=>
    obtain⟨ds,hd⟩:=seq_yes hs
    wtm_at "m"
    rw[cellsD_seq hd,seq_of hd]
    wtm_at "m"
    rw[ass_t (hl _ hd),fmap_all (f':=fun x=>intIn x 0 (s - 1)) (fun x _=>v_is_cell x s)]
    wtm_at "m"
    simp only[List.all_map,Function.comp_def,id]
    cases ha:ds.all (fun x=>intIn x 0 (s - 1)) with
    | false=>
      wtm_at "m"
      simp only[areCells,ha,Bool.false_and]
      rfl
    | true=>
      wtm_at "m"
      have e:=intsOf ha
      rw[sortPy_of (ns:=intsD ds) (by rw[hd];exact congrArg some e)]
      wtm_at "m"
      have hl2:(isort (intsD ds)).length≤50000:=by
        have h1:=(isort_perm (intsD ds)).length_eq
        have h2:ds.length=(intsD ds).length:=by conv=>lhs;rw[e];rw[List.length_map]
        have:=hl _ hd
        omega
      have es:sli (isort (intsD ds)) (some 1) none=(isort (intsD ds)).drop 1:=sli_one _
      rw[es,ass_t (by rw[List.length_zip];omega),fmap_ret]
      wtm_at "m"
      simp only[List.all_map,Function.comp_def,id]
      have hn:=asc_nodup (isort_le (intsD ds))
      simp only[areCells,ha,Bool.true_and]
      by_cases nd:(intsD ds).Nodup
      · rw[hn.mpr ((isort_perm _).nodup_iff.mpr nd)]
        simp only[nd,decide_true]
        wtm_at "m"
      · rw[Bool.eq_false_iff.mpr fun h=>nd ((isort_perm _).nodup_iff.mp (hn.mp h))]
        simp only[nd,decide_false]
        wtm_at "m"
        rfl
theorem v_cell_mask {d:PyData} {s:Int} (hs:s≤64) (hl: ∀ds,seqD d=some ds→ds.length≤50000):w_cell_mask K cl (d,s,())=(match cellsD d s with | some ts=>ret (maskI ts) | none=>wRaise (cl.NoCells,[("cells",kPy d)])):=by
  unfold w_cell_mask
  wtm_at "m"
  rw[v_cell_tuple hl]
  cases e:cellsD d s with
  | none=>rfl
  | some ts=>
    wtm_at "m"
    rw[v_mask_of (fun n hn=>by have:=(cells_range e).1 n hn;omega) (cells_len e hl)]
theorem v_mask_text {m:Nat} (h:m<2 ^ 64):w_mask_text K cl ((m:Int),())=ret (textL (bitsL m)):=by
  unfold w_mask_text
  wtm_at "m"
  by_cases m0:m=0
  · subst m0
    rw[decide_eq_true (by rfl),if_t]
    rfl
  · have ne:bitsL m≠ []:=fun e=>m0 (by
      have:=mask_bits h
      rw[e] at this
      exact this.symm)
    rw[decide_eq_false (by omega),if_f,v_cells_in h]
    have l:=bits_len m
    have sm:=ints_sum (ns:=bitsL m) bits_small
    wtm_at "m"
    rw[ass_t (by omega),fmap_all (f':=fun x:Int=>(toString x:Str)) (fun x hx=>by
      rw [ass_t (by have h1 := bits_small x hx; rcases Nat.eq_zero_or_pos x.natAbs with h0 | h0; · rw [h0]; decide +kernel
                    exact Nat.lt_of_lt_of_le ((Nat.log2_lt (by omega)).mpr h1) (by decide))])]
    wtm_at "m"
    rw [ass_t (by have e : ("," : Str).length = 1 := by decide +kernel
                  rw[e,List.length_map];omega)]
    unfold textL
    rw[if_neg ne]
theorem v_Board {d u:PyData} {n:Nat} {ts:List Int} {S:Store K} (hd:d= .int n) (h1:1≤n) (h2:n≤40) (hu:cellsD u n=some ts) (hl: ∀ds,seqD u=some ds→ds.length≤50000):
    Spec (bnd (wMk cl.Board (w_Board____init__ K cl) (d,u,())) (wFrz cl.Board (fs_Board K cl))) S (· =(n,(maskI ts).toNat ||| 1)):=by
  subst hd
  intro Q E q
  refine mkfrz fun a ha=> ?_
  unfold w_Board____init__
  wtm_at "m"
  rw[v_require_size,show intIn (.int n) 1 40=true by simp[intIn];omega]
  wtm_at "m"
  refine setF_ap set_same (by show (0:Nat)<1000;omega) ?_
  rw[v_cell_mask (by omega) hl,hu]
  wtm_at "m"
  refine setF_ap set_same (by show (1:Nat)<1000;omega) ?_
  rw[set_set,set_set]
  refine⟨(n,(maskI ts).toNat ||| 1),?_,?_⟩
  · rw[set_same,← Int.toNat_of_nonneg (maskI_nn ts)]
    exact congrArg (fun z=>some (Cell.ins cl.Board [(("own_size" :Str),kI (n:Int)),(("up_mask" :Str),kI z)])) (or_nn (maskI ts).toNat 1)
  · rw[set_del,del_none ha];exact q _ rfl
theorem v_Board____str__ {n m:Nat} (h:n≤40):w_Board____str__ K cl ((n,m),())=ret (boardText n m):=by
  unfold w_Board____str__
  wtm_at "m"
  rw[ass_t (by omega),rng_0,ass_t (by rw[intsTo_len];omega),fmap_all (f':=fun x:Int=>bitS m x.toNat) (fun x hx=>by
    have h0:=(mem_intsTo.mp hx).1
    rw[ass_t h0,shr_and,ass_t (by rcases bitI_01 m x.toNat with h | h <;> (rw[h];decide +kernel))]
    rfl)]
  wtm_at "m"
  have e:(intsTo n).map (fun x:Int=>bitS m x.toNat)=(List.range n).map fun i=>bitS m i:=by
    unfold intsTo
    rw[List.map_map]
    rfl
  rw[e,ass_t (by rw[bitS_sum,show (Str.ofString "").length=0 from rfl];omega)]
  rfl
theorem v_Flip {d u:PyData} {ts gs:List Int} {S:Store K} (hd:cellsD d 40=some ts) (hu:cellsD u 40=some gs) (ok:FlipOk (maskI ts).toNat (maskI gs).toNat)
    (hl: ∀ds,seqD d=some ds→ds.length≤50000) (hl': ∀ds,seqD u=some ds→ds.length≤50000):
    Spec (bnd (wMk cl.Flip (w_Flip____init__ K cl) (d,u,())) (wFrz cl.Flip (fs_Flip K cl))) S (· =((maskI ts).toNat,(maskI gs).toNat)):=by
  intro Q E q
  refine mkfrz fun a ha=> ?_
  unfold w_Flip____init__
  wtm_at "m"
  rw[v_cell_mask (by omega) hl,hd]
  wtm_at "m"
  refine setF_ap set_same (by show (0:Nat)<1000;omega) ?_
  rw[v_cell_mask (by omega) hl',hu]
  wtm_at "m"
  refine setF_ap set_same (by show (1:Nat)<1000;omega) ?_
  rw[set_set,set_set]
  refine getF_ap (x:=maskI gs) set_same rfl ?_
  have eg:Builtin.bitAnd (maskI gs) 1=0:=by
    rw[← Int.toNat_of_nonneg (maskI_nn gs),show (1:Int)=((1:Nat):Int) from rfl,and_nn]
    have h:=ok.fix
    rw[Nat.testBit_zero] at h
    have h2:(maskI gs).toNat &&& 1=0:=by rw[Nat.and_one_is_mod];have:=of_decide_eq_false h;omega
    rw[h2];rfl
  rw[eg,show decide ((0:Int)=1)=false by decide]
  wtm_at "m"
  refine getF_ap (x:=maskI ts) set_same rfl ?_
  refine getF_ap (x:=maskI gs) set_same rfl ?_
  rw[← Int.toNat_of_nonneg (maskI_nn gs),← Int.toNat_of_nonneg (maskI_nn ts),and_nn]
  refine v_is_odd.ap fun y e=> ?_
  rw[e,ok.ev]
  wtm_at "m"
  refine⟨((maskI ts).toNat,(maskI gs).toNat),set_same,?_⟩
  rw[set_del,del_none ha];exact q _ rfl
theorem v_Flip____str__ {t g:Nat} (ht:t<2 ^ 64) (hg:g<2 ^ 64):w_Flip____str__ K cl ((t,g),())=ret (pairText (bitsL t) (bitsL g)):=by
  have l1:=textL_len (ns:=bitsL t) bits_small (bits_len t)
  have l2:=textL_len (ns:=bitsL g) bits_small (bits_len g)
  have e1:(">" :Str).length=1:=by decide +kernel
  unfold w_Flip____str__
  wtm_at "m"
  simp only[empty_app,len_app]
  rw[v_mask_text ht]
  wtm_at "m"
  rw[ass_t (by omega),ass_t (by omega),ass_t (by omega),v_mask_text hg]
  wtm_at "m"
  rw[ass_t (by omega),ass_t (by omega)]
  rfl
theorem v_law_draw {p:Addr} {n:Int} {S:Store K} (hp:S p=some .pot) (h0:0<n) (h1:n<2 ^ 200):Spec (w__law_draw K cl (p,n,())) S (fun d=>0≤d∧d<n):=
  fun Q E q=>⟨hp,h0,h1,fun d a b=>q d ⟨a,b⟩⟩
theorem v_law_width {p:Addr} {n:Int} {S:Store K} (hp:S p=some .pot) (h0:1≤n) (h1:n≤1000):Spec (w__law_width K cl (p,n,())) S (fun d=>1≤d∧d≤n):=by
  unfold w__law_width
  wtm_at "m"
  refine (v_law_draw hp (by omega) (by omega)).bnd fun d hd=> ?_
  refine (v_law_draw hp (by omega) (by omega)).bnd fun i hi=> ?_
  refine (Spec.ix hi.1 (by show i<3;omega)).imp fun y hy=> ?_
  simp only[List.mem_cons,List.not_mem_nil,or_false] at hy
  omega
theorem v_law_spots {p:Addr} {lo w:Int} {S:Store K} (hp:S p=some .pot) (h0:0≤lo) (h1:w≤1000):
    Spec (w__law_spots K cl (p,lo,w,())) S (fun ns=>(∀n∈ns,lo≤n∧n<w)∧ns.Pairwise (· < ·)):=by
  unfold w__law_spots
  wtm_at "m"
  refine (v_law_draw hp (by omega) (by omega)).bnd fun way hw=> ?_
  refine Spec.ite (fun _=>Spec.ret ⟨by simp,.nil⟩) (fun _=> ?_)
  refine Spec.ite (fun _=>Spec.ret ⟨by simp,.nil⟩) (fun h0=> ?_)
  have hl:lo<w:=by have:=of_decide_eq_false h0;omega
  refine Spec.ite (fun _=> ?_) (fun _=> ?_)
  · refine Spec.bnd (v_law_draw (n:=w - lo) hp (by omega) (by omega)) fun i hi=> ?_
    refine Spec.ret ⟨fun n hn=> ?_,List.pairwise_singleton _ _⟩
    rw[List.mem_singleton] at hn
    omega
  · have hr: ∀n∈rng lo w,lo≤n∧n<w:=fun n hn=>rg_mem hn
    have ha:(rng lo w).Pairwise (· < ·):=rg_lt
    refine Spec.ite (fun _=> ?_) (fun _=> ?_)
    · exact Spec.ass (RgOk.of_le (by omega) (by omega) (by omega) (by omega)) (Spec.ret ⟨hr,ha⟩)
    refine Spec.ass (by omega) (Spec.ass (by rw[rng_len];omega) ?_)
    refine (Spec.filt fun x _=> ?_).calm.imp fun ys hy=>⟨fun n hn=>hr n (hy.subset hn),ha.sublist hy⟩
    refine (v_law_draw hp (by omega) (by omega)).bnd fun _ _=>Spec.ret trivial
theorem v_law_pair {p:Addr} {n:Nat} {S:Store K} (hp:S p=some .pot) (h1:n≤1000):
    Spec (w__law_pair K cl (p,(n:Int),())) S (fun x=>PairOk n x.1 x.2):=by
  unfold w__law_pair
  wtm_at "m"
  refine (v_law_spots hp (by omega) (by omega)).bnd fun ts ht=> ?_
  refine (v_law_spots hp (by omega) (by omega)).bnd fun gs hg=> ?_
  have lt:=asc_len ht.1 ht.2 (by omega)
  rw[ass_t (by omega),fmap_filt (c':=fun t=>decide (t∈gs)) fun _ _=>rfl]
  wtm_at "m"
  rw[ass_t (by omega)]
  wtm_at "m"
  have lf:=List.length_filter_le (fun t=>decide (t∈gs)) ts
  refine Spec.ite (fun h=>Spec.ret ⟨ht.1,ht.2,hg.1,hg.2,?_⟩) (fun h=> ?_)
  · have:=of_decide_eq_true h;dsimp only;omega
  · have od:(ts.filter fun t=>decide (t∈gs)).length % 2=1:=by have:=of_decide_eq_false h;omega
    refine (v_law_draw hp (by omega) (by omega)).bnd fun i hi=> ?_
    refine (Spec.ix hi.1 hi.2).bnd fun g gm=> ?_
    refine (v_law_draw hp (by omega) (by omega)).bnd fun i hi=> ?_
    refine Spec.ite (fun _=> ?_) (fun _=> ?_)
    · rw[ass_t (by omega),fmap_filt (c':=fun t=> !decide (t=g)) fun _ _=>rfl]
      exact Spec.ret (PairOk.lessT ht.1 ht.2 hg.1 hg.2 od gm)
    · have lg:=List.length_filter_le (fun t=> !decide (t=g)) gs
      have lg2:(gs.length:Int)≤1000:=by
        by_cases e:(1:Int)≤n
        · have:=asc_len hg.1 hg.2 e;omega
        · cases gs with
          | nil=>simp
          | cons x xs=>have:=hg.1 x List.mem_cons_self;omega
      rw[ass_t (by omega),fmap_filt (c':=fun t=> !decide (t=g)) fun _ _=>rfl]
      exact Spec.ret (PairOk.lessG ht.1 ht.2 hg.1 hg.2 od gm)
theorem v_law_bits {p:Addr} {n:Nat} {S:Store K} (hp:S p=some .pot) (h0:1≤n) (h1:n≤1000):
    Spec (w__law_bits K cl (p,(n:Int),())) S (fun bs=> ∃m,m<2 ^ n∧m.testBit 0=true∧bs=bitsOf n m):=by
  unfold w__law_bits
  wtm_at "m"
  rw[ass_t (by omega),ass_t (by rw[rng_len];omega)]
  refine (Spec.fmap fun _ _=>v_law_draw hp (by omega) (by omega)).bndc fun xs hx=> ?_
  have hl:xs.length=n - 1:=by rw[hx.len,rng_len];omega
  refine Spec.ass (by rw[hl];show 1+(n - 1)≤50000;omega) (Spec.ret ?_)
  obtain⟨m,hm,e⟩:=exists_mask ([1]++xs) (fun b hb=>by
    rcases List.mem_append.mp hb with hb | hb
    · rw[List.mem_singleton] at hb;exact .inr hb
    · obtain⟨_,_,h⟩:=hx.mem hb;omega)
  have hl2:([1]++xs:List Int).length=n:=by simp;omega
  rw[hl2] at hm e
  exact⟨m,hm,(bitsOf_odd e.symm).mp rfl,e⟩
def digN (c:Nat):Bool:=decide (48≤c∧c≤57)
def numW (x:Str):Option Int:=
  if (1≤x.length∧x.length≤30)∧(tl x).all digN=true∧ ¬ ((tl x)[0]?=some 48∧1<x.length) then some ((PySem.NumText.digitsVal (tl x):Nat):Int) else none
def sgD (y:Str):Bool:=match y.cps[0]? with
  | some c=>digN c
  | none=>false
theorem signs_len (x:Str):(TL.signs x).length=x.length:=by unfold TL.signs;rw[List.length_map];exact Array.length_toList
theorem tl_len (x:Str):(tl x).length=x.length:=Array.length_toList
theorem signs_all (x:Str):((TL.signs x).map sgD).all id=(tl x).all digN:=by
  unfold TL.signs
  rw[List.map_map,List.all_map];rfl
theorem inC_ret (c:Nat) (y:Str):wInC (K:=K) ⟨#[c]⟩ y=ret (decide (c∈tl y)):=by
  funext Q E S
  refine propext ⟨fun⟨c',e,q⟩=> ?_,fun q=>⟨c,rfl,q⟩⟩
  obtain rfl:c=c':=by injection e with e;simpa using e
  exact q
theorem ixS_ret {x:Str} {i c:Nat} (hl:x.length≤50000) (h:(tl x)[i]?=some c):wIxS (K:=K) x (i:Int)=ret ⟨#[c]⟩:=by
  funext Q E S
  refine propext ⟨fun⟨_,_,c',e,q⟩=> ?_,fun q=>⟨hl,by omega,c,by rw[Int.toNat_natCast];exact h,q⟩⟩
  rw[Int.toNat_natCast] at e
  have e:(tl x)[i]?=some c':=e
  rw[h] at e;cases e;exact q
theorem int_ret {x:Str} {n:Int} (h:PySem.intText? x=some n) (hl:x.length≤640):wInt (K:=K) x=ret n:=by
  funext Q E S
  refine propext ⟨fun⟨n',e,_,q⟩=> ?_,fun q=>⟨n,h,hl,q⟩⟩
  rw[h] at e;cases e;exact q
theorem sign_is (c d:Nat) (s:Str) (hs:s=⟨#[d]⟩):decide ((⟨#[c]⟩:Str)=s)=decide (c=d):=by
  subst hs
  by_cases h:c=d
  · subst h;rw[decide_eq_true rfl,decide_eq_true rfl]
  · rw[decide_eq_false h,decide_eq_false fun z=>h (by injection z with z;simpa using z)]
theorem dig_mem (c:Nat):decide (c∈tl ("0123456789" :Str))=digN c:=by
  rw[show tl ("0123456789" :Str)= [48,49,50,51,52,53,54,55,56,57] by decide +kernel]
  unfold digN
  refine decide_eq_decide.mpr ?_
  simp only[List.mem_cons,List.not_mem_nil,or_false]
  omega
theorem v_number_in {x:Str} (hl:x.length≤50000):w_number_in K cl (x,30,())=ret (numW x):=by
  unfold w_number_in numW
  wtm_at "m"
  rw[ass_t hl]
  by_cases c1:1≤x.length
  · rw[decide_eq_true (show (1:Int)≤(x.length:Int) by omega),if_t]
    by_cases c2:x.length≤30
    · rw[decide_eq_true (show (x.length:Int)≤30 by omega),if_t,ass_t (by rw[signs_len];exact hl),fmap_all (f':=sgD) (fun y hy=>by
        obtain⟨c,_,rfl⟩:=List.mem_map.mp hy
        rw[inC_ret,dig_mem];rfl)]
      wtm_at "m"
      rw[signs_all]
      by_cases c3:(tl x).all digN=true
      · have ne:tl x≠ []:=fun z=>by have:=tl_len x;rw[z] at this;simp at this;omega
        obtain⟨c,h0⟩: ∃c,(tl x)[0]?=some c:=⟨_,List.getElem?_eq_getElem (by rw[tl_len];omega)⟩
        have all:PySem.NumText.AllDigits (tl x):=fun c hc=>of_decide_eq_true (List.all_eq_true.mp c3 c hc)
        have i0:wIxS (K:=K) x 0=ret ⟨#[c]⟩:=ixS_ret (i:=0) hl h0
        rw[c3,if_t,i0,ret_bnd,int_ret (PySem.intText_digits all ne (by omega)) (by omega),ret_bnd,sign_is c 48 _ (by decide +kernel),h0]
        by_cases c4:c=48
        · rw[decide_eq_true c4,if_t,ass_t hl]
          by_cases c5:1<x.length
          · rw[decide_eq_true (show (1:Int)<(x.length:Int) by omega),if_t,if_neg fun z=>z.2.2 ⟨by rw[c4],c5⟩]
          · rw[decide_eq_false (show ¬ (1:Int)<(x.length:Int) by omega),if_f,if_pos ⟨⟨c1,c2⟩,rfl,fun z=>c5 z.2⟩]
        · rw[decide_eq_false c4,if_f,if_pos ⟨⟨c1,c2⟩,rfl,fun z=>c4 (Option.some.inj z.1)⟩]
      · rw[if_neg fun z=>c3 z.2.1]
        rw[Bool.not_eq_true] at c3
        rw[c3,if_f]
    · rw[decide_eq_false (show ¬ (x.length:Int)≤30 by omega),if_f,if_neg fun z=>c2 z.1.2]
  · rw[decide_eq_false (show ¬ (1:Int)≤(x.length:Int) by omega),if_f,if_neg fun z=>c1 z.1.1]
theorem numL_head: ∀(n:Nat),n≠0→(numL n)[0]?≠some 48:=by
  intro n
  induction n using Nat.strongRecOn with
  | _ n ih=>
    intro h
    by_cases c:n<10
    · rw[numL_lt c]
      intro z
      have:48+n=48:=Option.some.inj z
      omega
    · rw[numL_step (by omega),List.getElem?_append_left (List.length_pos_iff.mpr (numL_ne _))]
      exact ih (n / 10) (by omega) (by omega)
theorem numW_num {n:Nat} (h:n<10 ^ 30):numW (toString (n:Int):Str)=some (n:Int):=by
  have e:tl (toString (n:Int):Str)=numL n:=tl_num n
  have l:=numL_len (n:=n) (k:=30) (by decide) h
  have l2:(toString (n:Int):Str).length=(numL n).length:=by rw[← tl_len,e]
  have ne:=List.length_pos_iff.mpr (numL_ne n)
  unfold numW
  rw[e,l2,numL_val,if_pos]
  refine⟨⟨by omega,l⟩,List.all_eq_true.mpr fun c hc=>decide_eq_true (numL_digits n c hc),fun z=> ?_⟩
  by_cases c:n=0
  · subst c
    rw[numL_lt (by decide)] at z
    exact absurd z.2 (by decide)
  · exact numL_head n c z.1
theorem small_log {n:Int} (h:0≤n∧n<40):n.natAbs.log2<1920:=by
  have:n.natAbs<40:=by omega
  have h2:n.natAbs.log2≤n.natAbs:=Nat.log2_le_self _
  omega
theorem small_abs {ns:List Int} (h: ∀n∈ns,0≤n∧n<40): ∀n∈ns,n.natAbs<2 ^ 250:=fun n hn=>Nat.lt_of_lt_of_le (show n.natAbs<40 by have:=h n hn;omega) (by decide)
theorem words_sum {ns:List Int} (h: ∀n∈ns,0≤n∧n<40) (hl:ns.length≤64):((ns.map fun n=>(toString n:Str)).map fun x=>x.length).sum+(ns.map fun n=>(toString n:Str)).length * ("," :Str).length≤16777216:=by
  have:=ints_sum (small_abs h)
  have e:("," :Str).length=1:=by decide +kernel
  rw[e,List.length_map]
  omega
theorem v_cells_text {d:PyData} {ts:List Int} (hd:cellsD d 40=some ts) (hl: ∀ds,seqD d=some ds→ds.length≤50000) (ht: ∀n∈ts,0≤n∧n<40) (l:ts.length≤64):w_cells_text K cl (d,())=ret (textL ts):=by
  unfold w_cells_text textL
  wtm_at "m"
  rw[v_cell_tuple hl,hd]
  dsimp only
  rw[ret_bnd,ass_t ⟨(shp_tints _).shaped (by decide),(shp_tints _).shaped (by decide)⟩,(eqc_tup eqc_int) ts []]
  by_cases c:ts= []
  · rw[decide_eq_true c,if_t,if_pos c]
  · rw[decide_eq_false c,if_f,if_neg c,ass_t (by omega),fmap_all (f':=fun n:Int=>(toString n:Str)) (fun n hn=>ass_t (small_log (ht n hn)))]
    wtm_at "m"
    rw[ass_t (words_sum ht l)]
theorem v_flip_text {t g:Nat} (ht:t<2 ^ 64) (hg:g<2 ^ 64):w_flip_text K cl ((t,g),())=ret (pairText (bitsL t) (bitsL g)):=by
  unfold w_flip_text
  wtm_at "m"
  rw[v_Flip____str__ ht hg];rfl
theorem v_board_text {n m:Nat} (h:n≤40):w_board_text K cl ((n,m),())=ret (boardText n m):=by
  unfold w_board_text
  wtm_at "m"
  rw[v_Board____str__ h];rfl
def okW:Option Int→Bool
  | some n=>decide (n<40)
  | none=>false
def ltW:Option Int×Option Int→Bool
  | (some a,some b)=>decide (a<b)
  | _=>false
def cellsW (x:Str):Option (List Int):=
  if x= "-" then some [] else
  if (((Txt.split x ",").map numW).map okW).all id=true then
    if ((((Txt.split x ",").map numW).zip (sli ((Txt.split x ",").map numW) (some 1) none)).map ltW).all id=true then some (((Txt.split x ",").map numW).filterMap id) else none
  else none
theorem part_len (y:Str): ∀ {ps:List Str} {p:Str},p∈ps→p.length≤(Str.join y ps).length
  | [q],p,h=>by rw[List.mem_singleton] at h;subst h;exact Nat.le_refl _
  | q::r::ps,p,h=>by
    show _≤(q++y++Str.join y (r::ps)).length
    rw[len_app,len_app]
    rcases List.mem_cons.mp h with h | h
    · subst h;omega
    · have:=part_len y h;omega
theorem split_part {x y p:Str} (h:p∈Txt.split x y):p.length≤x.length:=by
  have:=part_len y h
  rwa [PySem.StrLaws.join_split] at this
theorem all_some {os:List (Option Int)} (h:(os.map okW).all id=true):os=(os.filterMap id).map some:=by
  induction os with
  | nil=>rfl
  | cons o os ih=>
    simp only[List.map_cons,List.all_cons,Bool.and_eq_true] at h
    cases o with
    | none=>cases h.1
    | some n=>
      show _=(n::os.filterMap id).map some
      rw[List.map_cons,← ih h.2]
theorem v_cells_written {x:Str} (hl:x.length≤49990) (ok:PyData.strOk x=true):w_cells_written K cl (.str x,())=ret (cellsW x):=by
  have ls:=PyProof.Rows.split_le x ","
  have lp: ∀p∈Txt.split x ",",p.length≤50000:=fun p hp=>Nat.le_trans (split_part hp) (by omega)
  unfold w_cells_written cellsW
  wtm_at "m"
  rw[ass_t (show IsTy "str" by unfold IsTy;simp),show isD (.str x) "str" =true from rfl,if_t,ass_t ⟨(shp_str (n:=1) ok).shaped (by decide),(shp_str (n:=1) (ok_of _)).shaped (by decide)⟩,eqc_str x "-"]
  by_cases c:x= "-"
  · rw[decide_eq_true c,if_t,if_pos c]
  · rw[decide_eq_false c,if_f,if_neg c]
    have as:(TL.wAs PyData.str (.str x):W K Str)=ret x:=by
      funext Q E S
      exact propext ⟨fun⟨y,e,q⟩=>by cases e;exact q,fun q=>⟨x,rfl,q⟩⟩
    rw[as,ret_bnd,ass_t ⟨by decide +kernel,by omega⟩,ass_t (by omega),fmap_all (f':=numW) (fun p hp=>v_number_in (lp p hp))]
    wtm_at "m"
    generalize hos:(Txt.split x ",").map numW=os
    have lo:os.length≤49992:=by rw[← hos,List.length_map];omega
    rw[ass_t (by omega),fmap_all (f':=okW) (fun o _=>by
      cases o with
      | none=>rfl
      | some n=>rw[show Option.isNone (some n)=false from rfl,if_f,some_bnd];rfl)]
    wtm_at "m"
    by_cases c1:(os.map okW).all id=true
    · have so:=all_some c1
      rw[c1,if_t,if_pos rfl]
      have lz:(os.zip (sli os (some 1) none)).length≤50000:=by rw[List.length_zip];omega
      rw[ass_t lz,fmap_all (f':=ltW) (fun z hz=>by
        obtain⟨a,b⟩:=z
        have m1:=(List.of_mem_zip hz).1
        have m2:=sli_mem (List.of_mem_zip hz).2
        rw[so] at m1 m2
        obtain⟨i,_,rfl⟩:=List.mem_map.mp m1
        obtain⟨j,_,rfl⟩:=List.mem_map.mp m2
        show bnd (wSome (some i)) _=_
        rw[some_bnd,some_bnd];rfl)]
      wtm_at "m"
      by_cases c2:((os.zip (sli os (some 1) none)).map ltW).all id=true
      · rw[c2,if_t,if_pos rfl]
        have sm:(wSomes os:W K (List Int))=ret (os.filterMap id):=by
          funext Q E S
          refine propext ⟨fun⟨ys,e,q⟩=> ?_,fun q=>⟨_,so,q⟩⟩
          have:os.filterMap id=ys:=by rw[e,List.filterMap_map];simp
          rw[this];exact q
        rw[sm,ret_bnd]
      · rw[if_neg c2]
        rw[Bool.not_eq_true] at c2
        rw[c2,if_f]
    · rw[if_neg c1]
      rw[Bool.not_eq_true] at c1
      rw[c1,if_f]
theorem v_cells_written_no {d:PyData} (h:isD d "str" =false):w_cells_written K cl (d,())=ret none:=by
  unfold w_cells_written
  wtm_at "m"
  rw[ass_t (show IsTy "str" by unfold IsTy;simp),h,if_f]
theorem num_free {n:Nat} {s:Nat} (h:s<48∨57<s):s ∉ tl (toString (n:Int):Str):=by
  rw[show tl (toString (n:Int):Str)=numL n from tl_num n];exact numL_free h
theorem split_textL {ns:List Int} (h: ∀n∈ns,0≤n) (ne:ns≠ []):Txt.split (textL ns) "," =ns.map fun n=>(toString n:Str):=by
  unfold textL
  rw[if_neg ne]
  refine split_join (s:=44) (S:= []) (by decide +kernel) (by decide +kernel) (fun z=>ne (List.map_eq_nil_iff.mp z)) fun p hp=> ?_
  obtain⟨n,hn,rfl⟩:=List.mem_map.mp hp
  obtain⟨n,rfl⟩:=Int.eq_ofNat_of_zero_le (h n hn)
  exact num_free (by decide)
theorem dash_no {ns:List Int} (h: ∀n∈ns,0≤n∧n<40) (ne:ns≠ []):textL ns≠ "-" :=fun z=>by
  have e:=split_textL (fun n hn=>(h n hn).1) ne
  rw[z,show Txt.split "-" "," = [("-" :Str)] by decide +kernel] at e
  match ns,ne with
  | n::r,_=>
    have e1:("-" :Str)=(toString n:Str):=(List.cons.inj e).1
    have hn:=h n List.mem_cons_self
    obtain⟨n,rfl⟩:=Int.eq_ofNat_of_zero_le hn.1
    have:=num_free (n:=n) (s:=45) (by decide)
    rw[← e1] at this
    exact this (by decide +kernel)
theorem zip_asc: ∀ {ns:List Int},ns.Pairwise (· < ·)→(((ns.map some).zip ((ns.map some).drop 1)).map ltW).all id=true
  | [],_=>rfl
  | [_],_=>rfl
  | a::b::r,h=>by
    have h2:=(List.pairwise_cons.mp h).2
    have:=zip_asc h2
    simp only[List.map_cons,List.drop_succ_cons,List.drop_zero,List.zip_cons_cons,List.all_cons,Bool.and_eq_true] at this ⊢
    exact⟨decide_eq_true ((List.pairwise_cons.mp h).1 b List.mem_cons_self),this⟩
theorem cellsW_text {ns:List Int} (h: ∀n∈ns,0≤n∧n<40) (asc:ns.Pairwise (· < ·)):cellsW (textL ns)=some ns:=by
  unfold cellsW
  by_cases ne:ns= []
  · subst ne;rw[if_pos (by rfl)]
  · rw[if_neg (dash_no h ne),split_textL (fun n hn=>(h n hn).1) ne]
    have e:(ns.map fun n=>(toString n:Str)).map numW=ns.map some:=by
      rw[List.map_map]
      refine List.map_congr_left fun n hn=> ?_
      obtain⟨n,rfl⟩:=Int.eq_ofNat_of_zero_le (h n hn).1
      have h40:n<40:=by have:=(h _ hn).2;omega
      exact numW_num (Nat.lt_trans h40 (by decide))
    rw[e,if_pos,if_pos,List.filterMap_map]
    · simp
    · rw[sli_drop _ (by decide)];exact zip_asc asc
    · rw[List.map_map,List.all_map,List.all_eq_true]
      exact fun n hn=>decide_eq_true (h n hn).2
theorem v_read_cells {x:Str} (hl:x.length≤49990) (ok:PyData.strOk x=true):w_read_cells K cl (.str x,())=(match cellsW x with | some ns=>ret ns | none=>wRaise (cl.NoText,[("line",kI 0)])):=by
  unfold w_read_cells
  wtm_at "m"
  rw[v_cells_written hl ok,ret_bnd]
  cases cellsW x with
  | none=>rfl
  | some ns=>rw[show Option.isNone (some ns)=false from rfl,if_f,show (wSome (some ns):W K (List Int))=bnd (wSome (some ns)) fun x=>ret x from rfl,some_bnd]
theorem textL_free {ns:List Int} (h: ∀n∈ns,0≤n):62 ∉ tl (textL ns):=by
  unfold textL
  split
  · decide +kernel
  · rw[TL.join_eq,tl_join]
    generalize hw:(ns.map fun n=>(toString n:Str)).map tl=ws
    have fr: ∀w∈ws,62 ∉ w:=fun w hw'=>by
      rw[← hw] at hw'
      obtain⟨p,hp,rfl⟩:=List.mem_map.mp hw'
      obtain⟨n,hn,rfl⟩:=List.mem_map.mp hp
      obtain⟨n,rfl⟩:=Int.eq_ofNat_of_zero_le (h n hn)
      exact num_free (by decide)
    have c:tl ("," :Str)= [44]:=by decide +kernel
    rw[c]
    clear hw
    induction ws with
    | nil=>exact fun z=>nomatch z
    | cons w ws ih=>
      cases ws with
      | nil=>exact fr w List.mem_cons_self
      | cons v r=>
        intro z
        rcases List.mem_append.mp z with z | z
        · exact fr w List.mem_cons_self z
        · rcases List.mem_append.mp z with z | z
          · exact absurd (List.mem_singleton.mp z) (by decide)
          · exact ih (fun u hu=>fr u (List.mem_cons_of_mem _ hu)) z
theorem v_read_flip {t g:Nat} {S:Store K} (ok:FlipOk t g):Spec (w_read_flip K cl (.str (pairText (bitsL t) (bitsL g)),())) S (· =(t,g)):=by
  have t64:t<2 ^ 64:=Nat.lt_trans ok.lt (by decide)
  have g64:g<2 ^ 64:=Nat.lt_trans ok.lg (by decide)
  have bt: ∀n∈bitsL t,0≤n∧n<40:=fun n hn=>bits_below ok.lt hn
  have bg: ∀n∈bitsL g,0≤n∧n<40:=fun n hn=>bits_below ok.lg hn
  have lt:=textL_len (small_abs bt) (bits_len t)
  have lg:=textL_len (small_abs bg) (bits_len g)
  have e1:(">" :Str).length=1:=by decide +kernel
  have pl:(pairText (bitsL t) (bitsL g)).length≤50000:=by unfold pairText;rw[len_app,len_app];omega
  have pe:Txt.partition (pairText (bitsL t) (bitsL g)) ">" =(textL (bitsL t),(">" :Str),textL (bitsL g)):=by
    unfold pairText
    exact partition_app (s:=62) (S:= []) (by decide +kernel) (textL_free fun n hn=>(bt n hn).1)
  have as:(TL.wAs PyData.str (.str (pairText (bitsL t) (bitsL g))):W K Str)=ret (pairText (bitsL t) (bitsL g)):=by
    funext Q E S
    exact propext ⟨fun⟨y,e,q⟩=>by cases e;exact q,fun q=>⟨_,rfl,q⟩⟩
  unfold w_read_flip
  wtm_at "m"
  rw[ass_t (show IsTy "str" by unfold IsTy;simp),show isD (.str (pairText (bitsL t) (bitsL g))) "str" =true from rfl,if_t,as,ret_bnd,ass_t ⟨by decide +kernel,pl⟩,pe]
  dsimp only
  rw[v_cells_written (by omega) (textL_ok _),v_cells_written (by omega) (textL_ok _),cellsW_text bt (bits_asc t),cellsW_text bg (bits_asc g)]
  wtm_at "m"
  rw[decide_eq_false (by decide +kernel),if_f,show Option.isNone (some (bitsL t))=false from rfl,if_f,show Option.isNone (some (bitsL g))=false from rfl,if_f]
  intro Q E q
  refine (v_Flip (d:= .tuple ((bitsL t).map .int)) (u:= .tuple ((bitsL g).map .int)) (cells_asc (fun k hk=>bits_below ok.lt hk) (bits_asc t)).1 (cells_asc (fun k hk=>bits_below ok.lg hk) (bits_asc g)).1 (by rw[mask_bits t64,mask_bits g64];exact ok)
    (fun ds e=>by cases e;have:=bits_len t;rw[List.length_map];omega) (fun ds e=>by cases e;have:=bits_len g;rw[List.length_map];omega)) _ _ fun y hy=> ?_
  rw[mask_bits t64,mask_bits g64] at hy
  exact q _ hy
theorem signs_app (a b:Str):TL.signs (a++b)=TL.signs a++TL.signs b:=by
  unfold TL.signs
  rw[← List.map_append]
  refine congrArg (List.map _) ?_
  exact tl_append a b
theorem signs_join: ∀ {ws:List Str},(∀w∈ws,TL.signs w= [w])→TL.signs (Str.join "" ws)=ws
  | [],_=>by decide +kernel
  | [w],h=>h w List.mem_cons_self
  | w::v::r,h=>by
    show TL.signs (w++ "" ++Str.join "" (v::r))=_
    rw[signs_app,signs_app,h w List.mem_cons_self,signs_join fun u hu=>h u (List.mem_cons_of_mem _ hu),show TL.signs ("" :Str)= [] by decide +kernel]
    rfl
theorem signs_bit (m i:Nat):TL.signs (bitS m i)= [bitS m i]:=by
  unfold bitS
  rcases bitI_01 m i with h | h <;> (rw[h];decide +kernel)
theorem signs_board (n m:Nat):TL.signs (boardText n m)=(List.range n).map fun i=>bitS m i:=by
  unfold boardText
  rw[TL.join_eq]
  exact signs_join fun w hw=>by
    obtain⟨i,_,rfl⟩:=List.mem_map.mp hw
    exact signs_bit m i
theorem bitS_one (m i:Nat):decide (bitS m i= "1")=m.testBit i:=by
  unfold bitS bitI
  cases m.testBit i <;> decide +kernel
theorem v_read_board {n m:Nat} {S:Store K} (n1:1≤n) (n40:n≤40) (hm:m<2 ^ n) (od:m.testBit 0=true):Spec (w_read_board K cl (.str (boardText n m),())) S (· =(n,m)):=by
  have m64:m<2 ^ 64:=Nat.lt_of_lt_of_le hm (Nat.pow_le_pow_right (by decide) (by omega))
  have bl:=boardText_len n m
  have sb:=signs_board n m
  have as:(TL.wAs PyData.str (.str (boardText n m)):W K Str)=ret (boardText n m):=by
    funext Q E S
    exact propext ⟨fun⟨y,e,q⟩=>by cases e;exact q,fun q=>⟨_,rfl,q⟩⟩
  have h0:(tl (boardText n m))[0]?=some 49:=by
    have e:(TL.signs (boardText n m))[0]?=some (bitS m 0):=by
      rw[sb,List.getElem?_map,List.getElem?_range (by omega)];rfl
    unfold TL.signs at e
    rw[List.getElem?_map] at e
    obtain⟨c,ec,e2⟩:=Option.map_eq_some_iff.mp e
    have e3:bitS m 0= "1" :=by have:=bitS_one m 0;rw[od] at this;exact of_decide_eq_true this
    have e4:(⟨#[c]⟩:Str)=⟨#[49]⟩:=by rw[e2,e3];decide +kernel
    obtain rfl:c=49:=by injection e4 with e4;simpa using e4
    exact ec
  have i0:wIxS (K:=K) (boardText n m) 0=ret ⟨#[49]⟩:=ixS_ret (i:=0) (by omega) h0
  unfold w_read_board
  wtm_at "m"
  rw[ass_t (show IsTy "str" by unfold IsTy;simp),show isD (.str (boardText n m)) "str" =true from rfl,if_t,as,ret_bnd,ass_t (by omega),bl,decide_eq_true (show (1:Int)≤(n:Int) by omega),if_t,decide_eq_true (show (n:Int)≤40 by omega),if_t,ret_bnd,i0,ret_bnd,
    sign_is 49 49 _ (by decide +kernel),decide_eq_true rfl,if_t,ret_bnd,sb,ass_t (by rw[List.length_map,List.length_range];omega),fmap_all (f':=fun _=>true) (fun y hy=>by
      obtain⟨i,_,rfl⟩:=List.mem_map.mp hy
      refine congrArg TL.ret (decide_eq_true ?_)
      unfold bitS
      rcases bitI_01 m i with h | h <;> (rw[h];decide +kernel))]
  wtm_at "m"
  rw[show ((((List.range n).map fun i=>bitS m i).map fun _=>true).all id)=true by rw[List.all_eq_true];intro x hx;obtain⟨_,_,rfl⟩:=List.mem_map.mp hx;rfl,if_t,ass_t (by omega),sb]
  have en:enumI ((List.range n).map fun i=>bitS m i)=(List.range n).map fun i=>(((i:Nat):Int),bitS m i):=by
    refine List.ext_getElem? fun i=> ?_
    unfold enumI
    rw[List.getElem?_map,List.getElem?_zipIdx,List.getElem?_map,List.getElem?_map]
    by_cases hi:i<n
    · rw[List.getElem?_range hi];simp
    · rw[List.getElem?_eq_none (by simp;omega)];rfl
  rw[en,ass_t (by rw[List.length_map,List.length_range];omega),fmap_eq (c':=fun x:Int×Str=>decide (x.2= "1")) (f':=fun x:Int×Str=>x.1) (fun _ _=>rfl) fun _ _ _=>rfl]
  wtm_at "m"
  have eb:(((List.range n).map fun i=>(((i:Nat):Int),bitS m i)).filter fun x:Int×Str=>decide (x.2= "1")).map (fun x:Int×Str=>x.1)=bitsL m:=by
    rw[List.filter_map,List.map_map,bits_lt hm (by omega)]
    have:((fun x:Int×Str=>decide (x.2= "1")) ∘ fun i:Nat=>(((i:Nat):Int),bitS m i))=fun i=>m.testBit i:=funext fun i=>bitS_one m i
    rw[this];rfl
  rw[eb]
  refine (v_Board (n:=n) (by rw[bl]) n1 n40 (cells_asc (fun k hk=>bits_below hm hk) (bits_asc m)).2 (fun ds e=>by cases e;have:=bits_len m;rw[List.length_map];omega)).imp fun b hb=> ?_
  rw[hb,mask_bits m64,or_one od]
theorem v_law_text_of {ns:List Int} (h: ∀n∈ns,0≤n∧n<40) (hl:ns.length≤64):w__law_text_of K cl (ns,())=ret (textL ns):=by
  unfold w__law_text_of textL
  wtm_at "m"
  rw[ass_t ⟨(shp_ints _).shaped (by decide),(shp_ints _).shaped (by decide)⟩,(eqc_lst eqc_int) ns []]
  by_cases c:ns= []
  · rw[decide_eq_true c,if_t,if_pos c]
  · rw[decide_eq_false c,if_f,if_neg c,ass_t (by omega),fmap_all (f':=fun n:Int=>(toString n:Str)) (fun n hn=>ass_t (small_log (h n hn)))]
    wtm_at "m"
    rw[ass_t (words_sum h hl)]
theorem v_law_pair_text {ts gs:List Int} (h: ∀n∈ts,0≤n∧n<40) (hl:ts.length≤64) (h2: ∀n∈gs,0≤n∧n<40) (hl2:gs.length≤64):w__law_pair_text K cl ((ts,gs),())=ret (pairText ts gs):=by
  unfold w__law_pair_text pairText
  wtm_at "m"
  have e1:(">" :Str).length=1:=by decide +kernel
  have l1:=textL_len (small_abs h) hl
  have l2:=textL_len (small_abs h2) hl2
  rw[v_law_text_of h hl,v_law_text_of h2 hl2]
  wtm_at "m"
  rw[ass_t (by omega),ass_t (by rw[len_app];omega)]
theorem v_law_bits_text {n m:Nat} (n40:n≤40):w__law_bits_text K cl (bitsOf n m,())=ret (boardText n m):=by
  unfold w__law_bits_text boardText
  wtm_at "m"
  rw[ass_t (by simp[bitsOf];omega),fmap_all (f':=fun n:Int=>(toString n:Str)) (fun b hb=>ass_t (by
    obtain⟨i,_,rfl⟩:=List.mem_map.mp hb
    rcases bitI_01 m i with h | h <;> (rw[h];decide +kernel)))]
  wtm_at "m"
  have e:(bitsOf n m).map (fun n:Int=>(toString n:Str))=(List.range n).map fun i=>bitS m i:=by
    unfold bitsOf
    rw[List.map_map];rfl
  rw[e,ass_t (by rw[bitS_sum,show (Str.ofString "").length=0 from rfl];omega)]
theorem str_tl {x y:Str} (h:tl x=tl y):x=y:=by
  cases x with
  | mk a=>
    cases y with
    | mk b=>exact congrArg Str.mk (Array.toList_inj.mp h)
theorem chars_back: ∀ {cs:List Nat},PySem.NumText.AllDigits cs→(cs.map Char.ofNat).map Char.toNat=cs
  | [],_=>rfl
  | c::cs,h=>by
    have hc:=h c List.mem_cons_self
    rw[List.map_cons,List.map_cons,chars_back fun d hd=>h d (List.mem_cons_of_mem _ hd)]
    refine congrArg (· ::cs) ?_
    have:c=48∨c=49∨c=50∨c=51∨c=52∨c=53∨c=54∨c=55∨c=56∨c=57:=by omega
    rcases this with rfl | rfl | rfl | rfl | rfl | rfl | rfl | rfl | rfl | rfl <;> rfl
theorem numW_text {w:Str} {n:Int} (h:numW w=some n):0≤n∧w=(toString n:Str)∧PySem.intText? w=some n∧w.length≤30∧(tl w).all digN=true:=by
  unfold numW at h
  split at h
  · rename_i c
    obtain⟨⟨h1,h30⟩,hd,h0⟩:=c
    obtain rfl:=Option.some.inj h
    have all:PySem.NumText.AllDigits (tl w):=fun c hc=>of_decide_eq_true (List.all_eq_true.mp hd c hc)
    have len:=tl_len w
    have ne:tl w≠ []:=fun z=>by rw[z] at len;simp at len;omega
    refine⟨Int.natCast_nonneg _,str_tl ?_,PySem.intText_digits all ne (by omega),h30,hd⟩
    rw[show tl (toString ((PySem.NumText.digitsVal (tl w):Nat):Int):Str)=numL (PySem.NumText.digitsVal (tl w)) from tl_num _]
    unfold numL
    rw[PySem.NumText.toDigits_digitsVal (w.length - 1) (tl w) (by omega) all ?_,chars_back all]
    by_cases l1:w.length=1
    · exact .inl (by omega)
    · cases e:tl w with
      | nil=>exact absurd e ne
      | cons c r=>
        refine .inr ⟨c,r,rfl,?_⟩
        have hc:=all c (by rw[e];exact List.mem_cons_self)
        have:c≠48:=fun z=>h0 ⟨by rw[e,z];rfl,by omega⟩
        omega
  · cases h
theorem numW_two {w:Str} {n:Int} (h:numW w=some n) (h40:n<40):w.length≤2:=by
  obtain⟨n0,e,_⟩:=numW_text h
  obtain⟨n,rfl⟩:=Int.eq_ofNat_of_zero_le n0
  have:=numL_len (n:=n) (k:=2) (by decide) (by omega)
  rw[← show tl (toString (n:Int):Str)=numL n from tl_num n,← e,tl_len] at this
  exact this
def valW (w:Str):Int:=(numW w).getD 0
def stepL (w:Str) (a:Int):Flow (Int×Unit) Bool:=if okW (numW w)=true∧a<valW w then .nx (valW w,()) else .rt false
theorem niC_ret (c:Nat) (y:Str):wNiC (K:=K) ⟨#[c]⟩ y=ret (!decide (c∈tl y)):=by
  funext Q E S
  refine propext ⟨fun⟨c',e,q⟩=> ?_,fun q=>⟨c,rfl,q⟩⟩
  obtain rfl:c=c':=by injection e with e;simpa using e
  exact q
theorem outs_len {x y:Str}:0<((TL.signs x).filter fun s=>match s.cps[0]? with | some c=> !decide (c∈tl y) | none=>true).length↔ ¬ ∀c∈tl x,c∈tl y:=by
  rw[List.length_pos_iff]
  constructor
  · intro h z
    refine h (List.filter_eq_nil_iff.mpr fun s hs=> ?_)
    obtain⟨c,hc,rfl⟩:=List.mem_map.mp hs
    simpa using z c hc
  · intro h z
    refine h fun c hc=> ?_
    have:=List.filter_eq_nil_iff.mp z ⟨#[c]⟩ (List.mem_map.mpr ⟨c,hc,rfl⟩)
    simpa using this
theorem outs_eq {x y:Str}:fmapW nI (fun s=>(wNiC s y:W K Bool)) (fun s=>ret s) (TL.signs x)=ret ((TL.signs x).filter fun s=>match s.cps[0]? with | some c=> !decide (c∈tl y) | none=>true):=
  fmap_filt fun s hs=>by
    obtain⟨c,_,rfl⟩:=List.mem_map.mp hs
    rw[niC_ret];rfl
theorem word_step {w:Str} {a:Int} (hl:w.length≤50000):
    (wIf (decide (w=Str.ofString "")) (TL.ret (Flow.rt false))
      (wAss ((TL.signs w).length≤50000)
        (bnd (wCalm (fmapW nI (fun x16=>wNiC x16 (Str.ofString "0123456789")) (fun x16=>TL.ret x16) (TL.signs w))) fun x=>
          wIf (decide (0<(x.length:Int))) (TL.ret (Flow.rt false))
            (wAss (w.length≤50000)
              (wIf (decide (2<(w.length:Int))) (TL.ret (Flow.rt false))
                (bnd (wIxS w 0) fun x=>
                  wIf (decide (x=Str.ofString "0"))
                    (wIf (decide (w=Str.ofString "0"))
                      (bnd (wInt w) fun x=>wIf (decide (x≤a)) (TL.ret (Flow.rt false)) (bnd (wInt w) fun x=>wIf (decide (39<x)) (TL.ret (Flow.rt false)) (bnd (wInt w) fun z=>TL.ret (Flow.nx (z,())))))
                      (TL.ret (Flow.rt false)))
                    (bnd (wInt w) fun x=>wIf (decide (x≤a)) (TL.ret (Flow.rt false)) (bnd (wInt w) fun x=>wIf (decide (39<x)) (TL.ret (Flow.rt false)) (bnd (wInt w) fun z=>TL.ret (Flow.nx (z,())))))))))):W K (Flow (Int×Unit) Bool))=ret (stepL w a):=by
  have no:okW (numW w)=false→stepL w a= .rt false:=fun h=>by unfold stepL;rw[if_neg fun z=>by rw[h] at z;cases z.1]
  have nn:numW w=none→stepL w a= .rt false:=fun h=>no (by rw[h];rfl)
  have len:=tl_len w
  have e0:(Str.ofString "").length=0:=by decide +kernel
  by_cases c0:w=Str.ofString ""
  · rw[decide_eq_true c0,if_t,nn]
    unfold numW;rw[if_neg fun z=>by rw[c0,e0] at z;omega]
  · have h1:1≤w.length:=by
      rcases Nat.eq_zero_or_pos w.length with z | z
      · refine absurd (str_tl (List.eq_nil_of_length_eq_zero (by omega) |>.trans ?_)) c0
        exact (List.eq_nil_of_length_eq_zero (by rw[tl_len];exact e0)).symm
      · exact z
    rw[decide_eq_false c0,if_f,ass_t (by rw[signs_len];exact hl),outs_eq,calm_ret,ret_bnd]
    by_cases c1:(tl w).all digN=true
    · have dig: ∀c∈tl w,c∈tl (Str.ofString "0123456789"):=fun c hc=>of_decide_eq_true ((dig_mem c).trans (List.all_eq_true.mp c1 c hc))
      rw[decide_eq_false (by have:=(not_congr (outs_len (x:=w) (y:=Str.ofString "0123456789"))).mpr (fun z=>z dig);omega),if_f,ass_t hl]
      by_cases c2:2<w.length
      · rw[decide_eq_true (by omega),if_t,no]
        cases e:numW w with
        | none=>rfl
        | some n=>
          refine decide_eq_false fun z=> ?_
          have:=numW_two e z
          omega
      · rw[decide_eq_false (by omega),if_f]
        have ne:tl w≠ []:=fun z=>by rw[z] at len;simp at len;omega
        obtain⟨c,h0⟩: ∃c,(tl w)[0]?=some c:=⟨_,List.getElem?_eq_getElem (by omega)⟩
        have all:PySem.NumText.AllDigits (tl w):=fun c hc=>of_decide_eq_true (List.all_eq_true.mp c1 c hc)
        have i0:wIxS (K:=K) w 0=ret ⟨#[c]⟩:=ixS_ret (i:=0) hl h0
        have iv:=int_ret (K:=K) (PySem.intText_digits all ne (by omega)) (by omega)
        have fin: ¬ ((tl w)[0]?=some 48∧1<w.length)→(bnd (wInt w) fun x=>wIf (decide (x≤a)) (TL.ret (Flow.rt false)) (bnd (wInt w) fun x=>wIf (decide (39<x)) (TL.ret (Flow.rt false)) (bnd (wInt w) fun z=>TL.ret (Flow.nx (z,())))):W K (Flow (Int×Unit) Bool))=ret (stepL w a):=fun c4=>by
          have en:numW w=some ((PySem.NumText.digitsVal (tl w):Nat):Int):=by
            unfold numW;rw[if_pos ⟨⟨h1,by omega⟩,c1,c4⟩]
          simp only[iv,ret_bnd]
          unfold stepL valW
          rw[en]
          dsimp only[Option.getD_some]
          generalize ((PySem.NumText.digitsVal (tl w):Nat):Int)=v
          by_cases d1:v≤a
          · rw[decide_eq_true d1,if_t,if_neg fun z=>by omega]
          · rw[decide_eq_false d1,if_f]
            by_cases d2:39<v
            · rw[decide_eq_true d2,if_t,if_neg fun z=>by have:=of_decide_eq_true (show decide (v<40)=true from z.1);omega]
            · rw[decide_eq_false d2,if_f,if_pos ⟨show decide (v<40)=true from decide_eq_true (by omega),by omega⟩]
        rw[i0,ret_bnd,sign_is c 48 _ (by decide +kernel)]
        by_cases c3:c=48
        · rw[decide_eq_true c3,if_t]
          by_cases c4:w=Str.ofString "0"
          · rw[decide_eq_true c4,if_t]
            refine fin fun z=> ?_
            have:w.length=1:=by rw[c4];decide +kernel
            omega
          · rw[decide_eq_false c4,if_f,nn]
            have l2:1<w.length:=by
              rcases Nat.lt_or_ge 1 w.length with z | z
              · exact z
              · refine absurd (str_tl ?_) c4
                rw[show tl (Str.ofString "0")= [48] by decide +kernel]
                match e:tl w,ne with
                | [d],_=>rw[e] at h0;cases h0;rw[c3]
                | d::d'::r,_=>rw[e] at len;simp at len;omega
            unfold numW;rw[if_neg fun z=>z.2.2 ⟨by rw[h0,c3],l2⟩]
        · rw[decide_eq_false c3,if_f]
          exact fin fun z=>c3 (by rw[h0] at z;exact Option.some.inj z.1)
    · have: ¬ ∀c∈tl w,c∈tl (Str.ofString "0123456789"):=fun z=>c1 (List.all_eq_true.mpr fun c hc=>(dig_mem c).symm.trans (decide_eq_true (z c hc)))
      rw[decide_eq_true (by have:=outs_len.mpr this;omega),if_t,nn]
      unfold numW;rw[if_neg fun z=>c1 z.2.1]
def goL:Int→List Str→Bool
  | _,[]=>true
  | a,w::ws=>if okW (numW w)=true∧a<valW w then goL (valW w) ws else false
theorem go_loop {f:Str→Int×Unit→W K (Flow (Int×Unit) Bool)}: ∀ {ws:List Str} {a:Int},(∀w∈ws,∀s,f w s=ret (stepL w s.1))→
    (bnd (forW nI f ws (a,())) fun x=>outW (aft (fun s6=>TL.ret (Flow.rt true)) x) none)=ret (goL a ws)
  | [],a,h=>by
    funext Q E S
    exact propext ⟨fun h=>h.2,fun h=>⟨trivial,h⟩⟩
  | w::ws,a,h=>by
    have ih:=go_loop (f:=f) (ws:=ws) (a:=valW w) fun y m=>h y (List.mem_cons_of_mem _ m)
    have hw:=h w List.mem_cons_self (a,())
    unfold goL
    by_cases c:okW (numW w)=true∧a<valW w
    · rw[if_pos c,← ih,for_cons (s':=(valW w,())) (by rw[hw];unfold stepL;rw[if_pos c])]
    · rw[if_neg c]
      have e:f w (a,())=ret (Flow.rt false):=by rw[hw];unfold stepL;rw[if_neg c]
      funext Q E S
      refine propext ⟨fun h=> ?_,fun h=>⟨trivial,?_⟩⟩
      · have h:=h.2
        rw[e] at h;exact h
      · rw[e];exact h
theorem go_eq: ∀(ws:List Str) (a:Int),goL a ws=((((ws.map numW).map okW).all id && (((ws.map numW).zip ((ws.map numW).drop 1)).map ltW).all id) && (match ws with | w::_=>decide (a<valW w) | []=>true))
  | [],a=>rfl
  | w::ws,a=>by
    have ih:=go_eq ws (valW w)
    unfold goL
    dsimp only
    cases e:numW w with
    | none=>
      rw[if_neg fun z=>by cases z.1]
      simp[okW,e]
    | some n=>
      have ev:valW w=n:=by unfold valW;rw[e];rfl
      rw[ev] at ih ⊢
      cases ho:okW (some n) with
      | false=>rw[if_neg fun z=>by cases z.1];simp[ho,e]
      | true=>
        by_cases c:a<n
        · rw[if_pos ⟨rfl,c⟩,ih,decide_eq_true c]
          cases ws with
          | nil=>simp[ho,e]
          | cons v r=>
            cases e2:numW v with
            | none=>simp[ho,e,e2,okW]
            | some m=>
              have ev2:valW v=m:=by unfold valW;rw[e2];rfl
              simp only[List.map_cons,e,e2,List.all_cons,List.drop_succ_cons,List.drop_zero,List.zip_cons_cons,ho,id,Bool.true_and,Bool.and_true,ev2,show ltW (some n,some m)=decide (n<m) from rfl]
              cases okW (some m) <;> cases (List.map okW (List.map numW r)).all id <;> cases decide (n<m) <;> simp
        · rw[if_neg fun z=>c z.2,decide_eq_false c];simp
theorem split_ne (x:Str):Txt.split x "," ≠ []:=fun z=>by
  have h:=PySem.StrLaws.join_split x ","
  rw[z] at h
  have e:Txt.split x "," = [x]:=by
    rw[← h]
    decide +kernel
  rw[z] at e;cases e
theorem cells_back {x:Str} {ns:List Int} (h:cellsW x=some ns):(∀n∈ns,0≤n∧n<40)∧ns.Pairwise (· < ·)∧textL ns=x∧ns.length≤40∧(x≠ "-" →(Txt.split x ",").map valW=ns∧ ∀w∈Txt.split x ",",numW w=some (valW w)):=by
  unfold cellsW at h
  by_cases c:x= "-"
  · rw[if_pos c] at h
    cases h
    exact⟨fun n hn=>(nomatch hn),.nil,by rw[c];rfl,Nat.zero_le _,fun z=>absurd c z⟩
  · rw[if_neg c] at h
    split at h
    · rename_i c1
      split at h
      · rename_i c2
        obtain rfl:=Option.some.inj h
        have so:=all_some c1
        have vals: ∀w∈Txt.split x ",",numW w=some (valW w)∧valW w<40:=fun w hw=>by
          have:=List.all_eq_true.mp c1 (okW (numW w)) (List.mem_map.mpr ⟨_,List.mem_map.mpr ⟨w,hw,rfl⟩,rfl⟩)
          cases e:numW w with
          | none=>rw[e] at this;cases this
          | some n=>
            have ev:valW w=n:=by unfold valW;rw[e];rfl
            rw[e] at this
            exact⟨by rw[ev],by rw[ev];exact of_decide_eq_true this⟩
        have em:((Txt.split x ",").map numW).filterMap id=(Txt.split x ",").map valW:=by
          have:(Txt.split x ",").map numW=((Txt.split x ",").map valW).map some:=by
            rw[List.map_map]
            exact List.map_congr_left fun w hw=>(vals w hw).1
          rw[this,List.filterMap_map];simp
        rw[em] at so ⊢
        have rg: ∀n∈(Txt.split x ",").map valW,0≤n∧n<40:=fun n hn=>by
          obtain⟨w,hw,rfl⟩:=List.mem_map.mp hn
          obtain⟨h1,h2⟩:=vals w hw
          exact⟨(numW_text h1).1,h2⟩
        have asc:((Txt.split x ",").map valW).Pairwise (· < ·):=by
          rw[so,sli_drop _ (by decide)] at c2
          clear so em c1 rg vals
          generalize (Txt.split x ",").map valW=l at c2
          have go: ∀l:List Int,(((l.map some).zip ((l.map some).drop 1)).map ltW).all id=true→l.Pairwise (· < ·):=fun l=>by
            induction l with
            | nil=>exact fun _=> .nil
            | cons a r ih=>
              intro h
              cases r with
              | nil=>exact List.pairwise_singleton _ _
              | cons b r=>
                simp only[List.map_cons,List.drop_succ_cons,List.drop_zero,List.zip_cons_cons,List.all_cons,Bool.and_eq_true] at h ih
                have p:=ih h.2
                have ab:a<b:=of_decide_eq_true h.1
                refine List.pairwise_cons.mpr ⟨fun z hz=> ?_,p⟩
                rcases List.mem_cons.mp hz with rfl | hz
                · exact ab
                · have:=(List.pairwise_cons.mp p).1 z hz;omega
          exact go l c2
        refine⟨rg,asc,?_,?_,fun _=>⟨rfl,fun w hw=>(vals w hw).1⟩⟩
        · unfold textL
          rw[if_neg fun z=>split_ne x (List.map_eq_nil_iff.mp z),List.map_map]
          have:(Txt.split x ",").map ((fun n:Int=>(toString n:Str)) ∘ valW)=Txt.split x "," :=by
            conv=>rhs;rw[← List.map_id (Txt.split x ",")]
            exact List.map_congr_left fun w hw=>(numW_text (vals w hw).1).2.1.symm
          rw[this,TL.join_eq,PySem.StrLaws.join_split]
        · have:=asc_len rg asc (by decide);omega
      · cases h
    · cases h
theorem v_law_are_cells {x:Str} (hl:x.length≤49990):w__law_are_cells K cl (x,())=ret (cellsW x).isSome:=by
  unfold w__law_are_cells
  wtm_at "m"
  by_cases c:x= "-"
  · rw[show decide (x=Str.ofString "-")=true from decide_eq_true c,if_t]
    unfold cellsW
    rw[if_pos c];rfl
  · rw[show decide (x=Str.ofString "-")=false from decide_eq_false c,if_f,ass_t ⟨by decide +kernel,by omega⟩]
    refine (go_loop fun w hw s=>word_step (Nat.le_trans (split_part hw) (by omega))).trans ?_
    rw[go_eq]
    unfold cellsW
    rw[if_neg c,sli_drop _ (by decide),show Int.toNat 1=1 from rfl]
    have pos: ∀w,okW (numW w)=true→decide ((-1:Int)<valW w)=true:=fun w h=>by
      cases e:numW w with
      | none=>rw[e] at h;cases h
      | some n=>
        have ev:valW w=n:=by unfold valW;rw[e];rfl
        rw[ev];exact decide_eq_true (by have:=(numW_text e).1;omega)
    show ret (((((Txt.split x ",").map numW).map okW).all id && ((((Txt.split x ",").map numW).zip (((Txt.split x ",").map numW).drop 1)).map ltW).all id) && (match Txt.split x "," with | w::_=>decide (-1<valW w) | []=>true))=_
    cases c1:((((Txt.split x ",").map numW).map okW).all id) with
    | false=>rw[if_neg (by simp)];simp
    | true=>
      rw[if_pos rfl]
      have hd:(match Txt.split x "," with | w::_=>decide (-1<valW w) | []=>true)=true:=by
        cases e:Txt.split x "," with
        | nil=>rfl
        | cons w r=>
          refine pos w ?_
          rw[e] at c1
          simp only[List.map_cons,List.all_cons,Bool.and_eq_true] at c1
          exact c1.1
      rw[hd]
      cases c2:((((Txt.split x ",").map numW).zip (((Txt.split x ",").map numW).drop 1)).map ltW).all id with
      | false=>rw[if_neg (by simp)];rfl
      | true=>rw[if_pos (by rfl)];rfl
theorem v_law_own_spots {x:Str} {ns:List Int} (hl:x.length≤49990) (h:cellsW x=some ns):w__law_own_spots K cl (x,())=ret ns:=by
  have ls:=PyProof.Rows.split_le x ","
  unfold w__law_own_spots
  wtm_at "m"
  by_cases c:x= "-"
  · rw[show decide (x=Str.ofString "-")=true from decide_eq_true c,if_t]
    unfold cellsW at h
    rw[if_pos c] at h
    cases h;rfl
  · obtain⟨e,hv⟩:=(cells_back h).2.2.2.2 c
    rw[show decide (x=Str.ofString "-")=false from decide_eq_false c,if_f,ass_t ⟨by decide +kernel,by omega⟩,ass_t (by show (Txt.split x ",").length≤50000;omega)]
    show wCalm (fmapW nI _ _ (Txt.split x ","))=_
    rw[fmap_all (f':=valW) fun w hw=>by
      obtain⟨_,_,h1,h2,_⟩:=numW_text (hv w hw)
      exact int_ret h1 (by omega),calm_ret,e]
def Raises {α:Type} (m:W K α) (S:Store K) (e:Err K):Prop:= ∀(Q:α→Store K→Prop) (E:Err K→Store K→Prop),(∀S',TL.Ext S S'→E e S')→m Q E S
theorem from_eq {α:Type} {C:Addr} {x:List (Str×Dm K)} {m:W K α}:wFrom C (C,x) m=m:=by
  funext Q E S
  exact propext ⟨fun h=>h.2,fun h=>⟨rfl,h⟩⟩
theorem ok_iff {x:Str}:PyData.strOk x=true↔ ∀c∈tl x,c<0x110000:=by
  unfold PyData.strOk
  rw[← Array.all_toList,List.all_eq_true]
  exact⟨fun h c hc=>of_decide_eq_true (h c hc),fun h c hc=>decide_eq_true (h c hc)⟩
theorem gt_is:(">" :Str)=⟨#[62]⟩:=by decide +kernel
theorem tl_gt:tl (">" :Str)= [62]:=by decide +kernel
theorem part_cases (x:Str):(62 ∉ tl x∧Txt.partition x ">" =(x,Str.empty,Str.empty))∨ ∃l r,62 ∉ tl l∧x=l++ ">" ++r∧Txt.partition x ">" =(l,(">" :Str),r):=by
  by_cases h:62∈tl x
  · obtain⟨as,bs,e,na⟩:=List.eq_append_cons_of_mem h
    have e2:x=(⟨as.toArray⟩:Str)++ ">" ++⟨bs.toArray⟩:=by
      refine str_tl ?_
      rw[tl_append,tl_append,tl_gt,e]
      show _=as.toArray.toList++ [62]++bs.toArray.toList
      simp
    have na2:62 ∉ tl (⟨as.toArray⟩:Str):=by show 62 ∉ as.toArray.toList;simpa using na
    refine .inr ⟨_,_,na2,e2,?_⟩
    rw[e2]
    exact partition_app (s:=62) (S:= []) tl_gt na2
  · exact .inl ⟨h,partition_none (s:=62) (S:= []) tl_gt h⟩
theorem part_one {l r p q:Str} (h:l++ ">" ++r=p++ ">" ++q) (nl:62 ∉ tl l) (np:62 ∉ tl p):l=p∧r=q:=by
  have e1:=partition_app (s:=62) (S:= []) tl_gt (b:=r) nl
  have e2:=partition_app (s:=62) (S:= []) tl_gt (b:=q) np
  rw[h,e2] at e1
  exact⟨(congrArg (·.1) e1).symm,(congrArg (·.2.2) e1).symm⟩
theorem odd_cells {ts gs:List Int} (tr: ∀t∈ts,0≤t∧t<40) (ta:ts.Pairwise (· < ·)) (gr: ∀g∈gs,0≤g∧g<40) (ga:gs.Pairwise (· < ·)):
    oddN ((maskI ts).toNat &&& (maskI gs).toNat)=decide ((ts.filter fun t=>decide (t∈gs)).length % 2=1):=by
  have tn:ts.Nodup:=ta.imp fun h=>by omega
  have gn:gs.Nodup:=ga.imp fun h=>by omega
  unfold oddN
  rw[pop_and (fun t ht=>by have:=tr t ht;omega) tn]
  have e:(ts.filter fun i=>(maskI gs).toNat.testBit i.toNat)=ts.filter fun t=>decide (t∈gs):=by
    apply List.filter_congr
    intro t ht
    rw[mask_bit _ (fun g hg=>(gr g hg).1) gn]
    have:=(tr t ht).1
    rw[show ((t.toNat:Nat):Int)=t by omega]
  rw[e]
def FlipT (x:Str):Prop:= ∃t g,FlipOk t g∧x=pairText (bitsL t) (bitsL g)
def FlipNo (x:Str):Prop:= ∀l r ts gs,x=l++ ">" ++r→62 ∉ tl l→cellsW l=some ts→cellsW r=some gs→0∈gs∨oddN ((maskI ts).toNat &&& (maskI gs).toNat)=true
theorem v_law_is_flip {x:Str} (hl:x.length≤49990): ∃b,(w__law_is_flip K cl (x,())=(TL.ret b:W K Bool))∧(b=true→FlipT x)∧(b=false→FlipNo x):=by
  have back: ∀ {l r:Str} {ts gs:List Int},x=l++ ">" ++r→62 ∉ tl l→cellsW l=some ts→cellsW r=some gs→Txt.split x ">" = [l,r]:=fun {l r ts gs} e nl h1 h2=>by
    have nr:62 ∉ tl r:=by rw[← (cells_back h2).2.2.1];exact textL_free fun n hn=>((cells_back h2).1 n hn).1
    have:=split_join (y:=(">" :Str)) (s:=62) (S:= []) tl_gt (by decide +kernel) (parts:= [l,r]) (by simp) fun p hp=>by
      rcases List.mem_cons.mp hp with rfl | hp
      · exact nl
      · rw[List.mem_singleton.mp hp];exact nr
    rw[TL.join_eq] at this
    rw[e];exact this
  have free:=PySem.StrLaws.split_free x 62
  have jn:=PySem.StrLaws.join_split x ">"
  rw[← gt_is] at free
  unfold w__law_is_flip
  wtm_at "m"
  rw[ass_t ⟨by decide +kernel,by omega⟩]
  have plen: ∀p∈Txt.split x ">",p.length≤49990:=fun p hp=>Nat.le_trans (split_part hp) hl
  generalize hps:Txt.split x ">" =ps at free jn plen
  show ∃b,(wIf (decide ((ps.length:Int)=2)) _ _:W K Bool)=TL.ret b∧_
  by_cases two:ps.length=2
  · obtain⟨p,q,rfl⟩: ∃p q,ps= [p,q]:=by
      match ps,two with
      | [p,q],_=>exact⟨p,q,rfl⟩
    have ex:x=p++ ">" ++q:=jn.symm
    have np:62 ∉ tl p:=free p List.mem_cons_self
    have one: ∀ {l r:Str},x=l++ ">" ++r→62 ∉ tl l→l=p∧r=q:=fun e nl=>part_one (e.symm.trans ex) nl np
    rw[decide_eq_true (show (([p,q].length:Nat):Int)=2 from rfl),if_t,ix_eq (x:=p) (by decide) rfl,ix_eq (x:=q) (by decide) rfl]
    wtm_at "m"
    rw[v_law_are_cells (plen p (by simp)),ret_bnd]
    cases h1:cellsW p with
    | none=>
      refine⟨false,by rw[show Option.isSome (none:Option (List Int))=false from rfl,if_f],fun z=>(nomatch z),fun _ l r ts gs e nl c1 c2=> ?_⟩
      obtain⟨rfl,rfl⟩:=one e nl
      rw[h1] at c1;cases c1
    | some ts=>
      rw[show Option.isSome (some ts)=true from rfl,if_t,v_law_are_cells (plen q (by simp)),ret_bnd]
      cases h2:cellsW q with
      | none=>
        refine⟨false,by rw[show Option.isSome (none:Option (List Int))=false from rfl,if_f],fun z=>(nomatch z),fun _ l r ts gs e nl c1 c2=> ?_⟩
        obtain⟨rfl,rfl⟩:=one e nl
        rw[h2] at c2;cases c2
      | some gs=>
        obtain⟨tr,ta,et,tl40,_⟩:=cells_back h1
        obtain⟨gr,ga,eg,gl40,_⟩:=cells_back h2
        have odd:=odd_cells tr ta gr ga
        rw[show Option.isSome (some gs)=true from rfl,if_t,v_law_own_spots (plen p (by simp)) h1,ret_bnd,v_law_own_spots (plen q (by simp)) h2,ret_bnd]
        by_cases z:(0:Int)∈gs
        · refine⟨false,by rw[decide_eq_true z,if_t],fun z=>(nomatch z),fun _ l r ts' gs' e nl c1 c2=> ?_⟩
          obtain⟨rfl,rfl⟩:=one e nl
          rw[h2] at c2;cases c2
          exact .inl z
        · rw[decide_eq_false z,if_f,ass_t (by omega),fmap_filt (c':=fun t=>decide (t∈gs)) fun _ _=>rfl,calm_ret,ret_bnd,ass_t (by decide)]
          refine⟨_,rfl,fun h=> ?_,fun h l r ts' gs' e nl c1 c2=> ?_⟩
          · have h:=of_decide_eq_true h
            have ev:(ts.filter fun t=>decide (t∈gs)).length % 2=0:=by omega
            have ok:PairOk 40 ts gs:=⟨tr,ta,fun g hg=>by
              have:=gr g hg
              have:g≠0:=fun w=>z (w ▸ hg)
              omega,ga,ev⟩
            refine⟨_,_,ok.flip (Nat.le_refl _),?_⟩
            rw[bits_self (fun t ht=>by have:=tr t ht;omega) ta,bits_self (fun g hg=>by have:=gr g hg;omega) ga]
            unfold pairText
            rw[et,eg,ex]
          · obtain⟨rfl,rfl⟩:=one e nl
            rw[h1] at c1;rw[h2] at c2;cases c1;cases c2
            have h:=of_decide_eq_false h
            rw[odd]
            exact .inr (decide_eq_true (by omega))
  · refine⟨false,by rw[decide_eq_false (by omega),if_f],fun z=>(nomatch z),fun _ l r ts gs e nl c1 c2=> ?_⟩
    have:=back e nl c1 c2
    rw[hps] at this
    rw[this] at two
    exact absurd rfl two
theorem v_Flip_no {d u:PyData} {ts gs:List Int} {S:Store K} (hd:cellsD d 40=some ts) (hu:cellsD u 40=some gs) (gn:gs.Nodup) (g0: ∀g∈gs,0≤g) (no:0∈gs∨oddN ((maskI ts).toNat &&& (maskI gs).toNat)=true)
    (hl: ∀ds,seqD d=some ds→ds.length≤50000) (hl': ∀ds,seqD u=some ds→ds.length≤50000) {Q:Nat×Nat→Store K→Prop} {E:Err K→Store K→Prop} (q: ∀why,E (cl.NoFlip,[("why",kS why)]) S):
    (bnd (wMk cl.Flip (w_Flip____init__ K cl) (d,u,())) (wFrz cl.Flip (fs_Flip K cl))) Q E S:=by
  refine mk_ap fun a ha=> ?_
  have out: ∀ {c:Cell K},(S.set a c).del a=S:=fun {c}=>by rw[set_del,del_none ha]
  unfold w_Flip____init__
  wtm_at "m"
  rw[v_cell_mask (by omega) hl,hd]
  wtm_at "m"
  refine setF_ap set_same (by show (0:Nat)<1000;omega) ?_
  rw[v_cell_mask (by omega) hl',hu]
  wtm_at "m"
  refine setF_ap set_same (by show (1:Nat)<1000;omega) ?_
  rw[set_set,set_set]
  refine getF_ap (x:=maskI gs) set_same rfl ?_
  have bit:=mask_bit 0 g0 gn
  have eg:Builtin.bitAnd (maskI gs) 1=if 0∈gs then 1 else 0:=by
    rw[← Int.toNat_of_nonneg (maskI_nn gs),show (1:Int)=((1:Nat):Int) from rfl,and_nn,Nat.and_one_is_mod]
    rw[Nat.testBit_zero] at bit
    by_cases z:(0:Int)∈gs
    · rw[if_pos z]
      have:(maskI gs).toNat % 2=1:=of_decide_eq_true (bit.trans (decide_eq_true z))
      rw[this]
    · rw[if_neg z]
      have: ¬ (maskI gs).toNat % 2=1:=of_decide_eq_false (bit.trans (decide_eq_false z))
      rw[show (maskI gs).toNat % 2=0 by omega];rfl
  rw[eg]
  by_cases z:(0:Int)∈gs
  · rw[if_pos z,decide_eq_true rfl,if_t]
    show E _ _
    rw[out]
    exact q _
  · rw[if_neg z,show decide ((0:Int)=1)=false by decide,if_f]
    wtm_at "m"
    refine getF_ap (x:=maskI ts) set_same rfl ?_
    refine getF_ap (x:=maskI gs) set_same rfl ?_
    rw[← Int.toNat_of_nonneg (maskI_nn gs),← Int.toNat_of_nonneg (maskI_nn ts),and_nn]
    refine v_is_odd.ap fun y e=> ?_
    rw[e,no.resolve_left z,if_t]
    show E _ _
    rw[out]
    exact q _
theorem v_read_flip_no (T:Tx K mg cl) {x:Str} {S:Store K} (hl:x.length≤49990) (ok:PyData.strOk x=true) (h:FlipNo x):Raises (w_read_flip K cl (.str x,())) S (cl.NoText,[("line",kI 0)]):=by
  have as:(TL.wAs PyData.str (.str x):W K Str)=ret x:=by
    funext Q E S
    exact propext ⟨fun⟨y,e,q⟩=>by cases e;exact q,fun q=>⟨_,rfl,q⟩⟩
  have okx:=ok_iff.mp ok
  intro Q E q
  unfold w_read_flip
  wtm_at "m"
  rw[ass_t (show IsTy "str" by unfold IsTy;simp),show isD (.str x) "str" =true from rfl,if_t,as,ret_bnd,ass_t ⟨by decide +kernel,by omega⟩]
  rcases part_cases x with ⟨_,e⟩ | ⟨l,r,nl,ex,e⟩
  · rw[e]
    dsimp only
    rw[v_cells_written hl ok,v_cells_written (by decide) (by decide +kernel)]
    wtm_at "m"
    rw[decide_eq_true (by decide +kernel),if_t]
    exact q S TL.Ext.refl
  · rw[e]
    dsimp only
    have tx:tl x=tl l++tl (">" :Str)++tl r:=by rw[ex,tl_append,tl_append]
    have ll:l.length≤x.length:=by rw[← tl_len,← tl_len,tx];simp
    have lr:r.length≤x.length:=by rw[← tl_len,← tl_len,tx];simp;omega
    have okl:PyData.strOk l=true:=ok_iff.mpr fun c hc=>okx c (by rw[tx];simp[hc])
    have okr:PyData.strOk r=true:=ok_iff.mpr fun c hc=>okx c (by rw[tx];simp[hc])
    rw[v_cells_written (by omega) okl,v_cells_written (by omega) okr]
    wtm_at "m"
    rw[decide_eq_false (by decide +kernel),if_f]
    cases h1:cellsW l with
    | none=>
      rw[show Option.isNone (none:Option (List Int))=true from rfl,if_t]
      exact q S TL.Ext.refl
    | some ts=>
      rw[show Option.isNone (some ts)=false from rfl,if_f]
      cases h2:cellsW r with
      | none=>
        rw[show Option.isNone (none:Option (List Int))=true from rfl,if_t]
        exact q S TL.Ext.refl
      | some gs=>
        rw[show Option.isNone (some gs)=false from rfl,if_f]
        have no:=h l r ts gs ex nl h1 h2
        obtain⟨tr,ta,et,tl40,_⟩:=cells_back h1
        obtain⟨gr,ga,eg,gl40,_⟩:=cells_back h2
        rw[← bnd_bnd]
        refine v_Flip_no (d:= .tuple (ts.map .int)) (u:= .tuple (gs.map .int)) (cells_asc tr ta).1 (cells_asc gr ga).1 (ga.imp fun h=>by omega) (fun g hg=>(gr g hg).1) no (fun ds e=>by cases e;rw[List.length_map];omega) (fun ds e=>by cases e;rw[List.length_map];omega) fun why=> ?_
        wtm_at "e"
        rw[from_eq]
        exact q S TL.Ext.refl
theorem v_read_flip_any {d:PyData} (h:isD d "str" =false):w_read_flip K cl (d,())=wRaise (cl.NoText,[("line",kI 0)]):=by
  unfold w_read_flip
  wtm_at "m"
  rw[ass_t (show IsTy "str" by unfold IsTy;simp),h,if_f]
theorem v_read_board_any {d:PyData} (h:isD d "str" =false):w_read_board K cl (d,())=wRaise (cl.NoText,[("line",kI 0)]):=by
  unfold w_read_board
  wtm_at "m"
  rw[ass_t (show IsTy "str" by unfold IsTy;simp),h,if_f]
theorem v_read_cells_any {d:PyData} (h:isD d "str" =false):w_read_cells K cl (d,())=wRaise (cl.NoText,[("line",kI 0)]):=by
  unfold w_read_cells
  wtm_at "m"
  rw[v_cells_written_no h,ret_bnd]
  rfl
def BoT (x:Str):Prop:=1≤x.length∧x.length≤40∧(tl x)[0]?=some 49∧ ∀c∈tl x,c=48∨c=49
theorem bo_text {x:Str} (h:BoT x): ∃n m,1≤n∧n≤40∧m<2 ^ n∧m.testBit 0=true∧x=boardText n m:=by
  obtain⟨h1,h40,h0,hc⟩:=h
  have len:=tl_len x
  let ups:List Int:=((List.range x.length).filter fun i=>decide ((tl x)[i]?=some 49)).map fun i:Nat=>(i:Int)
  have mem: ∀i:Nat,(i:Int)∈ups↔i<x.length∧(tl x)[i]?=some 49:=fun i=>by
    constructor
    · intro h
      obtain⟨j,hj,e⟩:=List.mem_map.mp h
      rw[List.mem_filter,List.mem_range] at hj
      have:j=i:=by omega
      rw[← this];exact⟨hj.1,of_decide_eq_true hj.2⟩
    · rintro ⟨h,e⟩
      exact List.mem_map.mpr ⟨i,List.mem_filter.mpr ⟨List.mem_range.mpr h,decide_eq_true e⟩,rfl⟩
  have rg: ∀g∈ups,0≤g∧g<x.length:=fun g hg=>by
    obtain⟨j,hj,rfl⟩:=List.mem_map.mp hg
    rw[List.mem_filter,List.mem_range] at hj
    omega
  have nd:ups.Nodup:=by
    refine List.Pairwise.map _ (fun a b h=> ?_) (List.nodup_range.filter _)
    omega
  have bit: ∀i:Nat,(maskI ups).toNat.testBit i=decide (i<x.length∧(tl x)[i]?=some 49):=fun i=>by
    rw[mask_bit i (fun g hg=>(rg g hg).1) nd]
    exact decide_eq_decide.mpr (mem i)
  refine⟨x.length,(maskI ups).toNat,h1,h40,mask_lt rg nd,by rw[bit];exact decide_eq_true ⟨by omega,h0⟩,?_⟩
  have sb:=signs_board x.length (maskI ups).toNat
  have sx:TL.signs x=(List.range x.length).map fun i=>bitS (maskI ups).toNat i:=by
    refine List.ext_getElem? fun i=> ?_
    unfold TL.signs
    rw[List.getElem?_map,List.getElem?_map]
    by_cases hi:i<x.length
    · rw[List.getElem?_range hi]
      obtain⟨c,hm⟩: ∃c,(tl x)[i]?=some c:=⟨_,List.getElem?_eq_getElem (by omega)⟩
      have e:x.cps.toList[i]?=some c:=hm
      rw[e]
      refine congrArg some ?_
      show (⟨#[c]⟩:Str)=bitS (maskI ups).toNat i
      unfold bitS bitI
      rw[bit i,hm]
      rcases hc c (List.mem_of_getElem? hm) with rfl | rfl
      · rw[decide_eq_false (by rintro ⟨_,w⟩;cases w)];decide +kernel
      · rw[decide_eq_true ⟨hi,rfl⟩];decide +kernel
    · have e:x.cps.toList[i]?=none:=List.getElem?_eq_none (by have:x.cps.toList.length=x.length:=len;omega)
      rw[e,List.getElem?_eq_none (by simp;omega)]
      rfl
  have inj: ∀a b:Str,TL.signs a=TL.signs b→a=b:=fun a b h=>by
    refine str_tl ?_
    unfold TL.signs at h
    exact (List.map_inj_right fun c d e=>by injection e with e;simpa using e).mp h
  exact inj _ _ (sx.trans sb.symm)
theorem v_law_is_board {x:Str} (hl:x.length≤49990): ∃b,(w__law_is_board K cl (x,())=(TL.ret b:W K Bool))∧(b=true↔BoT x):=by
  have len:=tl_len x
  unfold w__law_is_board
  wtm_at "m"
  rw[ass_t (by omega)]
  by_cases h1:1≤x.length
  · rw[decide_eq_true (by omega),if_t]
    by_cases h40:x.length≤40
    · obtain⟨c,h0⟩: ∃c,(tl x)[0]?=some c:=⟨_,List.getElem?_eq_getElem (by omega)⟩
      have i0:wIxS (K:=K) x 0=ret ⟨#[c]⟩:=ixS_ret (i:=0) (by omega) h0
      rw[decide_eq_true (by omega),if_t,i0,ret_bnd,sign_is c 49 _ (by decide +kernel)]
      by_cases hc:c=49
      · rw[decide_eq_true hc,if_t,ass_t (by rw[signs_len];omega),outs_eq,calm_ret,ret_bnd]
        have in01: ∀c,c∈tl (Str.ofString "01")↔c=48∨c=49:=fun c=>by
          rw[show tl (Str.ofString "01")= [48,49] by decide +kernel];simp
        by_cases all: ∀c∈tl x,c∈tl (Str.ofString "01")
        · have:=(not_congr (outs_len (x:=x) (y:=Str.ofString "01"))).mpr (fun z=>z all)
          exact⟨true,by rw[decide_eq_true (by omega)],fun _=>⟨h1,h40,by rw[h0,hc],fun c hc=>(in01 c).mp (all c hc)⟩,fun _=>rfl⟩
        · have:=(outs_len (x:=x) (y:=Str.ofString "01")).mpr all
          exact⟨false,by rw[decide_eq_false (by omega)],fun z=>(nomatch z),fun z=>absurd (fun c hc=>(in01 c).mpr (z.2.2.2 c hc)) all⟩
      · exact⟨false,by rw[decide_eq_false hc,if_f],fun z=>(nomatch z),fun z=>absurd (by have:=z.2.2.1;rw[h0] at this;exact Option.some.inj this) hc⟩
    · exact⟨false,by rw[decide_eq_false (by omega),if_f],fun z=>(nomatch z),fun z=>absurd z.2.1 h40⟩
  · exact⟨false,by rw[decide_eq_false (by omega),if_f],fun z=>(nomatch z),fun z=>absurd z.1 h1⟩
theorem v_read_board_no {x:Str} {S:Store K} (hl:x.length≤49990) (h: ¬ BoT x):Raises (w_read_board K cl (.str x,())) S (cl.NoText,[("line",kI 0)]):=by
  have len:=tl_len x
  have as:(TL.wAs PyData.str (.str x):W K Str)=ret x:=by
    funext Q E S
    exact propext ⟨fun⟨y,e,q⟩=>by cases e;exact q,fun q=>⟨_,rfl,q⟩⟩
  intro Q E q
  unfold w_read_board
  wtm_at "m"
  rw[ass_t (show IsTy "str" by unfold IsTy;simp),show isD (.str x) "str" =true from rfl,if_t,as,ret_bnd,ass_t (by omega)]
  by_cases h1:1≤x.length
  · rw[decide_eq_true (by omega),if_t]
    by_cases h40:x.length≤40
    · obtain⟨c,h0⟩: ∃c,(tl x)[0]?=some c:=⟨_,List.getElem?_eq_getElem (by omega)⟩
      have i0:wIxS (K:=K) x 0=ret ⟨#[c]⟩:=ixS_ret (i:=0) (by omega) h0
      rw[decide_eq_true (by omega),if_t,ret_bnd,i0,ret_bnd,sign_is c 49 _ (by decide +kernel)]
      by_cases hc:c=49
      · rw[decide_eq_true hc,if_t,ret_bnd,ass_t (by rw[signs_len];omega),fmap_ret,calm_ret,ret_bnd]
        have:((TL.signs x).map fun s=>decide (s∈ [Str.ofString "0",Str.ofString "1"])).all id=false:=by
          rw[Bool.eq_false_iff]
          intro all
          refine h ⟨h1,h40,by rw[h0,hc],fun d hd=> ?_⟩
          have:=List.all_eq_true.mp all _ (List.mem_map.mpr ⟨⟨#[d]⟩,List.mem_map.mpr ⟨d,hd,rfl⟩,rfl⟩)
          have:=of_decide_eq_true this
          rw[show Str.ofString "0" =⟨#[48]⟩ by decide +kernel,show Str.ofString "1" =⟨#[49]⟩ by decide +kernel] at this
          simp only[List.mem_cons,List.not_mem_nil,or_false] at this
          rcases this with z | z
          · exact .inl (by injection z with z;simpa using z)
          · exact .inr (by injection z with z;simpa using z)
        rw[this,if_f]
        exact q S TL.Ext.refl
      · rw[decide_eq_false hc,if_f]
        exact q S TL.Ext.refl
    · rw[decide_eq_false (by omega),if_f]
      exact q S TL.Ext.refl
  · rw[decide_eq_false (by omega),if_f]
    exact q S TL.Ext.refl
def TxtOf (i:Int) (x:Str):Prop:=(i=0∧(cellsW x).isSome=true)∨(i=1∧FlipT x)∨(i=2∧BoT x)
def TxtNo (i:Int) (x:Str):Prop:=(i=0∧(cellsW x).isSome=false)∨(i=1∧FlipNo x)∨(i=2∧ ¬ BoT x)
theorem v_read_yes {i:Int} {x:Str} {S:Store K} (hl:x.length≤49990) (ok:PyData.strOk x=true) (h:TxtOf i x):Spec (w__law_read K cl (i,.str x,())) S (· =x):=by
  intro Q E q
  unfold w__law_read
  wtm_at "m"
  rcases h with ⟨rfl,h⟩ | ⟨rfl,t,g,h,rfl⟩ | ⟨rfl,h⟩
  · obtain⟨ns,e⟩:=Option.isSome_iff_exists.mp h
    obtain⟨rg,asc,et,l40,_⟩:=cells_back e
    rw[decide_eq_true rfl,if_t,v_read_cells hl ok,e]
    dsimp only
    rw[ret_bnd,v_cells_text (show cellsD (.tuple (ns.map .int)) 40=some ns from (cells_asc (s:=40) rg asc).1) (fun ds e=>by cases e;rw[List.length_map];omega) rg (by omega),et]
    exact q _ rfl
  · rw[decide_eq_false (by decide),if_f,decide_eq_true rfl,if_t]
    refine (v_read_flip h).ap fun y hy=> ?_
    subst hy
    rw[v_flip_text (Nat.lt_trans h.lt (by decide)) (Nat.lt_trans h.lg (by decide))]
    exact q _ rfl
  · obtain⟨n,m,n1,n40,hm,od,rfl⟩:=bo_text h
    rw[decide_eq_false (by decide),if_f,decide_eq_false (by decide),if_f]
    refine (v_read_board n1 n40 hm od).ap fun y hy=> ?_
    subst hy
    rw[v_board_text n40]
    exact q _ rfl
theorem v_read_no (T:Tx K mg cl) {i:Int} {x:Str} {S:Store K} (hl:x.length≤49990) (ok:PyData.strOk x=true) (h:TxtNo i x):Raises (w__law_read K cl (i,.str x,())) S (cl.NoText,[("line",kI 0)]):=by
  intro Q E q
  unfold w__law_read
  wtm_at "m"
  rcases h with ⟨rfl,h⟩ | ⟨rfl,h⟩ | ⟨rfl,h⟩
  · have e:cellsW x=none:=by cases e:cellsW x with | none=>rfl | some ns=>rw[e] at h;cases h
    rw[decide_eq_true rfl,if_t,v_read_cells hl ok,e]
    exact q S TL.Ext.refl
  · rw[decide_eq_false (by decide),if_f,decide_eq_true rfl,if_t]
    exact v_read_flip_no T hl ok h _ _ q
  · rw[decide_eq_false (by decide),if_f,decide_eq_false (by decide),if_f]
    exact v_read_board_no hl h _ _ q
theorem v_read_odd {i:Int} {d:PyData} (h:isD d "str" =false):w__law_read K cl (i,d,())=wRaise (cl.NoText,[("line",kI 0)]):=by
  unfold w__law_read
  wtm_at "m"
  rw[v_read_cells_any h,v_read_flip_any h,v_read_board_any h]
  wtm_at "m"
  by_cases c:i=0
  · rw[decide_eq_true c,if_t]
  · rw[decide_eq_false c,if_f]
    by_cases c:i=1
    · rw[decide_eq_true c,if_t]
    · rw[decide_eq_false c,if_f]
theorem told_read {i:Int} {x:Str} {S:Store K} (h:Spec (w__law_read K cl (i,.str x,())) S (· =x)):Spec (w__law_told K cl (i,.str x,())) S (· = [.str "read",.str x]):=by
  intro Q E q
  unfold w__law_told
  wtm_at "m"
  refine h _ _ fun y hy=> ?_
  subst hy
  exact q _ rfl
theorem told_no (T:Tx K mg cl) {i:Int} {d:PyData} {S:Store K} (h:Raises (w__law_read K cl (i,d,())) S (cl.NoText,[("line",kI 0)])):SpecX (w__law_told K cl (i,d,())) S (· = [.str "no",.int 0,.bool false]):=by
  intro Q E q
  unfold w__law_told
  wtm_at "m"
  refine h _ _ fun S' x=> ?_
  wtm_at "e"
  wtm_at "m"
  exact xf_of rfl (q _ S' x rfl)
theorem v_law_due {i:Int} {x:Str} (hi:0≤i∧i<3) (hl:x.length≤49990): ∃b,(w__law_due K cl (i,.str x,())=(TL.ret (if b=true then [.str "read",.str x] else [.str "no",.int 0,.bool false]):W K (List PyData)))∧(b=true→TxtOf i x)∧(b=false→TxtNo i x):=by
  have as:(TL.wAs PyData.str (.str x):W K Str)=ret x:=by
    funext Q E S
    exact propext ⟨fun⟨y,e,q⟩=>by cases e;exact q,fun q=>⟨_,rfl,q⟩⟩
  have sel: ∀ {ws:List (Str×Unit→W K Bool)} {k:Nat} {w:Str×Unit→W K Bool} {z:Str×Unit},ws[k]?=some w→wSel ws k z=w z:=fun {ws k w z} e=>by
    funext Q E S
    refine propext ⟨fun⟨w',e',q⟩=> ?_,fun q=>⟨w,e,q⟩⟩
    rw[e] at e';cases e';exact q
  have fin: ∀b:Bool,(wIf b (TL.ret [PyData.str (Str.ofString "read"),PyData.str x]) (TL.ret [PyData.str (Str.ofString "no"),PyData.int 0,PyData.bool false]):W K _)=TL.ret (if b=true then [.str "read",.str x] else [.str "no",.int 0,.bool false]):=fun b=>by
    cases b
    · rw[if_f,if_neg (by simp)]
    · rw[if_t,if_pos rfl]
  unfold w__law_due
  wtm_at "m"
  rw[ass_t (show IsTy "str" by unfold IsTy;simp),show isD (.str x) "str" =true from rfl,if_t,as]
  have:i=0∨i=1∨i=2:=by omega
  rcases this with rfl | rfl | rfl
  · rw[ix_eq (x:=0) (by decide) rfl,ret_bnd,ret_bnd,sel (w:=w__law_are_cells K cl) rfl,v_law_are_cells hl,ret_bnd,fin]
    exact⟨_,rfl,fun h=> .inl ⟨rfl,h⟩,fun h=> .inl ⟨rfl,h⟩⟩
  · obtain⟨b,e,h1,h2⟩:=v_law_is_flip (K:=K) (cl:=cl) hl
    rw[ix_eq (x:=1) (by decide) rfl,ret_bnd,ret_bnd,sel (w:=w__law_is_flip K cl) rfl,e,ret_bnd,fin]
    exact⟨_,rfl,fun h=> .inr (.inl ⟨rfl,h1 h⟩),fun h=> .inr (.inl ⟨rfl,h2 h⟩)⟩
  · obtain⟨b,e,h1⟩:=v_law_is_board (K:=K) (cl:=cl) hl
    rw[ix_eq (x:=2) (by decide) rfl,ret_bnd,ret_bnd,sel (w:=w__law_is_board K cl) rfl,e,ret_bnd,fin]
    exact⟨_,rfl,fun h=> .inr (.inr ⟨rfl,h1.mp h⟩),fun h=> .inr (.inr ⟨rfl,fun z=>by rw[h1.mpr z] at h;cases h⟩)⟩
structure TxA (b:Nat) (x:Str):Prop where
  len:x.length≤b
  al: ∀c∈tl x,c<128
section
variable {a b : Nat} {x y : Str}
theorem TxA.ok (h:TxA b x):PyData.strOk x=true:=ok_iff.mpr fun c hc=>by have:=h.al c hc;omega
theorem TxA.mono (h:TxA a x) (l:a≤b):TxA b x:=⟨Nat.le_trans h.len l,h.al⟩
theorem TxA.app (h:TxA a x) (g:TxA b y):TxA (a+b) (x++y):=⟨by rw[len_app];have:=h.len;have:=g.len;omega,fun c hc=>by
  rw[tl_append] at hc
  exact (List.mem_append.mp hc).elim (h.al c) (g.al c)⟩
theorem TxA.cut (h:TxA b x) (lo hi:Option Int):TxA b (cutS x lo hi):=⟨Nat.le_trans (cutS_length x lo hi) h.len,fun c hc=>h.al c (by
  unfold cutS tl at hc
  rw[List.toList_toArray] at hc
  exact List.mem_of_mem_drop (List.mem_of_mem_take hc))⟩
theorem TxA.rev (h:TxA b x):TxA b (revS x):=⟨by rw[revS_len];exact h.len,fun c hc=>h.al c (by
  unfold revS tl at hc
  rw[List.toList_toArray,List.mem_reverse] at hc
  exact hc)⟩
theorem TxA.low (h:TxA b x):TxA b (Txt.lower x):=by
  obtain⟨l,q⟩:=lower_low (x:=x) h.al
  exact⟨by rw[l];exact h.len,q⟩
theorem TxA.lit {b:Nat} {x:Str} (l:x.length≤b:=by decide +kernel) (h:(tl x).all (fun c=>decide (c<128))=true:=by decide +kernel):TxA b x:=⟨l,fun c hc=>of_decide_eq_true (List.all_eq_true.mp h c hc)⟩
end
theorem joinL_mem {s:List Nat} {c:Nat}: ∀ {ps:List (List Nat)},c∈joinL s ps→c∈s∨ ∃p∈ps,c∈p
  | [],h=>by cases h
  | [p],h=> .inr ⟨p,List.mem_cons_self,h⟩
  | p::q::r,h=>by
    rcases List.mem_append.mp h with h | h
    · exact .inr ⟨p,List.mem_cons_self,h⟩
    · rcases List.mem_append.mp h with h | h
      · exact .inl h
      · exact (joinL_mem (ps:=q::r) h).imp_right fun⟨p',m,h⟩=>⟨p',List.mem_cons_of_mem _ m,h⟩
theorem mem_joinL {s:List Nat} {c:Nat} {p:List Nat} (hc:c∈p): ∀ {ps:List (List Nat)},p∈ps→c∈joinL s ps
  | [q],h=>by rw[← List.mem_singleton.mp h];exact hc
  | q::r::t,h=>by
    rcases List.mem_cons.mp h with rfl | h
    · exact List.mem_append_left _ hc
    · exact List.mem_append_right _ (List.mem_append_right _ (mem_joinL hc h))
theorem sum_join (y:Str): ∀ws:List Str,(ws.map fun w=>w.length).sum≤(Str.join y ws).length
  | []=>Nat.zero_le _
  | [w]=>by simp[Str.join]
  | w::v::r=>by
    have ih:=sum_join y (v::r)
    show w.length+((v::r).map fun w=>w.length).sum≤(w++y++Str.join y (v::r)).length
    rw[len_app,len_app]
    omega
theorem words_of {b:Nat} {x:Str} (h:TxA b x):(∀w∈Txt.split x ",",TxA b w)∧((Txt.split x ",").map fun w=>w.length).sum≤b∧(Txt.split x ",").length≤b+2:=by
  have jn:=PySem.StrLaws.join_split x ","
  have tj:=tl_join "," (Txt.split x ",")
  rw[jn] at tj
  refine⟨fun w hw=>⟨Nat.le_trans (split_part hw) h.len,fun c hc=>h.al c ?_⟩,?_,?_⟩
  · rw[tj];exact mem_joinL hc (List.mem_map.mpr ⟨w,hw,rfl⟩)
  · have:=sum_join "," (Txt.split x ",")
    rw[jn] at this
    exact Nat.le_trans this h.len
  · exact Nat.le_trans (PyProof.Rows.split_le x ",") (by have:=h.len;omega)
theorem join_of {b k:Nat} {ws:List Str} (h: ∀w∈ws,TxA b w) (hs:(ws.map fun w=>w.length).sum+ws.length≤k):TxA k (Txt.join "," ws):=by
  refine⟨Nat.le_trans (len_joinC ws) hs,fun c hc=> ?_⟩
  rw[TL.join_eq,tl_join] at hc
  rcases joinL_mem hc with z | ⟨p,hp,z⟩
  · rw[show tl ("," :Str)= [44] by decide +kernel] at z
    rw[List.mem_singleton.mp z];decide
  · obtain⟨w,hw,rfl⟩:=List.mem_map.mp hp
    exact (h w hw).al c z
theorem sum_cut: ∀(ws:List Nat) {i j:Nat},i≤j→(ws.take i).sum+(ws.drop j).sum≤ws.sum
  | [],i,j,_=>by simp
  | w::ws,0,0,_=>by simp
  | w::ws,0,j+1,_=>by
    have:=sum_cut ws (i:=0) (j:=j) (Nat.zero_le _)
    simp at this ⊢
    omega
  | w::ws,i+1,j+1,h=>by
    have:=sum_cut ws (i:=i) (j:=j) (by omega)
    simp at this ⊢
    omega
theorem bent_words {b k:Nat} {x w:Str} {s s':Int} (h0:0≤s) (hs:s≤s') (hx:TxA b x) (hw:TxA k w) (hk:k≤b+4) (hb:b≤10000):
    (sli (Txt.split x ",") none (some s)).length+ [w].length≤50000∧(sli (Txt.split x ",") none (some s)++ [w]).length+(sli (Txt.split x ",") (some s') none).length≤50000∧
    ((sli (Txt.split x ",") none (some s)++ [w]++sli (Txt.split x ",") (some s') none).map fun x=>x.length).sum+(sli (Txt.split x ",") none (some s)++ [w]++sli (Txt.split x ",") (some s') none).length * (Str.ofString ",").length≤16777216∧
    TxA (3 * b+100) (Txt.join "," (sli (Txt.split x ",") none (some s)++ [w]++sli (Txt.split x ",") (some s') none)):=by
  obtain⟨al,sm,cnt⟩:=words_of hx
  rw[sli_take _ h0,sli_drop _ (by omega)]
  generalize Txt.split x "," =ws at al sm cnt
  have c1:=List.length_take_le s.toNat ws
  have c2:(ws.drop s'.toNat).length≤ws.length:=by rw[List.length_drop];omega
  have l1:(ws.take s.toNat).length+(ws.drop s'.toNat).length≤ws.length:=by
    rw[List.length_take,List.length_drop];omega
  have sc:=sum_cut (ws.map fun w=>w.length) (i:=s.toNat) (j:=s'.toNat) (by omega)
  rw[← List.map_take,← List.map_drop] at sc
  have hl:=hw.len
  have e1:(Str.ofString ",").length=1:=by decide +kernel
  have se:((ws.take s.toNat++ [w]++ws.drop s'.toNat).map fun x=>x.length).sum=((ws.take s.toNat).map fun w=>w.length).sum+w.length+((ws.drop s'.toNat).map fun w=>w.length).sum:=by
    simp;omega
  have le:(ws.take s.toNat++ [w]++ws.drop s'.toNat).length=(ws.take s.toNat).length+1+(ws.drop s'.toNat).length:=by simp;omega
  refine⟨by simp only[List.length_singleton];omega,by rw[List.length_append];simp only[List.length_singleton];omega,?_,?_⟩
  · rw[se,le,e1];omega
  · refine join_of (b:=b+k) (fun z hz=> ?_) (by rw[se,le];omega)
    rcases List.mem_append.mp hz with hz | hz
    · rcases List.mem_append.mp hz with hz | hz
      · exact (al z (List.mem_of_mem_take hz)).mono (by omega)
      · rw[List.mem_singleton.mp hz];exact hw.mono (by omega)
    · exact (al z (List.mem_of_mem_drop hz)).mono (by omega)
theorem v_law_bent {p:Addr} {b:Nat} {x:Str} {S:Store K} (hp:S p=some .pot) (hb:b≤10000) (h:TxA b x):Spec (w__law_bent K cl (p,x,())) S (TxA (3 * b+100)):=by
  have hl:=h.len
  have e1:(Str.ofString " ").length=1:=by decide +kernel
  have e0:(Str.ofString "0").length=1:=by decide +kernel
  have ec:(Str.ofString ",").length≠0:=by decide +kernel
  obtain⟨al,sm,cnt⟩:=words_of h
  unfold w__law_bent
  wtm_at "m"
  refine Spec.ass (by omega) ?_
  refine Spec.bnd (v_law_draw hp (by omega) (by omega)) fun at_ ha=> ?_
  refine Spec.bnd (v_law_draw hp (by decide) (by decide)) fun way hw=> ?_
  refine Spec.bnd (v_law_draw hp (by decide) (by decide)) fun si hsi=> ?_
  refine Spec.bnd (R:=TxA 1) ?_ fun z hz=> ?_
  · intro Q E q
    obtain⟨i,rfl⟩:=Int.eq_ofNat_of_zero_le hsi.1
    have ll:(tl (Str.ofString "0123456789,>-+ _.1a\n")).length=20:=by decide +kernel
    obtain⟨c,hc⟩: ∃c,(tl (Str.ofString "0123456789,>-+ _.1a\n"))[i]?=some c:=⟨_,List.getElem?_eq_getElem (by omega)⟩
    rw[ixS_ret (by decide +kernel) hc]
    refine q _ ⟨Nat.le_refl _,fun d hd=> ?_⟩
    have:d=c:=by simpa [tl] using hd
    rw[this]
    have all:(tl (Str.ofString "0123456789,>-+ _.1a\n")).all (fun c=>decide (c<128))=true:=by decide +kernel
    exact of_decide_eq_true (List.all_eq_true.mp all c (List.mem_of_getElem? hc))
  have zl:=hz.len
  have c1:=fun lo hi=>(h.cut lo hi)
  have l1:=fun lo hi=>(c1 lo hi).len
  refine Spec.ite (fun _=> ?_) fun _=>Spec.ite (fun _=> ?_) fun _=>Spec.ite (fun _=> ?_) fun _=>Spec.ite (fun _=> ?_) fun _=> ?_
  · have m1:=l1 none (some at_)
    have m2:=l1 (some at_) none
    exact Spec.ass (by omega) (Spec.ass (by omega) (Spec.ass (by omega) (Spec.ass (by rw[len_app];omega) (Spec.ret ((((c1 none (some at_)).app hz).app (c1 (some at_) none)).mono (by omega))))))
  · have m1:=l1 none (some at_)
    have m2:=l1 (some (at_+1)) none
    exact Spec.ass (by omega) (Spec.ass (by omega) (Spec.ass (by omega) (Spec.ret (((c1 none (some at_)).app (c1 (some (at_+1)) none)).mono (by omega)))))
  · have m1:=l1 none (some at_)
    have m2:=l1 (some (at_+1)) none
    exact Spec.ass (by omega) (Spec.ass (by omega) (Spec.ass (by omega) (Spec.ass (by rw[len_app];omega) (Spec.ret ((((c1 none (some at_)).app hz).app (c1 (some (at_+1)) none)).mono (by omega))))))
  · refine Spec.ass (by omega) (Spec.ass (by omega) (Spec.ass (by omega) (Spec.ass (by omega) (Spec.ass (by omega) ?_))))
    refine Spec.bnd (v_law_draw hp (by decide) (by decide)) fun i hi=> ?_
    refine (Spec.ix hi.1 (by show i<6;omega)).imp fun y hy=> ?_
    simp only[List.mem_cons,List.not_mem_nil,or_false] at hy
    have sp:TxA 1 (Str.ofString " "):=TxA.lit
    rcases hy with rfl | rfl | rfl | rfl | rfl | rfl
    · exact (TxA.lit (b:=1)).mono (by omega)
    · exact (sp.app h).mono (by omega)
    · exact (h.app sp).mono (by omega)
    · exact (h.app h).mono (by omega)
    · exact h.rev.mono (by omega)
    · exact h.low.mono (by omega)
  · refine Spec.ass ⟨ec,by omega⟩ ?_
    have pos:0<(Txt.split x (Str.ofString ",")).length:=List.length_pos_iff.mpr (split_ne x)
    have cnt':(Txt.split x (Str.ofString ",")).length≤b+2:=cnt
    refine Spec.bnd (v_law_draw hp (by omega) (by omega)) fun s hs=> ?_
    refine Spec.ite (fun _=> ?_) fun _=>Spec.ite (fun _=> ?_) fun _=>Spec.ite (fun _=> ?_) fun _=> ?_
    · refine Spec.bnd (Spec.ix hs.1 hs.2) fun w hw=> ?_
      obtain⟨b1,b2,b3,b4⟩:=bent_words (k:=b) hs.1 (Int.le_refl s) h (al w hw) (by omega) hb
      exact Spec.ass b1 (Spec.ass b2 (Spec.ass b3 (Spec.ret b4)))
    · have sr:((Txt.split x ",").reverse.map fun w=>w.length).sum≤b:=by
        rw[List.map_reverse,List.sum_reverse];exact sm
      have e2:(Str.ofString ",").length=1:=by decide +kernel
      refine Spec.ass ?_ (Spec.ret (join_of (b:=b) (fun z hz=>al z (List.mem_reverse.mp hz)) ?_))
      · rw[e2,List.length_reverse]
        show ((Txt.split x ",").reverse.map fun w=>w.length).sum+_≤_
        omega
      · rw[List.length_reverse];omega
    · refine Spec.bnd (Spec.ix hs.1 hs.2) fun w hw=> ?_
      have z0:TxA 1 (Str.ofString "0"):=TxA.lit
      have hw':=z0.app (al w hw)
      have:=(al w hw).len
      obtain⟨b1,b2,b3,b4⟩:=bent_words (s':=s+1) hs.1 (by omega) h hw' (by omega) hb
      exact Spec.ass (by omega) (Spec.ass b1 (Spec.ass b2 (Spec.ass b3 (Spec.ret b4))))
    · refine Spec.bnd (v_law_draw hp (by decide) (by decide)) fun n hn=> ?_
      have n40:n.natAbs.log2<1920:=by
        have:n.natAbs.log2≤n.natAbs:=Nat.log2_le_self _
        omega
      refine Spec.ass n40 ?_
      refine Spec.bnd (v_law_draw hp (by decide) (by decide)) fun i hi=> ?_
      refine Spec.bnd (Spec.ix hi.1 (by show i<8;omega)) fun w hw=> ?_
      have hw':TxA 4 w:=by
        simp only[List.mem_cons,List.not_mem_nil,or_false] at hw
        rcases hw with rfl | rfl | rfl | rfl | rfl | rfl | rfl | rfl
        · exact TxA.lit
        · exact TxA.lit
        · exact TxA.lit
        · exact TxA.lit
        · exact TxA.lit
        · exact TxA.lit
        · exact TxA.lit
        · obtain⟨n,rfl⟩:=Int.eq_ofNat_of_zero_le hn.1
          have e:tl (Str.ofString (toString ((n:Nat):Int)))=numL n:=tl_num n
          refine⟨?_,fun c hc=> ?_⟩
          · rw[← tl_len,e]
            exact Nat.le_trans (numL_len (k:=2) (by decide) (by omega)) (by decide)
          · rw[e] at hc
            have:=numL_digits n c hc
            omega
      obtain⟨b1,b2,b3,b4⟩:=bent_words (s':=s+1) hs.1 (by omega) h hw' (by omega) hb
      exact Spec.ass b1 (Spec.ass b2 (Spec.ass b3 (Spec.ret b4)))
theorem textL_160 {ns:List Int} (h: ∀n∈ns,0≤n∧n<40) (hl:ns.length≤40):TxA 160 (textL ns):=by
  unfold textL
  split
  · exact TxA.lit
  · rename_i nn
    have b:((ns.map fun n=>(toString n:Str)).map fun w=>w.length).sum≤2 * ns.length:=by
      clear hl nn
      induction ns with
      | nil=>simp
      | cons n ns ih=>
        have i1:=ih (fun m hm=>h m (List.mem_cons_of_mem _ hm))
        obtain⟨k,rfl⟩:=Int.eq_ofNat_of_zero_le (h n (by simp)).1
        have hk:k<10 ^ 2:=by have:=(h (k:Int) (by simp)).2;omega
        have l2:(toString (k:Int):Str).length=(numL k).length:=by rw[← tl_len,show tl (toString (k:Int):Str)=numL k from tl_num k]
        have i2:=numL_len (by decide) hk
        show (toString (k:Int):Str).length+((ns.map fun n=>(toString n:Str)).map fun w=>w.length).sum≤2 * (ns.length+1)
        omega
    refine join_of (b:=2) (fun w hw=> ?_) (by rw[List.length_map];omega)
    obtain⟨n,hn,rfl⟩:=List.mem_map.mp hw
    obtain⟨k,rfl⟩:=Int.eq_ofNat_of_zero_le (h n hn).1
    have e:tl (toString ((k:Nat):Int):Str)=numL k:=tl_num k
    refine⟨?_,fun c hc=> ?_⟩
    · rw[← tl_len,e]
      exact numL_len (k:=2) (by decide) (by have:=(h _ hn).2;omega)
    · rw[e] at hc
      have:=numL_digits k c hc
      omega
theorem board_al (n m:Nat) (h:n≤40):TxA 400 (boardText n m):=by
  refine⟨by rw[boardText_len];omega,fun c hc=> ?_⟩
  have:(⟨#[c]⟩:Str)∈TL.signs (boardText n m):=List.mem_map.mpr ⟨c,hc,rfl⟩
  rw[signs_board] at this
  obtain⟨i,_,e⟩:=List.mem_map.mp this
  unfold bitS bitI at e
  cases hm:m.testBit i <;> rw[hm] at e
  · have:(⟨#[c]⟩:Str)=⟨#[48]⟩:=by rw[← e];decide +kernel
    have:c=48:=by injection this with z;simpa using z
    omega
  · have:(⟨#[c]⟩:Str)=⟨#[49]⟩:=by rw[← e];decide +kernel
    have:c=49:=by injection this with z;simpa using z
    omega
def bd:Nat→Nat
  | 0=>400
  | i+1=>3 * bd i+100
theorem law_holds (T:Tx K mg cl) (ns:List Int) (h:ns.length≤63):w_law K cl (ns,()) (fun b _=>b=true) (fun _ _=>False) (fun _=>none):=by
  unfold w_law
  wtm_at "m"
  refine⟨by omega,?_⟩
  refine for_ap (fun _ _ _=>True) ?_ ?_ trivial
  · rintro i k s S N hk _ hN
    have hk':=rg_mem (List.mem_of_getElem? hk)
    refine⟨trivial,(show (0:Int)≤k by omega),(show k<100 by omega),fun p hp=> ?_⟩
    have hp':(S.set p .pot) p=some (Cell.pot (K:=K)):=set_same
    generalize S.set p .pot=S1 at hp'
    refine (v_law_width hp' (by decide) (by decide)).ap fun n hn=> ?_
    obtain⟨n,rfl⟩:=Int.eq_ofNat_of_zero_le (show 0≤n by omega)
    have n1:1≤n:=by omega
    have n40:n≤40:=by omega
    refine⟨by decide,?_⟩
    refine for_ap (fun _ _ S'=>S' p=some .pot) ?_ ?_ hp'
    · rintro i2 k2 s2 S2 N2 hk2 hp2 hN2
      refine⟨trivial,?_⟩
      refine (v_law_draw hp2 (by decide) (by decide)).ap fun door hd=> ?_
      refine (v_law_pair hp2 (by omega)).ap fun pr hpr=> ?_
      obtain⟨ts,gs⟩:=pr
      have hpr:PairOk n ts gs:=hpr
      have tr: ∀t∈ts,0≤t∧t<40:=fun t ht=>by have:=hpr.tr t ht;omega
      have gr: ∀t∈gs,0≤t∧t<40:=fun t ht=>by have:=hpr.gr t ht;omega
      have ltl:=hpr.tl
      have lgl:=hpr.gl
      dsimp only
      rw[v_law_text_of tr (by omega),ret_bnd,v_law_pair_text tr (by omega) gr (by omega),ret_bnd]
      refine (v_law_bits hp2 n1 (by omega)).ap fun bs hb=> ?_
      obtain⟨m,hm,od,rfl⟩:=hb
      rw[v_law_bits_text n40,ret_bnd]
      have t1:=textL_160 tr (by omega)
      have t2:=textL_160 gr (by omega)
      refine (Spec.ix hd.1 (by show door<3;omega)).ap fun x hx=> ?_
      have tx:TxA (bd 0) x:=by
        simp only[List.mem_cons,List.not_mem_nil,or_false] at hx
        rcases hx with rfl | rfl | rfl
        · exact t1.mono (by decide)
        · exact ((t1.app (TxA.lit (b:=1))).app t2).mono (by decide)
        · exact board_al n m n40
      refine (v_law_draw hp2 (by decide) (by decide)).ap fun many hmany=> ?_
      refine⟨by omega,?_⟩
      refine (Spec.for (S:=S2) (fun i (s:Str×Unit)=>TxA (bd i) s.1) (R:=fun q=> ∃y,q=Flow.nx (y,())∧TxA 15000 y) ?_ ?_ tx).ap fun q hq=> ?_
      · rintro i k s hk hs
        have hi:i<(rng 0 many).length:=(List.getElem?_eq_some_iff.mp hk).1
        rw[rng_len] at hi
        have:i=0∨i=1∨i=2:=by omega
        exact (v_law_bent (b:=bd i) hp2 (by rcases this with rfl | rfl | rfl <;> decide) hs).bnd fun y hy=>Spec.ret hy
      · rintro ⟨y,u⟩ hy
        rw[rng_len] at hy
        refine⟨y,rfl,hy.mono ?_⟩
        have:(many - 0).toNat=0∨(many - 0).toNat=1∨(many - 0).toNat=2∨(many - 0).toNat=3:=by omega
        rcases this with e | e | e | e <;> rw[e] <;> decide
      · obtain⟨y,rfl,hy⟩:=hq
        show (bnd (w__law_told K cl (door,PyData.str y,())) _) _ _ S2
        have yl:=hy.len
        have yo:=hy.ok
        obtain⟨b,eb,h1,h2⟩:=v_law_due (K:=K) (cl:=cl) (x:=y) hd (by omega)
        have sh: ∀b:Bool,Shp 2 (PyData.list (List.map id (if b=true then [PyData.str "read",.str y] else [.str "no",.int 0,.bool false]))):=fun b=>by
          rw[List.map_id]
          cases b
          · rw[if_neg (by simp)]
            refine shp_lst fun d hd=> ?_
            simp only[List.mem_cons,List.not_mem_nil,or_false] at hd
            rcases hd with rfl | rfl | rfl
            · exact shp_str (ok_of _)
            · exact shp_int
            · exact shp_bool
          · rw[if_pos rfl]
            refine shp_lst fun d hd=> ?_
            simp only[List.mem_cons,List.not_mem_nil,or_false] at hd
            rcases hd with rfl | rfl
            · exact shp_str (ok_of _)
            · exact shp_str yo
        have told:SpecX (w__law_told K cl (door,.str y,())) S2 (· =if b=true then [PyData.str "read",.str y] else [.str "no",.int 0,.bool false]):=by
          cases b
          · rw[if_neg (by simp)]
            exact told_no T (v_read_no T (by omega) yo (h2 rfl))
          · rw[if_pos rfl]
            exact (told_read (v_read_yes (by omega) yo (h1 rfl))).x
        refine told.ap fun z S3 x3 hz=> ?_
        subst hz
        rw[eb]
        wtm_at "m"
        rw[ass_t ⟨(sh b).shaped (by decide),(sh b).shaped (by decide)⟩,eqv_same (sh b),if_t]
        exact hN2 _ _ (x3 _ _ hp2)
    · rintro s2 S2 hp2
      refine⟨trivial,?_⟩
      wtm_at "m"
      refine (v_law_draw hp2 (by decide) (by decide)).ap fun v hv=> ?_
      refine (Spec.ix hv.1 (by show v<9;omega)).ap fun d hd=> ?_
      have no:isD d "str" =false:=by
        simp only[List.mem_cons,List.not_mem_nil,or_false] at hd
        rcases hd with rfl | rfl | rfl | rfl | rfl | rfl | rfl | rfl | rfl <;> rfl
      refine⟨by decide,by rw[rng_len];decide,?_⟩
      refine (SpecX.fmap (P:=fun _ y=>y= [PyData.str (Str.ofString "no"),.int 0,.bool false]) fun x _ S' _=>told_no T fun Q E q=>by rw[v_read_odd no];exact q S' TL.Ext.refl) _ _ fun ys S3 x3 hy=> ?_
      have e:ys= [[PyData.str (Str.ofString "no"),.int 0,.bool false],[PyData.str (Str.ofString "no"),.int 0,.bool false],[PyData.str (Str.ofString "no"),.int 0,.bool false]]:=hy.eqmap (f:=fun _=> [PyData.str (Str.ofString "no"),.int 0,.bool false]) fun _ _ h=>h
      have sh:Shp 3 (PyData.list (List.map (fun xs=>PyData.list (List.map id xs)) [[PyData.str (Str.ofString "no"),.int 0,.bool false],[PyData.str (Str.ofString "no"),.int 0,.bool false],[PyData.str (Str.ofString "no"),.int 0,.bool false]])):=by
        refine shp_lst fun d hd=> ?_
        obtain⟨xs,hx,rfl⟩:=List.mem_map.mp hd
        have:xs= [PyData.str (Str.ofString "no"),.int 0,.bool false]:=by simpa using hx
        rw[this,List.map_id]
        refine shp_lst fun d hd=> ?_
        simp only[List.mem_cons,List.not_mem_nil,or_false] at hd
        rcases hd with rfl | rfl | rfl
        · exact shp_str (ok_of _)
        · exact shp_int
        · exact shp_bool
      refine⟨by decide,?_⟩
      rw[e]
      show (wAss (_∧SeqAt.shaped (PyData.list (List.map (fun xs=>PyData.list (List.map id xs)) [[PyData.str (Str.ofString "no"),.int 0,.bool false],[PyData.str (Str.ofString "no"),.int 0,.bool false],[PyData.str (Str.ofString "no"),.int 0,.bool false]]))=true) (wIf ((PyData.list (List.map (fun xs=>PyData.list (List.map id xs)) [[PyData.str (Str.ofString "no"),.int 0,.bool false],[PyData.str (Str.ofString "no"),.int 0,.bool false],[PyData.str (Str.ofString "no"),.int 0,.bool false]])).eqv (PyData.list (List.map (fun xs=>PyData.list (List.map id xs)) [[PyData.str (Str.ofString "no"),.int 0,.bool false],[PyData.str (Str.ofString "no"),.int 0,.bool false],[PyData.str (Str.ofString "no"),.int 0,.bool false]]))) _ _)) _ _ S3
      rw[ass_t ⟨sh.shaped (by decide),sh.shaped (by decide)⟩,eqv_same sh,if_t]
      exact hN _ _ trivial
  · rintro s S _
    exact⟨trivial,rfl⟩
end
noncomputable section
open PySem PySem.W PySem.Calls
abbrev kh:=PyData.keyHash
abbrev nd:=BT.node
abbrev nl:=BT.nil
abbrev lf (o:Obj):BT:=BT.node o .nil .nil
abbrev fo0 (n q:Str) (s:Stmt):Obj:=⟨.none,none,.func { name:=n,qualname:=q,params:=defArgs s,body:= .stmts (defBody s),scope:=defScope s,globals:=0,closure:= [],defaults:= .none,kwdefaults:= .none,doc:= .none,pyModule:= .none,annotations:=none,code:= .none,closureTuple:= .none,builtins:=0 },#[]⟩
abbrev fo1 (n q:Str) (s:Stmt) (a b c d e f:Value):Obj:=⟨(.type "function"),none,.func (fnOf n q (defArgs s) (defBody s) (defScope s) a b c d none e f),#[]⟩
abbrev fo2 (n:Str) (n1:Tok) (q:Str) (q1 t:Tok) (i1:Int) (u1:Tok) (i2:Int) (u2:Tok) (i3:Int) (u3:Tok) (i4:Int) (u4:Tok) (i5:Int) (u5:Tok) (a:Value) (b:Bool) (c d e f:Value) (i6:Int) (u6:Tok) (i7:Int) (u7 t2:Tok):Obj:= .mk (.type "code") none (.fields #[.str n n1,.str q q1,.str "/claim/cut.py" t,.int i1 u1,.int i2 u2,.int i3 u3,.int i4 u4,.int i5 u5,a,.bool b,.int 181 0,c,.none,d,e,f,.int i6 u6,.int i7 u7,.str "/claim/cut.py" t2]) #[]
abbrev fo3 (P:Params) (k:Str) (t:Tok) (v:Value):DictEntry:= .mk (kh P k) (.str k t) v
def o0 (P:Params):Obj:=(.mk (.type "tuple") none (.seq #[] 0) #[])
def o1 (P:Params):Obj:=(.mk .none none (.fields #[]) #[])
def o2 (P:Params):Obj:=fo2 "<module>" 182 "<module>" 183 184 1 0 0 0 0 0 0 0 0 0 (.ref 11) false (.ref 12) .none .none .none 185 0 1 0 186
def o3 (P:Params):Obj:=(.mk (.type "frame") none .plain #[(some (.ref 13)),(some (.ref 3)),(some (.ref 3)),none,(some (.str "__main__" 164)),none,(some (.ref 0))])
def o4 (P:Params):Obj:=(.mk .none none (.dict #[(fo3 P "type.__subclasses__.ArithmeticError.0" 230 (.int 44 0)),(fo3 P "type.__subclasses__.ArithmeticError.n" 231 (.int 1 0))] 2) #[])
def o5 (P:Params):Obj:=(.mk (.type "dict") none (.dict #[(fo3 P "__name__" 165 (.str "paritycells.cells" 334)),(fo3 P "__doc__" 166 .none),(fo3 P "__package__" 167 .none),(fo3 P "__loader__" 168 (.builtin "__main__.__loader__#opaque")),(fo3 P "__spec__" 169 .none),(fo3 P "__annotations__" 170 (.ref 6)),(fo3 P "__builtins__" 171 (.ref 4)),(fo3 P "__file__" 173 (.str "/claim/cut.py" 172)),(fo3 P "__cached__" 174 .none),(fo3 P "_wall" 193 (.ref 21)),(fo3 P "CellError" 213 (.ref 31)),(fo3 P "LimitError" 233 (.ref 44)),(fo3 P "NoSize" 258 (.ref 64)),(fo3 P "NoCells" 283 (.ref 83)),(fo3 P "NoFlip" 308 (.ref 102)),(fo3 P "NoText" 333 (.ref 121)),(fo3 P "MOST_CELLS" 337 (.int 40 336)),(fo3 P "is_integer_in" 346 (.ref 130)),(fo3 P "is_cell" 355 (.ref 138)),(fo3 P "require_size" 362 (.ref 145)),(fo3 P "mask_of" 368 (.ref 150)),(fo3 P "cells_in" 374 (.ref 155)),(fo3 P "is_odd" 383 (.ref 162))] 23) #[])
def o6 (P:Params):Obj:=(.mk .none none (.fields #[(.int 1 0),(.int 0 0),(.ref 20),(.int 5 0),(.int 0 0),(.ref 27),(.int 7 0),(.int 0 0),(.ref 40),(.int 9 0),(.int 0 0),(.ref 53),(.int 14 0),(.int 0 0),(.ref 72),(.int 19 0),(.int 0 0),(.ref 91),(.int 24 0),(.int 0 0),(.ref 110),(.int 31 0),(.int 0 0),(.ref 129),(.int 33 0),(.int 0 0),(.ref 137),(.int 35 0),(.int 0 0),(.ref 144),(.int 38 0),(.int 0 0),(.ref 149),(.int 40 0),(.int 0 0),(.ref 154),(.int 42 0),(.int 0 0),(.ref 161)]) #[])
def o7 (P:Params):Obj:=(.mk (.type "tuple") none (.seq #[(.str "k" 190)] 0) #[])
def o8 (P:Params):Obj:=fo0 "_wall" "_wall" (topS 0)
def o9 (P:Params):Obj:=fo2 "_wall" 187 "_wall" 188 189 1 0 1 0 0 0 0 0 3 0 (.ref 15) true (.ref 16) (.ref 17) (.ref 18) (.ref 19) 191 0 1 0 192
def o10 (P:Params):Obj:=fo1 "_wall" "_wall" (topS 0) .none .none .none (.str "__main__" 164) (.ref 20) .none
def o11 (P:Params):Obj:=(.mk (.type "tuple") none (.seq #[(.type "ValueError")] 0) #[])
def o12 (P:Params):Obj:=(.mk (.type "builtin_function_or_method") none (.fields #[(.builtin "type.__prepare__"),(.type "type")]) #[])
def o13 (P:Params):Obj:=(.mk (.type "dict") none (.dict #[(fo3 P "__module__" 203 (.str "paritycells.errors" 194)),(fo3 P "__qualname__" 205 (.str "CellError" 204)),(fo3 P "__firstlineno__" 207 (.int 5 206)),(fo3 P "__static_attributes__" 208 (.ref 29))] 4) #[])
def o14 (P:Params):Obj:=fo2 "CellError" 198 "CellError" 199 200 5 0 0 0 0 0 0 0 0 0 (.ref 25) false (.ref 26) .none .none .none 201 0 5 0 202
def o15 (P:Params):Obj:=(.mk (.type "frame") none .plain #[(some (.ref 27)),(some (.ref 3)),(some (.ref 24)),none,(some (.str "paritycells.errors" 194)),none,(some (.ref 0))])
def o16 (P:Params):Obj:=(.mk (.type "dict") none (.dict #[(fo3 P "__module__" 203 (.str "paritycells.errors" 194)),(fo3 P "__firstlineno__" 207 (.int 5 206)),(fo3 P "__static_attributes__" 208 (.ref 29)),(fo3 P "__weakref__" 210 (.ref 32)),(fo3 P "__doc__" 211 .none)] 3) #[])
def o17 (P:Params):Obj:=(.mk (.type "type") none (.cls (.mk "CellError" [(.type "ValueError")] [(.ref 31),(.type "ValueError"),(.type "Exception"),(.type "BaseException"),(.type "object")] 30 "CellError" true [] [(.ref 64),(.ref 83),(.ref 102),(.ref 121)] false none false)) #[(some (.ref 22)),none,(some (.str "CellError" 196)),(some (.str "CellError" 204)),(some (.builtin "ValueError.__new__")),(some (.bool true))])
def o18 (P:Params):Obj:=(.mk (.type "getset_descriptor") none (.fields #[(.str "__weakref__" 209),(.ref 31),(.builtin "ExceptionGroup.__weakref__"),.none]) #[])
def o19 (P:Params):Obj:=(.mk (.type "super") none (.fields #[(.ref 31),(.ref 31),(.ref 31)]) #[])
def o20 (P:Params):Obj:=(.mk (.type "builtin_function_or_method") none (.fields #[(.builtin "object.__init_subclass__"),(.ref 31)]) #[])
def o21 (P:Params):Obj:=(.mk (.type "tuple") none (.seq #[(.type "ArithmeticError")] 0) #[])
def o22 (P:Params):Obj:=(.mk (.type "dict") none (.dict #[(fo3 P "__module__" 221 (.str "paritycells.errors" 194)),(fo3 P "__qualname__" 223 (.str "LimitError" 222)),(fo3 P "__firstlineno__" 225 (.int 7 224)),(fo3 P "__static_attributes__" 226 (.ref 42))] 4) #[])
def o23 (P:Params):Obj:=fo2 "LimitError" 216 "LimitError" 217 218 7 0 0 0 0 0 0 0 0 0 (.ref 38) false (.ref 39) .none .none .none 219 0 7 0 220
def o24 (P:Params):Obj:=(.mk (.type "frame") none .plain #[(some (.ref 40)),(some (.ref 3)),(some (.ref 37)),none,(some (.str "paritycells.errors" 194)),none,(some (.ref 0))])
def o25 (P:Params):Obj:=(.mk (.type "dict") none (.dict #[(fo3 P "__module__" 221 (.str "paritycells.errors" 194)),(fo3 P "__firstlineno__" 225 (.int 7 224)),(fo3 P "__static_attributes__" 226 (.ref 42)),(fo3 P "__weakref__" 228 (.ref 45)),(fo3 P "__doc__" 229 .none)] 3) #[])
def o26 (P:Params):Obj:=(.mk (.type "type") none (.cls (.mk "LimitError" [(.type "ArithmeticError")] [(.ref 44),(.type "ArithmeticError"),(.type "Exception"),(.type "BaseException"),(.type "object")] 43 "LimitError" true [] [] false none false)) #[(some (.ref 35)),none,(some (.str "LimitError" 214)),(some (.str "LimitError" 222)),(some (.builtin "ArithmeticError.__new__")),(some (.bool true))])
def o27 (P:Params):Obj:=(.mk (.type "getset_descriptor") none (.fields #[(.str "__weakref__" 227),(.ref 44),(.builtin "ExceptionGroup.__weakref__"),.none]) #[])
def o28 (P:Params):Obj:=(.mk (.type "super") none (.fields #[(.ref 44),(.ref 44),(.ref 44)]) #[])
def o29 (P:Params):Obj:=(.mk (.type "builtin_function_or_method") none (.fields #[(.builtin "object.__init_subclass__"),(.ref 44)]) #[])
def o30 (P:Params):Obj:=(.mk (.type "tuple") none (.seq #[(.ref 31)] 0) #[])
def o31 (P:Params):Obj:=(.mk (.type "dict") none (.dict #[(fo3 P "__module__" 241 (.str "paritycells.errors" 194)),(fo3 P "__qualname__" 243 (.str "NoSize" 242)),(fo3 P "__firstlineno__" 245 (.int 9 244)),(fo3 P "__init__" 253 (.ref 61)),(fo3 P "__static_attributes__" 255 (.ref 62))] 5) #[])
def o32 (P:Params):Obj:=(.mk .none none (.fields #[(.int 11 0),(.int 4 0),(.ref 60)]) #[])
def o33 (P:Params):Obj:=fo2 "NoSize" 236 "NoSize" 237 238 9 0 0 0 0 0 0 0 0 0 (.ref 51) false (.ref 52) .none .none .none 239 0 9 0 240
def o34 (P:Params):Obj:=(.mk (.type "frame") none .plain #[(some (.ref 53)),(some (.ref 3)),(some (.ref 50)),none,(some (.str "paritycells.errors" 194)),none,(some (.ref 0))])
def o35 (P:Params):Obj:=(.mk (.type "tuple") none (.seq #[(.str "self" 249),(.str "value" 250)] 0) #[])
def o36 (P:Params):Obj:=fo0 "__init__" "NoSize.__init__" (clsS 4 0)
def o37 (P:Params):Obj:=fo2 "__init__" 246 "NoSize.__init__" 247 248 11 0 2 0 0 0 0 0 3 0 (.ref 55) true (.ref 56) (.ref 57) (.ref 58) (.ref 59) 251 0 11 0 252
def o38 (P:Params):Obj:=fo1 "__init__" "NoSize.__init__" (clsS 4 0) .none .none .none (.str "paritycells.errors" 194) (.ref 60) .none
def o39 (P:Params):Obj:=(.mk (.type "tuple") none (.seq #[(.str "value" 254)] 0) #[])
def o40 (P:Params):Obj:=(.mk (.type "dict") none (.dict #[(fo3 P "__module__" 241 (.str "paritycells.errors" 194)),(fo3 P "__firstlineno__" 245 (.int 9 244)),(fo3 P "__init__" 253 (.ref 61)),(fo3 P "__static_attributes__" 255 (.ref 62)),(fo3 P "__doc__" 256 .none)] 2) #[])
def o41 (P:Params):Obj:=(.mk (.type "type") none (.cls (.mk "NoSize" [(.ref 31)] [(.ref 64),(.ref 31),(.type "ValueError"),(.type "Exception"),(.type "BaseException"),(.type "object")] 63 "NoSize" true [] [] false none false)) #[(some (.ref 48)),none,(some (.str "NoSize" 234)),(some (.str "NoSize" 242)),(some (.builtin "ValueError.__new__")),(some (.bool true))])
def o42 (P:Params):Obj:=(.mk (.type "super") none (.fields #[(.ref 64),(.ref 64),(.ref 64)]) #[])
def o43 (P:Params):Obj:=(.mk (.type "builtin_function_or_method") none (.fields #[(.builtin "object.__init_subclass__"),(.ref 64)]) #[])
def o44 (P:Params):Obj:=(.mk (.type "dict") none (.dict #[(fo3 P "__module__" 266 (.str "paritycells.errors" 194)),(fo3 P "__qualname__" 268 (.str "NoCells" 267)),(fo3 P "__firstlineno__" 270 (.int 14 269)),(fo3 P "__init__" 278 (.ref 80)),(fo3 P "__static_attributes__" 280 (.ref 81))] 5) #[])
def o45 (P:Params):Obj:=(.mk .none none (.fields #[(.int 16 0),(.int 4 0),(.ref 79)]) #[])
def o46 (P:Params):Obj:=fo2 "NoCells" 261 "NoCells" 262 263 14 0 0 0 0 0 0 0 0 0 (.ref 70) false (.ref 71) .none .none .none 264 0 14 0 265
def o47 (P:Params):Obj:=(.mk (.type "frame") none .plain #[(some (.ref 72)),(some (.ref 3)),(some (.ref 69)),none,(some (.str "paritycells.errors" 194)),none,(some (.ref 0))])
def o48 (P:Params):Obj:=(.mk (.type "tuple") none (.seq #[(.str "self" 274),(.str "cells" 275)] 0) #[])
def o49 (P:Params):Obj:=fo0 "__init__" "NoCells.__init__" (clsS 5 0)
def o50 (P:Params):Obj:=fo2 "__init__" 271 "NoCells.__init__" 272 273 16 0 2 0 0 0 0 0 3 0 (.ref 74) true (.ref 75) (.ref 76) (.ref 77) (.ref 78) 276 0 16 0 277
def o51 (P:Params):Obj:=fo1 "__init__" "NoCells.__init__" (clsS 5 0) .none .none .none (.str "paritycells.errors" 194) (.ref 79) .none
def o52 (P:Params):Obj:=(.mk (.type "tuple") none (.seq #[(.str "cells" 279)] 0) #[])
def o53 (P:Params):Obj:=(.mk (.type "dict") none (.dict #[(fo3 P "__module__" 266 (.str "paritycells.errors" 194)),(fo3 P "__firstlineno__" 270 (.int 14 269)),(fo3 P "__init__" 278 (.ref 80)),(fo3 P "__static_attributes__" 280 (.ref 81)),(fo3 P "__doc__" 281 .none)] 2) #[])
def o54 (P:Params):Obj:=(.mk (.type "type") none (.cls (.mk "NoCells" [(.ref 31)] [(.ref 83),(.ref 31),(.type "ValueError"),(.type "Exception"),(.type "BaseException"),(.type "object")] 82 "NoCells" true [] [] false none false)) #[(some (.ref 67)),none,(some (.str "NoCells" 259)),(some (.str "NoCells" 267)),(some (.builtin "ValueError.__new__")),(some (.bool true))])
def o55 (P:Params):Obj:=(.mk (.type "super") none (.fields #[(.ref 83),(.ref 83),(.ref 83)]) #[])
def o56 (P:Params):Obj:=(.mk (.type "builtin_function_or_method") none (.fields #[(.builtin "object.__init_subclass__"),(.ref 83)]) #[])
def o57 (P:Params):Obj:=(.mk (.type "dict") none (.dict #[(fo3 P "__module__" 291 (.str "paritycells.errors" 194)),(fo3 P "__qualname__" 293 (.str "NoFlip" 292)),(fo3 P "__firstlineno__" 295 (.int 19 294)),(fo3 P "__init__" 303 (.ref 99)),(fo3 P "__static_attributes__" 305 (.ref 100))] 5) #[])
def o58 (P:Params):Obj:=(.mk .none none (.fields #[(.int 21 0),(.int 4 0),(.ref 98)]) #[])
def o59 (P:Params):Obj:=fo2 "NoFlip" 286 "NoFlip" 287 288 19 0 0 0 0 0 0 0 0 0 (.ref 89) false (.ref 90) .none .none .none 289 0 19 0 290
def o60 (P:Params):Obj:=(.mk (.type "frame") none .plain #[(some (.ref 91)),(some (.ref 3)),(some (.ref 88)),none,(some (.str "paritycells.errors" 194)),none,(some (.ref 0))])
def o61 (P:Params):Obj:=(.mk (.type "tuple") none (.seq #[(.str "self" 299),(.str "why" 300)] 0) #[])
def o62 (P:Params):Obj:=fo0 "__init__" "NoFlip.__init__" (clsS 6 0)
def o63 (P:Params):Obj:=fo2 "__init__" 296 "NoFlip.__init__" 297 298 21 0 2 0 0 0 0 0 3 0 (.ref 93) true (.ref 94) (.ref 95) (.ref 96) (.ref 97) 301 0 21 0 302
def o64 (P:Params):Obj:=fo1 "__init__" "NoFlip.__init__" (clsS 6 0) .none .none .none (.str "paritycells.errors" 194) (.ref 98) .none
def o65 (P:Params):Obj:=(.mk (.type "tuple") none (.seq #[(.str "why" 304)] 0) #[])
def o66 (P:Params):Obj:=(.mk (.type "dict") none (.dict #[(fo3 P "__module__" 291 (.str "paritycells.errors" 194)),(fo3 P "__firstlineno__" 295 (.int 19 294)),(fo3 P "__init__" 303 (.ref 99)),(fo3 P "__static_attributes__" 305 (.ref 100)),(fo3 P "__doc__" 306 .none)] 2) #[])
def o67 (P:Params):Obj:=(.mk (.type "type") none (.cls (.mk "NoFlip" [(.ref 31)] [(.ref 102),(.ref 31),(.type "ValueError"),(.type "Exception"),(.type "BaseException"),(.type "object")] 101 "NoFlip" true [] [] false none false)) #[(some (.ref 86)),none,(some (.str "NoFlip" 284)),(some (.str "NoFlip" 292)),(some (.builtin "ValueError.__new__")),(some (.bool true))])
def o68 (P:Params):Obj:=(.mk (.type "super") none (.fields #[(.ref 102),(.ref 102),(.ref 102)]) #[])
def o69 (P:Params):Obj:=(.mk (.type "builtin_function_or_method") none (.fields #[(.builtin "object.__init_subclass__"),(.ref 102)]) #[])
def o70 (P:Params):Obj:=(.mk (.type "dict") none (.dict #[(fo3 P "__module__" 316 (.str "paritycells.errors" 194)),(fo3 P "__qualname__" 318 (.str "NoText" 317)),(fo3 P "__firstlineno__" 320 (.int 24 319)),(fo3 P "__init__" 328 (.ref 118)),(fo3 P "__static_attributes__" 330 (.ref 119))] 5) #[])
def o71 (P:Params):Obj:=(.mk .none none (.fields #[(.int 26 0),(.int 4 0),(.ref 117)]) #[])
def o72 (P:Params):Obj:=fo2 "NoText" 311 "NoText" 312 313 24 0 0 0 0 0 0 0 0 0 (.ref 108) false (.ref 109) .none .none .none 314 0 24 0 315
def o73 (P:Params):Obj:=(.mk (.type "frame") none .plain #[(some (.ref 110)),(some (.ref 3)),(some (.ref 107)),none,(some (.str "paritycells.errors" 194)),none,(some (.ref 0))])
def o74 (P:Params):Obj:=(.mk (.type "tuple") none (.seq #[(.str "self" 324),(.str "line" 325)] 0) #[])
def o75 (P:Params):Obj:=fo0 "__init__" "NoText.__init__" (clsS 7 0)
def o76 (P:Params):Obj:=fo2 "__init__" 321 "NoText.__init__" 322 323 26 0 2 0 0 0 0 0 3 0 (.ref 112) true (.ref 113) (.ref 114) (.ref 115) (.ref 116) 326 0 26 0 327
def o77 (P:Params):Obj:=fo1 "__init__" "NoText.__init__" (clsS 7 0) .none .none .none (.str "paritycells.errors" 194) (.ref 117) .none
def o78 (P:Params):Obj:=(.mk (.type "tuple") none (.seq #[(.str "line" 329)] 0) #[])
def o79 (P:Params):Obj:=(.mk (.type "dict") none (.dict #[(fo3 P "__module__" 316 (.str "paritycells.errors" 194)),(fo3 P "__firstlineno__" 320 (.int 24 319)),(fo3 P "__init__" 328 (.ref 118)),(fo3 P "__static_attributes__" 330 (.ref 119)),(fo3 P "__doc__" 331 .none)] 2) #[])
def o80 (P:Params):Obj:=(.mk (.type "type") none (.cls (.mk "NoText" [(.ref 31)] [(.ref 121),(.ref 31),(.type "ValueError"),(.type "Exception"),(.type "BaseException"),(.type "object")] 120 "NoText" true [] [] false none false)) #[(some (.ref 105)),none,(some (.str "NoText" 309)),(some (.str "NoText" 317)),(some (.builtin "ValueError.__new__")),(some (.bool true))])
def o81 (P:Params):Obj:=(.mk (.type "super") none (.fields #[(.ref 121),(.ref 121),(.ref 121)]) #[])
def o82 (P:Params):Obj:=(.mk (.type "builtin_function_or_method") none (.fields #[(.builtin "object.__init_subclass__"),(.ref 121)]) #[])
def o83 (P:Params):Obj:=(.mk (.type "tuple") none (.seq #[(.str "thing" 341),(.str "low" 342),(.str "high" 343)] 0) #[])
def o84 (P:Params):Obj:=fo0 "is_integer_in" "is_integer_in" (topS 10)
def o85 (P:Params):Obj:=fo2 "is_integer_in" 338 "is_integer_in" 339 340 31 0 3 0 0 0 0 0 3 0 (.ref 124) true (.ref 125) (.ref 126) (.ref 127) (.ref 128) 344 0 31 0 345
def o86 (P:Params):Obj:=fo1 "is_integer_in" "is_integer_in" (topS 10) .none .none .none (.str "paritycells.cells" 334) (.ref 129) .none
def o87 (P:Params):Obj:=(.mk (.type "dict") none (.dict #[(fo3 P "size" 347 (.int 40 336))] 1) #[])
def o88 (P:Params):Obj:=(.mk (.type "tuple") none (.seq #[(.str "thing" 351),(.str "size" 352)] 0) #[])
def o89 (P:Params):Obj:=fo0 "is_cell" "is_cell" (topS 11)
def o90 (P:Params):Obj:=fo2 "is_cell" 348 "is_cell" 349 350 33 0 1 0 0 0 1 0 3 0 (.ref 132) true (.ref 133) (.ref 134) (.ref 135) (.ref 136) 353 0 33 0 354
def o91 (P:Params):Obj:=fo1 "is_cell" "is_cell" (topS 11) .none (.ref 131) .none (.str "paritycells.cells" 334) (.ref 137) .none
def o92 (P:Params):Obj:=(.mk (.type "tuple") none (.seq #[(.str "size" 359)] 0) #[])
def o93 (P:Params):Obj:=fo0 "require_size" "require_size" (topS 12)
def o94 (P:Params):Obj:=fo2 "require_size" 356 "require_size" 357 358 35 0 1 0 0 0 0 0 3 0 (.ref 139) true (.ref 140) (.ref 141) (.ref 142) (.ref 143) 360 0 35 0 361
def o95 (P:Params):Obj:=fo1 "require_size" "require_size" (topS 12) .none .none .none (.str "paritycells.cells" 334) (.ref 144) .none
def o96 (P:Params):Obj:=fo0 "mask_of" "mask_of" (topS 13)
def o97 (P:Params):Obj:=fo2 "mask_of" 363 "mask_of" 364 365 38 0 1 0 0 0 0 0 3 0 (.ref 146) true (.ref 147) .none .none (.ref 148) 366 0 38 0 367
def o98 (P:Params):Obj:=fo1 "mask_of" "mask_of" (topS 13) .none .none .none (.str "paritycells.cells" 334) (.ref 149) .none
def o99 (P:Params):Obj:=fo0 "cells_in" "cells_in" (topS 14)
def o100 (P:Params):Obj:=fo2 "cells_in" 369 "cells_in" 370 371 40 0 1 0 0 0 0 0 3 0 (.ref 151) true (.ref 152) .none .none (.ref 153) 372 0 40 0 373
def o101 (P:Params):Obj:=fo1 "cells_in" "cells_in" (topS 14) .none .none .none (.str "paritycells.cells" 334) (.ref 154) .none
def o102 (P:Params):Obj:=(.mk (.type "tuple") none (.seq #[(.str "mask" 378),(.str "rest" 379),(.str "found" 380)] 0) #[])
def o103 (P:Params):Obj:=fo0 "is_odd" "is_odd" (topS 15)
def o104 (P:Params):Obj:=fo2 "is_odd" 375 "is_odd" 376 377 42 0 1 0 0 0 0 0 3 0 (.ref 156) true (.ref 157) (.ref 158) (.ref 159) (.ref 160) 381 0 42 0 382
def o105 (P:Params):Obj:=fo1 "is_odd" "is_odd" (topS 15) .none .none .none (.str "paritycells.cells" 334) (.ref 161) .none
def o106 (P:Params):Obj:=(.mk (.type "dict") none (.dict #[(fo3 P "__name__" 165 (.str "law_paritycells_k92_whole_texts_spoilt" 670)),(fo3 P "__doc__" 166 .none),(fo3 P "__package__" 167 .none),(fo3 P "__loader__" 168 (.builtin "__main__.__loader__#opaque")),(fo3 P "__spec__" 169 .none),(fo3 P "__annotations__" 170 (.ref 6)),(fo3 P "__builtins__" 171 (.ref 4)),(fo3 P "__file__" 173 (.str "/claim/cut.py" 172)),(fo3 P "__cached__" 174 .none),(fo3 P "_wall" 193 (.ref 21)),(fo3 P "CellError" 213 (.ref 31)),(fo3 P "LimitError" 233 (.ref 44)),(fo3 P "NoSize" 258 (.ref 64)),(fo3 P "NoCells" 283 (.ref 83)),(fo3 P "NoFlip" 308 (.ref 102)),(fo3 P "NoText" 333 (.ref 121)),(fo3 P "MOST_CELLS" 337 (.int 40 336)),(fo3 P "is_integer_in" 346 (.ref 130)),(fo3 P "is_cell" 355 (.ref 138)),(fo3 P "require_size" 362 (.ref 145)),(fo3 P "mask_of" 368 (.ref 150)),(fo3 P "cells_in" 374 (.ref 155)),(fo3 P "is_odd" 383 (.ref 162)),(fo3 P "cell_tuple" 390 (.ref 168)),(fo3 P "cell_mask" 398 (.ref 175)),(fo3 P "mask_text" 404 (.ref 180)),(fo3 P "Board" 506 (.ref 260)),(fo3 P "board_of" 514 (.ref 271)),(fo3 P "Flip" 598 (.ref 337)),(fo3 P "DIGITS" 602 (.str "0123456789" 601)),(fo3 P "MOST_DIGITS" 604 (.int 30 603)),(fo3 P "NO_CELLS" 606 (.str "-" 605)),(fo3 P "BETWEEN" 608 (.str "," 607)),(fo3 P "BEFORE_TOGGLED" 610 (.str ">" 609)),(fo3 P "number_in" 616 (.ref 347)),(fo3 P "cells_text" 622 (.ref 352)),(fo3 P "flip_text" 629 (.ref 359)),(fo3 P "board_text" 636 (.ref 366)),(fo3 P "cells_written" 642 (.ref 371)),(fo3 P "read_cells" 650 (.ref 378)),(fo3 P "read_flip" 663 (.ref 385)),(fo3 P "read_board" 669 (.ref 390)),(fo3 P "_law_pot" 680 (.ref 397)),(fo3 P "_law_draw" 689 (.ref 404)),(fo3 P "_law_width" 697 (.ref 411)),(fo3 P "_law_spots" 703 (.ref 416)),(fo3 P "_law_pair" 709 (.ref 421)),(fo3 P "_law_bits" 715 (.ref 426)),(fo3 P "_law_text_of" 721 (.ref 431))] 49) #[])
def o107 (P:Params):Obj:=(.mk .none none (.fields #[(.int 1 0),(.int 0 0),(.ref 20),(.int 5 0),(.int 0 0),(.ref 27),(.int 7 0),(.int 0 0),(.ref 40),(.int 9 0),(.int 0 0),(.ref 53),(.int 14 0),(.int 0 0),(.ref 72),(.int 19 0),(.int 0 0),(.ref 91),(.int 24 0),(.int 0 0),(.ref 110),(.int 31 0),(.int 0 0),(.ref 129),(.int 33 0),(.int 0 0),(.ref 137),(.int 35 0),(.int 0 0),(.ref 144),(.int 38 0),(.int 0 0),(.ref 149),(.int 40 0),(.int 0 0),(.ref 154),(.int 42 0),(.int 0 0),(.ref 161),(.int 48 0),(.int 0 0),(.ref 167),(.int 55 0),(.int 0 0),(.ref 174),(.int 57 0),(.int 0 0),(.ref 179),(.int 62 0),(.int 0 0),(.ref 186),(.int 100 0),(.int 0 0),(.ref 270),(.int 103 0),(.int 0 0),(.ref 277),(.int 141 0),(.int 0 0),(.ref 346),(.int 147 0),(.int 0 0),(.ref 351),(.int 150 0),(.int 0 0),(.ref 358),(.int 152 0),(.int 0 0),(.ref 365),(.int 154 0),(.int 0 0),(.ref 370),(.int 163 0),(.int 0 0),(.ref 377),(.int 168 0),(.int 0 0),(.ref 384),(.int 179 0),(.int 0 0),(.ref 389),(.int 186 0),(.int 0 0),(.ref 396),(.int 189 0),(.int 0 0),(.ref 403),(.int 195 0),(.int 0 0),(.ref 410),(.int 197 0),(.int 0 0),(.ref 415),(.int 206 0),(.int 0 0),(.ref 420),(.int 215 0),(.int 0 0),(.ref 425),(.int 217 0),(.int 0 0),(.ref 430)]) #[])
def o108 (P:Params):Obj:=(.mk (.type "dict") none (.dict #[(fo3 P "size" 384 (.int 40 336))] 1) #[])
def o109 (P:Params):Obj:=fo0 "cell_tuple" "cell_tuple" (topS 16)
def o110 (P:Params):Obj:=fo2 "cell_tuple" 385 "cell_tuple" 386 387 48 0 1 0 0 0 1 0 3 0 (.ref 164) true (.ref 165) .none .none (.ref 166) 388 0 48 0 389
def o111 (P:Params):Obj:=fo1 "cell_tuple" "cell_tuple" (topS 16) .none (.ref 163) .none (.str "paritycells.cells" 334) (.ref 167) .none
def o112 (P:Params):Obj:=(.mk (.type "tuple") none (.seq #[(.str "things" 394),(.str "size" 395)] 0) #[])
def o113 (P:Params):Obj:=fo0 "cell_mask" "cell_mask" (topS 17)
def o114 (P:Params):Obj:=fo2 "cell_mask" 391 "cell_mask" 392 393 55 0 2 0 0 0 0 0 3 0 (.ref 169) true (.ref 170) (.ref 171) (.ref 172) (.ref 173) 396 0 55 0 397
def o115 (P:Params):Obj:=fo1 "cell_mask" "cell_mask" (topS 17) .none .none .none (.str "paritycells.cells" 334) (.ref 174) .none
def o116 (P:Params):Obj:=fo0 "mask_text" "mask_text" (topS 18)
def o117 (P:Params):Obj:=fo2 "mask_text" 399 "mask_text" 400 401 57 0 1 0 0 0 0 0 3 0 (.ref 176) true (.ref 177) .none .none (.ref 178) 402 0 57 0 403
def o118 (P:Params):Obj:=fo1 "mask_text" "mask_text" (topS 18) .none .none .none (.str "paritycells.cells" 334) (.ref 179) .none
def o119 (P:Params):Obj:=(.mk (.type "dict") none (.dict #[(fo3 P "__module__" 414 (.str "paritycells.boards" 405)),(fo3 P "__qualname__" 416 (.str "Board" 415)),(fo3 P "__firstlineno__" 418 (.int 62 417)),(fo3 P "__init__" 428 (.ref 196)),(fo3 P "size" 435 (.ref 203)),(fo3 P "up" 442 (.ref 210)),(fo3 P "is_up" 450 (.ref 217)),(fo3 P "parity" 458 (.ref 224)),(fo3 P "toggled" 467 (.ref 231)),(fo3 P "__eq__" 475 (.ref 238)),(fo3 P "__len__" 482 (.ref 245)),(fo3 P "__repr__" 489 (.ref 252)),(fo3 P "__str__" 495 (.ref 257)),(fo3 P "__static_attributes__" 498 (.ref 258))] 14) #[])
def o120 (P:Params):Obj:=(.mk .none none (.fields #[(.int 64 0),(.int 4 0),(.ref 195),(.int 69 0),(.int 4 0),(.ref 202),(.int 72 0),(.int 4 0),(.ref 209),(.int 75 0),(.int 4 0),(.ref 216),(.int 78 0),(.int 4 0),(.ref 223),(.int 81 0),(.int 4 0),(.ref 230),(.int 87 0),(.int 4 0),(.ref 237),(.int 92 0),(.int 4 0),(.ref 244),(.int 95 0),(.int 4 0),(.ref 251),(.int 98 0),(.int 4 0),(.ref 256)]) #[])
def o121 (P:Params):Obj:=fo2 "Board" 409 "Board" 410 411 62 0 0 0 0 0 0 0 0 0 (.ref 184) false (.ref 185) .none .none .none 412 0 62 0 413
def o122 (P:Params):Obj:=(.mk (.type "frame") none .plain #[(some (.ref 186)),(some (.ref 3)),(some (.ref 183)),none,(some (.str "paritycells.boards" 405)),none,(some (.ref 0))])
def o123 (P:Params):Obj:=(.mk (.type "dict") none (.dict #[(fo3 P "up" 419 (.ref 188))] 1) #[])
def o124 (P:Params):Obj:=(.mk (.type "tuple") none (.seq #[(.str "self" 423),(.str "size" 424),(.str "up" 425)] 0) #[])
def o125 (P:Params):Obj:=fo0 "__init__" "Board.__init__" (clsS 20 0)
def o126 (P:Params):Obj:=fo2 "__init__" 420 "Board.__init__" 421 422 64 0 2 0 0 0 1 0 3 0 (.ref 190) true (.ref 191) (.ref 192) (.ref 193) (.ref 194) 426 0 64 0 427
def o127 (P:Params):Obj:=fo1 "__init__" "Board.__init__" (clsS 20 0) .none (.ref 189) .none (.str "paritycells.boards" 405) (.ref 195) .none
def o128 (P:Params):Obj:=(.mk (.type "tuple") none (.seq #[(.str "self" 432)] 0) #[])
def o129 (P:Params):Obj:=fo0 "size" "Board.size" (clsS 20 1)
def o130 (P:Params):Obj:=fo2 "size" 429 "Board.size" 430 431 69 0 1 0 0 0 0 0 3 0 (.ref 197) true (.ref 198) (.ref 199) (.ref 200) (.ref 201) 433 0 69 0 434
def o131 (P:Params):Obj:=fo1 "size" "Board.size" (clsS 20 1) .none .none .none (.str "paritycells.boards" 405) (.ref 202) .none
def o132 (P:Params):Obj:=(.mk (.type "tuple") none (.seq #[(.str "self" 439)] 0) #[])
def o133 (P:Params):Obj:=fo0 "up" "Board.up" (clsS 20 2)
def o134 (P:Params):Obj:=fo2 "up" 436 "Board.up" 437 438 72 0 1 0 0 0 0 0 3 0 (.ref 204) true (.ref 205) (.ref 206) (.ref 207) (.ref 208) 440 0 72 0 441
def o135 (P:Params):Obj:=fo1 "up" "Board.up" (clsS 20 2) .none .none .none (.str "paritycells.boards" 405) (.ref 209) .none
def o136 (P:Params):Obj:=(.mk (.type "tuple") none (.seq #[(.str "self" 446),(.str "cell" 447)] 0) #[])
def o137 (P:Params):Obj:=fo0 "is_up" "Board.is_up" (clsS 20 3)
def o138 (P:Params):Obj:=fo2 "is_up" 443 "Board.is_up" 444 445 75 0 2 0 0 0 0 0 3 0 (.ref 211) true (.ref 212) (.ref 213) (.ref 214) (.ref 215) 448 0 75 0 449
def o139 (P:Params):Obj:=fo1 "is_up" "Board.is_up" (clsS 20 3) .none .none .none (.str "paritycells.boards" 405) (.ref 216) .none
def o140 (P:Params):Obj:=(.mk (.type "tuple") none (.seq #[(.str "self" 454),(.str "cells" 455)] 0) #[])
def o141 (P:Params):Obj:=fo0 "parity" "Board.parity" (clsS 20 4)
def o142 (P:Params):Obj:=fo2 "parity" 451 "Board.parity" 452 453 78 0 2 0 0 0 0 0 3 0 (.ref 218) true (.ref 219) (.ref 220) (.ref 221) (.ref 222) 456 0 78 0 457
def o143 (P:Params):Obj:=fo1 "parity" "Board.parity" (clsS 20 4) .none .none .none (.str "paritycells.boards" 405) (.ref 223) .none
def o144 (P:Params):Obj:=(.mk (.type "tuple") none (.seq #[(.str "self" 462),(.str "cells" 463),(.str "changed" 464)] 0) #[])
def o145 (P:Params):Obj:=fo0 "toggled" "Board.toggled" (clsS 20 5)
def o146 (P:Params):Obj:=fo2 "toggled" 459 "Board.toggled" 460 461 81 0 2 0 0 0 0 0 3 0 (.ref 225) true (.ref 226) (.ref 227) (.ref 228) (.ref 229) 465 0 81 0 466
def o147 (P:Params):Obj:=fo1 "toggled" "Board.toggled" (clsS 20 5) .none .none .none (.str "paritycells.boards" 405) (.ref 230) .none
def o148 (P:Params):Obj:=(.mk (.type "tuple") none (.seq #[(.str "self" 471),(.str "other" 472)] 0) #[])
def o149 (P:Params):Obj:=fo0 "__eq__" "Board.__eq__" (clsS 20 6)
def o150 (P:Params):Obj:=fo2 "__eq__" 468 "Board.__eq__" 469 470 87 0 2 0 0 0 0 0 3 0 (.ref 232) true (.ref 233) (.ref 234) (.ref 235) (.ref 236) 473 0 87 0 474
def o151 (P:Params):Obj:=fo1 "__eq__" "Board.__eq__" (clsS 20 6) .none .none .none (.str "paritycells.boards" 405) (.ref 237) .none
def o152 (P:Params):Obj:=(.mk (.type "tuple") none (.seq #[(.str "self" 479)] 0) #[])
def o153 (P:Params):Obj:=fo0 "__len__" "Board.__len__" (clsS 20 7)
def o154 (P:Params):Obj:=fo2 "__len__" 476 "Board.__len__" 477 478 92 0 1 0 0 0 0 0 3 0 (.ref 239) true (.ref 240) (.ref 241) (.ref 242) (.ref 243) 480 0 92 0 481
def o155 (P:Params):Obj:=fo1 "__len__" "Board.__len__" (clsS 20 7) .none .none .none (.str "paritycells.boards" 405) (.ref 244) .none
def o156 (P:Params):Obj:=(.mk (.type "tuple") none (.seq #[(.str "self" 486)] 0) #[])
def o157 (P:Params):Obj:=fo0 "__repr__" "Board.__repr__" (clsS 20 8)
def o158 (P:Params):Obj:=fo2 "__repr__" 483 "Board.__repr__" 484 485 95 0 1 0 0 0 0 0 3 0 (.ref 246) true (.ref 247) (.ref 248) (.ref 249) (.ref 250) 487 0 95 0 488
def o159 (P:Params):Obj:=fo1 "__repr__" "Board.__repr__" (clsS 20 8) .none .none .none (.str "paritycells.boards" 405) (.ref 251) .none
def o160 (P:Params):Obj:=fo0 "__str__" "Board.__str__" (clsS 20 9)
def o161 (P:Params):Obj:=fo2 "__str__" 490 "Board.__str__" 491 492 98 0 1 0 0 0 0 0 3 0 (.ref 253) true (.ref 254) .none .none (.ref 255) 493 0 98 0 494
def o162 (P:Params):Obj:=fo1 "__str__" "Board.__str__" (clsS 20 9) .none .none .none (.str "paritycells.boards" 405) (.ref 256) .none
def o163 (P:Params):Obj:=(.mk (.type "tuple") none (.seq #[(.str "own_size" 496),(.str "up_mask" 497)] 0) #[])
def o164 (P:Params):Obj:=(.mk (.type "dict") none (.dict #[(fo3 P "__module__" 414 (.str "paritycells.boards" 405)),(fo3 P "__firstlineno__" 418 (.int 62 417)),(fo3 P "__init__" 428 (.ref 196)),(fo3 P "size" 435 (.ref 203)),(fo3 P "up" 442 (.ref 210)),(fo3 P "is_up" 450 (.ref 217)),(fo3 P "parity" 458 (.ref 224)),(fo3 P "toggled" 467 (.ref 231)),(fo3 P "__eq__" 475 (.ref 238)),(fo3 P "__len__" 482 (.ref 245)),(fo3 P "__repr__" 489 (.ref 252)),(fo3 P "__str__" 495 (.ref 257)),(fo3 P "__static_attributes__" 498 (.ref 258)),(fo3 P "__dict__" 500 (.ref 261)),(fo3 P "__weakref__" 502 (.ref 262)),(fo3 P "__doc__" 503 .none),(fo3 P "__hash__" 504 .none)] 5) #[])
def o165 (P:Params):Obj:=(.mk (.type "type") none (.cls (.mk "Board" [(.type "object")] [(.ref 260),(.type "object")] 259 "Board" true [] [] false none false)) #[none,none,(some (.str "Board" 407)),(some (.str "Board" 415)),(some (.builtin "object.__new__")),(some (.bool true))])
def o166 (P:Params):Obj:=(.mk (.type "getset_descriptor") none (.fields #[(.str "__dict__" 499),(.ref 260),(.builtin "function.__dict__"),(.builtin "function.__dict__#set")]) #[])
def o167 (P:Params):Obj:=(.mk (.type "getset_descriptor") none (.fields #[(.str "__weakref__" 501),(.ref 260),(.builtin "ExceptionGroup.__weakref__"),.none]) #[])
def o168 (P:Params):Obj:=(.mk (.type "super") none (.fields #[(.ref 260),(.ref 260),(.ref 260)]) #[])
def o169 (P:Params):Obj:=(.mk (.type "builtin_function_or_method") none (.fields #[(.builtin "object.__init_subclass__"),(.ref 260)]) #[])
def o170 (P:Params):Obj:=(.mk (.type "tuple") none (.seq #[(.str "size" 510),(.str "mask" 511)] 0) #[])
def o171 (P:Params):Obj:=fo0 "board_of" "board_of" (topS 21)
def o172 (P:Params):Obj:=fo2 "board_of" 507 "board_of" 508 509 100 0 2 0 0 0 0 0 3 0 (.ref 265) true (.ref 266) (.ref 267) (.ref 268) (.ref 269) 512 0 100 0 513
def o173 (P:Params):Obj:=fo1 "board_of" "board_of" (topS 21) .none .none .none (.str "paritycells.boards" 405) (.ref 270) .none
def o174 (P:Params):Obj:=(.mk (.type "dict") none (.dict #[(fo3 P "__module__" 524 (.str "paritycells.flips" 515)),(fo3 P "__qualname__" 526 (.str "Flip" 525)),(fo3 P "__firstlineno__" 528 (.int 103 527)),(fo3 P "__init__" 537 (.ref 285)),(fo3 P "tested" 544 (.ref 292)),(fo3 P "toggled" 551 (.ref 299)),(fo3 P "is_idle" 558 (.ref 306)),(fo3 P "width" 565 (.ref 313)),(fo3 P "__eq__" 573 (.ref 320)),(fo3 P "__repr__" 580 (.ref 327)),(fo3 P "__str__" 587 (.ref 334)),(fo3 P "__static_attributes__" 590 (.ref 335))] 12) #[])
def o175 (P:Params):Obj:=(.mk .none none (.fields #[(.int 105 0),(.int 4 0),(.ref 284),(.int 113 0),(.int 4 0),(.ref 291),(.int 116 0),(.int 4 0),(.ref 298),(.int 119 0),(.int 4 0),(.ref 305),(.int 122 0),(.int 4 0),(.ref 312),(.int 125 0),(.int 4 0),(.ref 319),(.int 130 0),(.int 4 0),(.ref 326),(.int 133 0),(.int 4 0),(.ref 333)]) #[])
def o176 (P:Params):Obj:=fo2 "Flip" 519 "Flip" 520 521 103 0 0 0 0 0 0 0 0 0 (.ref 275) false (.ref 276) .none .none .none 522 0 103 0 523
def o177 (P:Params):Obj:=(.mk (.type "frame") none .plain #[(some (.ref 277)),(some (.ref 3)),(some (.ref 274)),none,(some (.str "paritycells.flips" 515)),none,(some (.ref 0))])
def o178 (P:Params):Obj:=(.mk (.type "tuple") none (.seq #[(.str "self" 532),(.str "tested" 533),(.str "toggled" 534)] 0) #[])
def o179 (P:Params):Obj:=fo0 "__init__" "Flip.__init__" (clsS 23 0)
def o180 (P:Params):Obj:=fo2 "__init__" 529 "Flip.__init__" 530 531 105 0 3 0 0 0 0 0 3 0 (.ref 279) true (.ref 280) (.ref 281) (.ref 282) (.ref 283) 535 0 105 0 536
def o181 (P:Params):Obj:=fo1 "__init__" "Flip.__init__" (clsS 23 0) .none .none .none (.str "paritycells.flips" 515) (.ref 284) .none
def o182 (P:Params):Obj:=(.mk (.type "tuple") none (.seq #[(.str "self" 541)] 0) #[])
def o183 (P:Params):Obj:=fo0 "tested" "Flip.tested" (clsS 23 1)
def o184 (P:Params):Obj:=fo2 "tested" 538 "Flip.tested" 539 540 113 0 1 0 0 0 0 0 3 0 (.ref 286) true (.ref 287) (.ref 288) (.ref 289) (.ref 290) 542 0 113 0 543
def o185 (P:Params):Obj:=fo1 "tested" "Flip.tested" (clsS 23 1) .none .none .none (.str "paritycells.flips" 515) (.ref 291) .none
def o186 (P:Params):Obj:=(.mk (.type "tuple") none (.seq #[(.str "self" 548)] 0) #[])
def o187 (P:Params):Obj:=fo0 "toggled" "Flip.toggled" (clsS 23 2)
def o188 (P:Params):Obj:=fo2 "toggled" 545 "Flip.toggled" 546 547 116 0 1 0 0 0 0 0 3 0 (.ref 293) true (.ref 294) (.ref 295) (.ref 296) (.ref 297) 549 0 116 0 550
def o189 (P:Params):Obj:=fo1 "toggled" "Flip.toggled" (clsS 23 2) .none .none .none (.str "paritycells.flips" 515) (.ref 298) .none
def o190 (P:Params):Obj:=(.mk (.type "tuple") none (.seq #[(.str "self" 555)] 0) #[])
def o191 (P:Params):Obj:=fo0 "is_idle" "Flip.is_idle" (clsS 23 3)
def o192 (P:Params):Obj:=fo2 "is_idle" 552 "Flip.is_idle" 553 554 119 0 1 0 0 0 0 0 3 0 (.ref 300) true (.ref 301) (.ref 302) (.ref 303) (.ref 304) 556 0 119 0 557
def o193 (P:Params):Obj:=fo1 "is_idle" "Flip.is_idle" (clsS 23 3) .none .none .none (.str "paritycells.flips" 515) (.ref 305) .none
def o194 (P:Params):Obj:=(.mk (.type "tuple") none (.seq #[(.str "self" 562)] 0) #[])
def o195 (P:Params):Obj:=fo0 "width" "Flip.width" (clsS 23 4)
def o196 (P:Params):Obj:=fo2 "width" 559 "Flip.width" 560 561 122 0 1 0 0 0 0 0 3 0 (.ref 307) true (.ref 308) (.ref 309) (.ref 310) (.ref 311) 563 0 122 0 564
def o197 (P:Params):Obj:=fo1 "width" "Flip.width" (clsS 23 4) .none .none .none (.str "paritycells.flips" 515) (.ref 312) .none
def o198 (P:Params):Obj:=(.mk (.type "tuple") none (.seq #[(.str "self" 569),(.str "other" 570)] 0) #[])
def o199 (P:Params):Obj:=fo0 "__eq__" "Flip.__eq__" (clsS 23 5)
def o200 (P:Params):Obj:=fo2 "__eq__" 566 "Flip.__eq__" 567 568 125 0 2 0 0 0 0 0 3 0 (.ref 314) true (.ref 315) (.ref 316) (.ref 317) (.ref 318) 571 0 125 0 572
def o201 (P:Params):Obj:=fo1 "__eq__" "Flip.__eq__" (clsS 23 5) .none .none .none (.str "paritycells.flips" 515) (.ref 319) .none
def o202 (P:Params):Obj:=(.mk (.type "tuple") none (.seq #[(.str "self" 577)] 0) #[])
def o203 (P:Params):Obj:=fo0 "__repr__" "Flip.__repr__" (clsS 23 6)
def o204 (P:Params):Obj:=fo2 "__repr__" 574 "Flip.__repr__" 575 576 130 0 1 0 0 0 0 0 3 0 (.ref 321) true (.ref 322) (.ref 323) (.ref 324) (.ref 325) 578 0 130 0 579
def o205 (P:Params):Obj:=fo1 "__repr__" "Flip.__repr__" (clsS 23 6) .none .none .none (.str "paritycells.flips" 515) (.ref 326) .none
def o206 (P:Params):Obj:=(.mk (.type "tuple") none (.seq #[(.str "self" 584)] 0) #[])
def o207 (P:Params):Obj:=fo0 "__str__" "Flip.__str__" (clsS 23 7)
def o208 (P:Params):Obj:=fo2 "__str__" 581 "Flip.__str__" 582 583 133 0 1 0 0 0 0 0 3 0 (.ref 328) true (.ref 329) (.ref 330) (.ref 331) (.ref 332) 585 0 133 0 586
def o209 (P:Params):Obj:=fo1 "__str__" "Flip.__str__" (clsS 23 7) .none .none .none (.str "paritycells.flips" 515) (.ref 333) .none
def o210 (P:Params):Obj:=(.mk (.type "tuple") none (.seq #[(.str "test_mask" 588),(.str "toggle_mask" 589)] 0) #[])
def o211 (P:Params):Obj:=(.mk (.type "dict") none (.dict #[(fo3 P "__module__" 524 (.str "paritycells.flips" 515)),(fo3 P "__firstlineno__" 528 (.int 103 527)),(fo3 P "__init__" 537 (.ref 285)),(fo3 P "tested" 544 (.ref 292)),(fo3 P "toggled" 551 (.ref 299)),(fo3 P "is_idle" 558 (.ref 306)),(fo3 P "width" 565 (.ref 313)),(fo3 P "__eq__" 573 (.ref 320)),(fo3 P "__repr__" 580 (.ref 327)),(fo3 P "__str__" 587 (.ref 334)),(fo3 P "__static_attributes__" 590 (.ref 335)),(fo3 P "__dict__" 592 (.ref 338)),(fo3 P "__weakref__" 594 (.ref 339)),(fo3 P "__doc__" 595 .none),(fo3 P "__hash__" 596 .none)] 5) #[])
def o212 (P:Params):Obj:=(.mk (.type "type") none (.cls (.mk "Flip" [(.type "object")] [(.ref 337),(.type "object")] 336 "Flip" true [] [] false none false)) #[none,none,(some (.str "Flip" 517)),(some (.str "Flip" 525)),(some (.builtin "object.__new__")),(some (.bool true))])
def o213 (P:Params):Obj:=(.mk (.type "getset_descriptor") none (.fields #[(.str "__dict__" 591),(.ref 337),(.builtin "function.__dict__"),(.builtin "function.__dict__#set")]) #[])
def o214 (P:Params):Obj:=(.mk (.type "getset_descriptor") none (.fields #[(.str "__weakref__" 593),(.ref 337),(.builtin "ExceptionGroup.__weakref__"),.none]) #[])
def o215 (P:Params):Obj:=(.mk (.type "super") none (.fields #[(.ref 337),(.ref 337),(.ref 337)]) #[])
def o216 (P:Params):Obj:=(.mk (.type "builtin_function_or_method") none (.fields #[(.builtin "object.__init_subclass__"),(.ref 337)]) #[])
def o217 (P:Params):Obj:=(.mk (.type "tuple") none (.seq #[(.int 30 603)] 0) #[])
def o218 (P:Params):Obj:=fo0 "number_in" "number_in" (topS 30)
def o219 (P:Params):Obj:=fo2 "number_in" 611 "number_in" 612 613 141 0 2 0 0 0 0 0 3 0 (.ref 343) true (.ref 344) .none .none (.ref 345) 614 0 141 0 615
def o220 (P:Params):Obj:=fo1 "number_in" "number_in" (topS 30) (.ref 342) .none .none (.str "paritycells.texts" 599) (.ref 346) .none
def o221 (P:Params):Obj:=fo0 "cells_text" "cells_text" (topS 31)
def o222 (P:Params):Obj:=fo2 "cells_text" 617 "cells_text" 618 619 147 0 1 0 0 0 0 0 3 0 (.ref 348) true (.ref 349) .none .none (.ref 350) 620 0 147 0 621
def o223 (P:Params):Obj:=fo1 "cells_text" "cells_text" (topS 31) .none .none .none (.str "paritycells.texts" 599) (.ref 351) .none
def o224 (P:Params):Obj:=(.mk (.type "tuple") none (.seq #[(.str "flip" 626)] 0) #[])
def o225 (P:Params):Obj:=fo0 "flip_text" "flip_text" (topS 32)
def o226 (P:Params):Obj:=fo2 "flip_text" 623 "flip_text" 624 625 150 0 1 0 0 0 0 0 3 0 (.ref 353) true (.ref 354) (.ref 355) (.ref 356) (.ref 357) 627 0 150 0 628
def o227 (P:Params):Obj:=fo1 "flip_text" "flip_text" (topS 32) .none .none .none (.str "paritycells.texts" 599) (.ref 358) .none
def o228 (P:Params):Obj:=(.mk (.type "tuple") none (.seq #[(.str "board" 633)] 0) #[])
def o229 (P:Params):Obj:=fo0 "board_text" "board_text" (topS 33)
def o230 (P:Params):Obj:=fo2 "board_text" 630 "board_text" 631 632 152 0 1 0 0 0 0 0 3 0 (.ref 360) true (.ref 361) (.ref 362) (.ref 363) (.ref 364) 634 0 152 0 635
def o231 (P:Params):Obj:=fo1 "board_text" "board_text" (topS 33) .none .none .none (.str "paritycells.texts" 599) (.ref 365) .none
def o232 (P:Params):Obj:=fo0 "cells_written" "cells_written" (topS 34)
def o233 (P:Params):Obj:=fo2 "cells_written" 637 "cells_written" 638 639 154 0 1 0 0 0 0 0 3 0 (.ref 367) true (.ref 368) .none .none (.ref 369) 640 0 154 0 641
def o234 (P:Params):Obj:=fo1 "cells_written" "cells_written" (topS 34) .none .none .none (.str "paritycells.texts" 599) (.ref 370) .none
def o235 (P:Params):Obj:=(.mk (.type "tuple") none (.seq #[(.str "text" 646),(.str "found" 647)] 0) #[])
def o236 (P:Params):Obj:=fo0 "read_cells" "read_cells" (topS 35)
def o237 (P:Params):Obj:=fo2 "read_cells" 643 "read_cells" 644 645 163 0 1 0 0 0 0 0 3 0 (.ref 372) true (.ref 373) (.ref 374) (.ref 375) (.ref 376) 648 0 163 0 649
def o238 (P:Params):Obj:=fo1 "read_cells" "read_cells" (topS 35) .none .none .none (.str "paritycells.texts" 599) (.ref 377) .none
def o239 (P:Params):Obj:=(.mk (.type "tuple") none (.seq #[(.str "text" 654),(.str "left" 655),(.str "between" 656),(.str "right" 657),(.str "tested" 658),(.str "toggled" 659),(.str "e" 660)] 0) #[])
def o240 (P:Params):Obj:=fo0 "read_flip" "read_flip" (topS 36)
def o241 (P:Params):Obj:=fo2 "read_flip" 651 "read_flip" 652 653 168 0 1 0 0 0 0 0 3 0 (.ref 379) true (.ref 380) (.ref 381) (.ref 382) (.ref 383) 661 0 168 0 662
def o242 (P:Params):Obj:=fo1 "read_flip" "read_flip" (topS 36) .none .none .none (.str "paritycells.texts" 599) (.ref 384) .none
def o243 (P:Params):Obj:=fo0 "read_board" "read_board" (topS 37)
def o244 (P:Params):Obj:=fo2 "read_board" 664 "read_board" 665 666 179 0 1 0 0 0 0 0 3 0 (.ref 386) true (.ref 387) .none .none (.ref 388) 667 0 179 0 668
def o245 (P:Params):Obj:=fo1 "read_board" "read_board" (topS 37) .none .none .none (.str "paritycells.texts" 599) (.ref 389) .none
def o246 (P:Params):Obj:=(.mk (.type "tuple") none (.seq #[(.str "_law_script" 675),(.str "_law_k" 676),(.str "_law_number" 677)] 0) #[])
def o247 (P:Params):Obj:=fo0 "_law_pot" "_law_pot" (topS 39)
def o248 (P:Params):Obj:=fo2 "_law_pot" 672 "_law_pot" 673 674 186 0 2 0 0 0 0 0 3 0 (.ref 391) true (.ref 392) (.ref 393) (.ref 394) (.ref 395) 678 0 186 0 679
def o249 (P:Params):Obj:=fo1 "_law_pot" "_law_pot" (topS 39) .none .none .none (.str "law_paritycells_k92_whole_texts_spoilt" 670) (.ref 396) .none
def o250 (P:Params):Obj:=(.mk (.type "tuple") none (.seq #[(.str "_law_pot_here" 684),(.str "_law_many" 685),(.str "_law_digit" 686)] 0) #[])
def o251 (P:Params):Obj:=fo0 "_law_draw" "_law_draw" (topS 40)
def o252 (P:Params):Obj:=fo2 "_law_draw" 681 "_law_draw" 682 683 189 0 2 0 0 0 0 0 3 0 (.ref 398) true (.ref 399) (.ref 400) (.ref 401) (.ref 402) 687 0 189 0 688
def o253 (P:Params):Obj:=fo1 "_law_draw" "_law_draw" (topS 40) .none .none .none (.str "law_paritycells_k92_whole_texts_spoilt" 670) (.ref 403) .none
def o254 (P:Params):Obj:=(.mk (.type "tuple") none (.seq #[(.str "_law_pot_here" 693),(.str "_law_most" 694)] 0) #[])
def o255 (P:Params):Obj:=fo0 "_law_width" "_law_width" (topS 41)
def o256 (P:Params):Obj:=fo2 "_law_width" 690 "_law_width" 691 692 195 0 2 0 0 0 0 0 3 0 (.ref 405) true (.ref 406) (.ref 407) (.ref 408) (.ref 409) 695 0 195 0 696
def o257 (P:Params):Obj:=fo1 "_law_width" "_law_width" (topS 41) .none .none .none (.str "law_paritycells_k92_whole_texts_spoilt" 670) (.ref 410) .none
def o258 (P:Params):Obj:=fo0 "_law_spots" "_law_spots" (topS 42)
def o259 (P:Params):Obj:=fo2 "_law_spots" 698 "_law_spots" 699 700 197 0 3 0 0 0 0 0 3 0 (.ref 412) true (.ref 413) .none .none (.ref 414) 701 0 197 0 702
def o260 (P:Params):Obj:=fo1 "_law_spots" "_law_spots" (topS 42) .none .none .none (.str "law_paritycells_k92_whole_texts_spoilt" 670) (.ref 415) .none
def o261 (P:Params):Obj:=fo0 "_law_pair" "_law_pair" (topS 43)
def o262 (P:Params):Obj:=fo2 "_law_pair" 704 "_law_pair" 705 706 206 0 2 0 0 0 0 0 3 0 (.ref 417) true (.ref 418) .none .none (.ref 419) 707 0 206 0 708
def o263 (P:Params):Obj:=fo1 "_law_pair" "_law_pair" (topS 43) .none .none .none (.str "law_paritycells_k92_whole_texts_spoilt" 670) (.ref 420) .none
def o264 (P:Params):Obj:=fo0 "_law_bits" "_law_bits" (topS 44)
def o265 (P:Params):Obj:=fo2 "_law_bits" 710 "_law_bits" 711 712 215 0 2 0 0 0 0 0 3 0 (.ref 422) true (.ref 423) .none .none (.ref 424) 713 0 215 0 714
def o266 (P:Params):Obj:=fo1 "_law_bits" "_law_bits" (topS 44) .none .none .none (.str "law_paritycells_k92_whole_texts_spoilt" 670) (.ref 425) .none
def o267 (P:Params):Obj:=fo0 "_law_text_of" "_law_text_of" (topS 45)
def o268 (P:Params):Obj:=fo2 "_law_text_of" 716 "_law_text_of" 717 718 217 0 1 0 0 0 0 0 3 0 (.ref 427) true (.ref 428) .none .none (.ref 429) 719 0 217 0 720
def o269 (P:Params):Obj:=fo1 "_law_text_of" "_law_text_of" (topS 45) .none .none .none (.str "law_paritycells_k92_whole_texts_spoilt" 670) (.ref 430) .none
def o270 (P:Params):Obj:=(.mk (.type "dict") none (.dict #[(fo3 P "__name__" 165 (.str "law_paritycells_k92_whole_texts_spoilt" 670)),(fo3 P "__doc__" 166 .none),(fo3 P "__package__" 167 .none),(fo3 P "__loader__" 168 (.builtin "__main__.__loader__#opaque")),(fo3 P "__spec__" 169 .none),(fo3 P "__annotations__" 170 (.ref 6)),(fo3 P "__builtins__" 171 (.ref 4)),(fo3 P "__file__" 173 (.str "/claim/cut.py" 172)),(fo3 P "__cached__" 174 .none),(fo3 P "_wall" 193 (.ref 21)),(fo3 P "CellError" 213 (.ref 31)),(fo3 P "LimitError" 233 (.ref 44)),(fo3 P "NoSize" 258 (.ref 64)),(fo3 P "NoCells" 283 (.ref 83)),(fo3 P "NoFlip" 308 (.ref 102)),(fo3 P "NoText" 333 (.ref 121)),(fo3 P "MOST_CELLS" 337 (.int 40 336)),(fo3 P "is_integer_in" 346 (.ref 130)),(fo3 P "is_cell" 355 (.ref 138)),(fo3 P "require_size" 362 (.ref 145)),(fo3 P "mask_of" 368 (.ref 150)),(fo3 P "cells_in" 374 (.ref 155)),(fo3 P "is_odd" 383 (.ref 162)),(fo3 P "cell_tuple" 390 (.ref 168)),(fo3 P "cell_mask" 398 (.ref 175)),(fo3 P "mask_text" 404 (.ref 180)),(fo3 P "Board" 506 (.ref 260)),(fo3 P "board_of" 514 (.ref 271)),(fo3 P "Flip" 598 (.ref 337)),(fo3 P "DIGITS" 602 (.str "0123456789" 601)),(fo3 P "MOST_DIGITS" 604 (.int 30 603)),(fo3 P "NO_CELLS" 606 (.str "-" 605)),(fo3 P "BETWEEN" 608 (.str "," 607)),(fo3 P "BEFORE_TOGGLED" 610 (.str ">" 609)),(fo3 P "number_in" 616 (.ref 347)),(fo3 P "cells_text" 622 (.ref 352)),(fo3 P "flip_text" 629 (.ref 359)),(fo3 P "board_text" 636 (.ref 366)),(fo3 P "cells_written" 642 (.ref 371)),(fo3 P "read_cells" 650 (.ref 378)),(fo3 P "read_flip" 663 (.ref 385)),(fo3 P "read_board" 669 (.ref 390)),(fo3 P "_law_pot" 680 (.ref 397)),(fo3 P "_law_draw" 689 (.ref 404)),(fo3 P "_law_width" 697 (.ref 411)),(fo3 P "_law_spots" 703 (.ref 416)),(fo3 P "_law_pair" 709 (.ref 421)),(fo3 P "_law_bits" 715 (.ref 426)),(fo3 P "_law_text_of" 721 (.ref 431)),(fo3 P "_law_pair_text" 728 (.ref 438)),(fo3 P "_law_bits_text" 734 (.ref 443)),(fo3 P "_law_are_cells" 740 (.ref 448)),(fo3 P "_law_own_spots" 746 (.ref 453)),(fo3 P "_law_is_flip" 752 (.ref 458)),(fo3 P "_law_is_board" 758 (.ref 463)),(fo3 P "_law_read" 766 (.ref 470)),(fo3 P "_law_told" 777 (.ref 477)),(fo3 P "_law_due" 787 (.ref 484)),(fo3 P "_law_bent" 801 (.ref 491)),(fo3 P "law" 807 (.ref 496))] 60) #[])
def o271 (P:Params):Obj:=(.mk .none none (.fields #[(.int 1 0),(.int 0 0),(.ref 20),(.int 5 0),(.int 0 0),(.ref 27),(.int 7 0),(.int 0 0),(.ref 40),(.int 9 0),(.int 0 0),(.ref 53),(.int 14 0),(.int 0 0),(.ref 72),(.int 19 0),(.int 0 0),(.ref 91),(.int 24 0),(.int 0 0),(.ref 110),(.int 31 0),(.int 0 0),(.ref 129),(.int 33 0),(.int 0 0),(.ref 137),(.int 35 0),(.int 0 0),(.ref 144),(.int 38 0),(.int 0 0),(.ref 149),(.int 40 0),(.int 0 0),(.ref 154),(.int 42 0),(.int 0 0),(.ref 161),(.int 48 0),(.int 0 0),(.ref 167),(.int 55 0),(.int 0 0),(.ref 174),(.int 57 0),(.int 0 0),(.ref 179),(.int 62 0),(.int 0 0),(.ref 186),(.int 100 0),(.int 0 0),(.ref 270),(.int 103 0),(.int 0 0),(.ref 277),(.int 141 0),(.int 0 0),(.ref 346),(.int 147 0),(.int 0 0),(.ref 351),(.int 150 0),(.int 0 0),(.ref 358),(.int 152 0),(.int 0 0),(.ref 365),(.int 154 0),(.int 0 0),(.ref 370),(.int 163 0),(.int 0 0),(.ref 377),(.int 168 0),(.int 0 0),(.ref 384),(.int 179 0),(.int 0 0),(.ref 389),(.int 186 0),(.int 0 0),(.ref 396),(.int 189 0),(.int 0 0),(.ref 403),(.int 195 0),(.int 0 0),(.ref 410),(.int 197 0),(.int 0 0),(.ref 415),(.int 206 0),(.int 0 0),(.ref 420),(.int 215 0),(.int 0 0),(.ref 425),(.int 217 0),(.int 0 0),(.ref 430),(.int 219 0),(.int 0 0),(.ref 437),(.int 221 0),(.int 0 0),(.ref 442),(.int 223 0),(.int 0 0),(.ref 447),(.int 234 0),(.int 0 0),(.ref 452),(.int 236 0),(.int 0 0),(.ref 457),(.int 242 0),(.int 0 0),(.ref 462),(.int 246 0),(.int 0 0),(.ref 469),(.int 250 0),(.int 0 0),(.ref 476),(.int 258 0),(.int 0 0),(.ref 483),(.int 264 0),(.int 0 0),(.ref 490),(.int 285 0),(.int 0 0),(.ref 495)]) #[])
def o272 (P:Params):Obj:=(.mk (.type "tuple") none (.seq #[(.str "_law_pair_here" 725)] 0) #[])
def o273 (P:Params):Obj:=fo0 "_law_pair_text" "_law_pair_text" (topS 46)
def o274 (P:Params):Obj:=fo2 "_law_pair_text" 722 "_law_pair_text" 723 724 219 0 1 0 0 0 0 0 3 0 (.ref 432) true (.ref 433) (.ref 434) (.ref 435) (.ref 436) 726 0 219 0 727
def o275 (P:Params):Obj:=fo1 "_law_pair_text" "_law_pair_text" (topS 46) .none .none .none (.str "law_paritycells_k92_whole_texts_spoilt" 670) (.ref 437) .none
def o276 (P:Params):Obj:=fo0 "_law_bits_text" "_law_bits_text" (topS 47)
def o277 (P:Params):Obj:=fo2 "_law_bits_text" 729 "_law_bits_text" 730 731 221 0 1 0 0 0 0 0 3 0 (.ref 439) true (.ref 440) .none .none (.ref 441) 732 0 221 0 733
def o278 (P:Params):Obj:=fo1 "_law_bits_text" "_law_bits_text" (topS 47) .none .none .none (.str "law_paritycells_k92_whole_texts_spoilt" 670) (.ref 442) .none
def o279 (P:Params):Obj:=fo0 "_law_are_cells" "_law_are_cells" (topS 48)
def o280 (P:Params):Obj:=fo2 "_law_are_cells" 735 "_law_are_cells" 736 737 223 0 1 0 0 0 0 0 3 0 (.ref 444) true (.ref 445) .none .none (.ref 446) 738 0 223 0 739
def o281 (P:Params):Obj:=fo1 "_law_are_cells" "_law_are_cells" (topS 48) .none .none .none (.str "law_paritycells_k92_whole_texts_spoilt" 670) (.ref 447) .none
def o282 (P:Params):Obj:=fo0 "_law_own_spots" "_law_own_spots" (topS 49)
def o283 (P:Params):Obj:=fo2 "_law_own_spots" 741 "_law_own_spots" 742 743 234 0 1 0 0 0 0 0 3 0 (.ref 449) true (.ref 450) .none .none (.ref 451) 744 0 234 0 745
def o284 (P:Params):Obj:=fo1 "_law_own_spots" "_law_own_spots" (topS 49) .none .none .none (.str "law_paritycells_k92_whole_texts_spoilt" 670) (.ref 452) .none
def o285 (P:Params):Obj:=fo0 "_law_is_flip" "_law_is_flip" (topS 50)
def o286 (P:Params):Obj:=fo2 "_law_is_flip" 747 "_law_is_flip" 748 749 236 0 1 0 0 0 0 0 3 0 (.ref 454) true (.ref 455) .none .none (.ref 456) 750 0 236 0 751
def o287 (P:Params):Obj:=fo1 "_law_is_flip" "_law_is_flip" (topS 50) .none .none .none (.str "law_paritycells_k92_whole_texts_spoilt" 670) (.ref 457) .none
def o288 (P:Params):Obj:=fo0 "_law_is_board" "_law_is_board" (topS 51)
def o289 (P:Params):Obj:=fo2 "_law_is_board" 753 "_law_is_board" 754 755 242 0 1 0 0 0 0 0 3 0 (.ref 459) true (.ref 460) .none .none (.ref 461) 756 0 242 0 757
def o290 (P:Params):Obj:=fo1 "_law_is_board" "_law_is_board" (topS 51) .none .none .none (.str "law_paritycells_k92_whole_texts_spoilt" 670) (.ref 462) .none
def o291 (P:Params):Obj:=(.mk (.type "tuple") none (.seq #[(.str "_law_door" 762),(.str "_law_text" 763)] 0) #[])
def o292 (P:Params):Obj:=fo0 "_law_read" "_law_read" (topS 52)
def o293 (P:Params):Obj:=fo2 "_law_read" 759 "_law_read" 760 761 246 0 2 0 0 0 0 0 3 0 (.ref 464) true (.ref 465) (.ref 466) (.ref 467) (.ref 468) 764 0 246 0 765
def o294 (P:Params):Obj:=fo1 "_law_read" "_law_read" (topS 52) .none .none .none (.str "law_paritycells_k92_whole_texts_spoilt" 670) (.ref 469) .none
def o295 (P:Params):Obj:=(.mk (.type "tuple") none (.seq #[(.str "_law_door" 770),(.str "_law_text" 771),(.str "_law_told_here" 772),(.str "e" 773),(.str "_law_others" 774)] 0) #[])
def o296 (P:Params):Obj:=fo0 "_law_told" "_law_told" (topS 53)
def o297 (P:Params):Obj:=fo2 "_law_told" 767 "_law_told" 768 769 250 0 2 0 0 0 0 0 3 0 (.ref 471) true (.ref 472) (.ref 473) (.ref 474) (.ref 475) 775 0 250 0 776
def o298 (P:Params):Obj:=fo1 "_law_told" "_law_told" (topS 53) .none .none .none (.str "law_paritycells_k92_whole_texts_spoilt" 670) (.ref 476) .none
def o299 (P:Params):Obj:=(.mk (.type "tuple") none (.seq #[(.str "_law_door" 781),(.str "_law_text" 782),(.str "_law_are" 783),(.str "_law_is_so" 784)] 0) #[])
def o300 (P:Params):Obj:=fo0 "_law_due" "_law_due" (topS 54)
def o301 (P:Params):Obj:=fo2 "_law_due" 778 "_law_due" 779 780 258 0 2 0 0 0 0 0 3 0 (.ref 478) true (.ref 479) (.ref 480) (.ref 481) (.ref 482) 785 0 258 0 786
def o302 (P:Params):Obj:=fo1 "_law_due" "_law_due" (topS 54) .none .none .none (.str "law_paritycells_k92_whole_texts_spoilt" 670) (.ref 483) .none
def o303 (P:Params):Obj:=(.mk (.type "tuple") none (.seq #[(.str "_law_pot_here" 791),(.str "_law_text" 792),(.str "_law_at" 793),(.str "_law_way" 794),(.str "_law_sign" 795),(.str "_law_words" 796),(.str "_law_spot" 797),(.str "_law_more" 798)] 0) #[])
def o304 (P:Params):Obj:=fo0 "_law_bent" "_law_bent" (topS 55)
def o305 (P:Params):Obj:=fo2 "_law_bent" 788 "_law_bent" 789 790 264 0 2 0 0 0 0 0 3 0 (.ref 485) true (.ref 486) (.ref 487) (.ref 488) (.ref 489) 799 0 264 0 800
def o306 (P:Params):Obj:=fo1 "_law_bent" "_law_bent" (topS 55) .none .none .none (.str "law_paritycells_k92_whole_texts_spoilt" 670) (.ref 490) .none
def o307 (P:Params):Obj:=fo0 "law" "law" (topS 56)
def o308 (P:Params):Obj:=fo2 "law" 802 "law" 803 804 285 0 1 0 0 0 0 0 3 0 (.ref 492) true (.ref 493) .none .none (.ref 494) 805 0 285 0 806
def o309 (P:Params):Obj:=fo1 "law" "law" (topS 56) .none .none .none (.str "law_paritycells_k92_whole_texts_spoilt" 670) (.ref 495) .none
def hA (P:Params):Heap:=⟨⟨[PySem.W.boot_o_0 P,PySem.W.boot_o_1 P,PySem.W.boot_o_2 P,PySem.W.boot_o_3 P,PySem.W.boot_o_4 P,PySem.W.boot_o_5 P,PySem.W.boot_o_6 P,PySem.W.boot_o_7 P,PySem.W.boot_o_8 P,PySem.W.boot_o_9 P,PySem.W.boot_o_10 P,o0 P,o1 P,o2 P,o3 P]⟩,(.mk [] [] [] 0 [] [] false #[] [] 0 false false false 0 [2000,10,10] false 0 true [] [] 0 false)⟩
def sA (w:World) (os:OsState):Shared:=⟨hA w.params,⟨[]⟩,(.mk 0 0 0 0),187,os⟩
def u0 (P:Params):BT:=(nd (o108 P) (lf (o184 P)) (lf (o261 P)))
def u1 (P:Params):BT:=(nd (o101 P) (lf (o179 P)) (lf (o257 P)))
def u2 (P:Params):BT:=(nd (o103 P) (lf (o182 P)) (lf (o260 P)))
def u3 (P:Params):BT:=(nd (o114 P) (lf (o190 P)) (lf (o268 P)))
def t0 (P:Params):BT:=(nd (PySem.W.boot_o_0 P) (nd (PySem.W.boot_o_1 P) (nd (PySem.W.boot_o_3 P) (lf (PySem.W.boot_o_7 P)) (lf (o0 P))) (nd (PySem.W.boot_o_5 P) (lf (PySem.W.boot_o_9 P)) (lf (o2 P)))) (nd (PySem.W.boot_o_2 P) (nd (PySem.W.boot_o_4 P) (lf (PySem.W.boot_o_8 P)) (lf (o1 P))) (nd (PySem.W.boot_o_6 P) (lf (PySem.W.boot_o_10 P)) (lf (o3 P)))))
def s0 (w:World) (os:OsState):SharedT:=⟨t0 w.params,15,(.mk [] [] [] 0 [] [] false #[] [] 0 false false false 0 [2000,10,10] false 0 true [] [] 0 false),⟨[]⟩,(.mk 0 0 0 0),187,os⟩
def t1 (P:Params):BT:=(nd (PySem.W.boot_o_0 P) (nd (PySem.W.boot_o_1 P) (nd (o5 P) (nd (PySem.W.boot_o_7 P) (nd (o0 P) (nd (o17 P) (nd (o40 P) (lf (o0 P)) nl) (nd (o61 P) (lf (o0 P)) nl)) (nd (o29 P) (nd (o50 P) (lf (o93 P)) nl) (lf (o73 P)))) (nd (o12 P) (nd (o1 P) (nd (o45 P) (lf (o0 P)) nl) (lf (o68 P))) (nd (o0 P) (nd (o12 P) (lf (o0 P)) nl) (lf (o78 P))))) (nd (o0 P) (nd (o8 P) (nd (o21 P) (nd (o30 P) (lf (o87 P)) nl) (lf (o64 P))) (nd (o0 P) (nd (o54 P) (lf (o1 P)) nl) (lf (o0 P)))) (nd (o14 P) (nd (o25 P) (nd (o1 P) (lf (o0 P)) nl) (lf (o70 P))) (nd (o36 P) (nd (o59 P) (lf (o101 P)) nl) (lf (o82 P)))))) (nd (PySem.W.boot_o_5 P) (nd (PySem.W.boot_o_9 P) (nd (o7 P) (nd (o19 P) (nd (o42 P) (lf (o85 P)) nl) (nd (o62 P) (lf (o104 P)) nl)) (nd (o12 P) (nd (o52 P) (lf (o95 P)) nl) (lf (o1 P)))) (nd (o0 P) (nd (o24 P) (nd (o47 P) (lf (o90 P)) nl) (lf (o30 P))) (nd (o35 P) (nd (o0 P) (lf (o99 P)) nl) (lf (o80 P))))) (nd (o2 P) (nd (o10 P) (nd (o22 P) (nd (o44 P) (lf (o1 P)) nl) (lf (o66 P))) (nd (o33 P) (nd (o56 P) (lf (o97 P)) nl) (lf (o76 P)))) (nd (o0 P) (nd (o27 P) (nd (o0 P) (lf (o92 P)) nl) (lf (o71 P))) (nd (o38 P) (nd (o0 P) (lf (o1 P)) nl) (lf (o1 P))))))) (nd (o4 P) (nd (PySem.W.boot_o_4 P) (nd (PySem.W.boot_o_8 P) (nd (o1 P) (nd (o18 P) (nd (o41 P) (lf (o84 P)) nl) (nd (o0 P) (lf (o103 P)) nl)) (nd (o30 P) (nd (o51 P) (lf (o94 P)) nl) (lf (o0 P)))) (nd (o13 P) (nd (o23 P) (nd (o46 P) (lf (o89 P)) nl) (lf (o69 P))) (nd (o1 P) (nd (o57 P) (lf (o1 P)) nl) (lf (o79 P))))) (nd (o6 P) (nd (o9 P) (nd (o12 P) (nd (o12 P) (lf (o0 P)) nl) (lf (o65 P))) (nd (o32 P) (nd (o55 P) (lf (o96 P)) nl) (lf (o75 P)))) (nd (o15 P) (nd (o26 P) (nd (o48 P) (lf (o1 P)) nl) (lf (o0 P))) (nd (o37 P) (nd (o60 P) (lf (o0 P)) nl) (lf (o0 P)))))) (nd (PySem.W.boot_o_6 P) (nd (PySem.W.boot_o_10 P) (nd (o0 P) (nd (o20 P) (nd (o43 P) (lf (o86 P)) nl) (nd (o63 P) (lf (o105 P)) nl)) (nd (o31 P) (nd (o53 P) (lf (o0 P)) nl) (lf (o74 P)))) (nd (o1 P) (nd (o0 P) (nd (o0 P) (lf (o91 P)) nl) (lf (o12 P))) (nd (o0 P) (nd (o58 P) (lf (o100 P)) nl) (lf (o81 P))))) (nd (o3 P) (nd (o11 P) (nd (o0 P) (nd (o0 P) (lf (o88 P)) nl) (lf (o67 P))) (nd (o34 P) (nd (o30 P) (lf (o98 P)) nl) (lf (o77 P)))) (nd (o16 P) (nd (o28 P) (nd (o49 P) (lf (o0 P)) nl) (lf (o72 P))) (nd (o39 P) (nd (o1 P) (lf (o102 P)) nl) (lf (o83 P))))))))
def s1 (w:World) (os:OsState):SharedT:=⟨t1 w.params,163,(.mk [] [] [] 0 [] [] false #[] [] 0 false false false 0 [2000,10,10] false 0 true [] [] 0 false),⟨[]⟩,(.mk 0 0 0 0),384,os⟩
def t2 (P:Params):BT:=(nd (PySem.W.boot_o_0 P) (nd (PySem.W.boot_o_1 P) (nd (o106 P) (nd (PySem.W.boot_o_7 P) (nd (o0 P) (nd (o17 P) (nd (o40 P) (nd (o0 P) (lf (o160 P)) (lf (o240 P))) (nd (o1 P) (lf (o200 P)) nl)) (nd (o61 P) (nd (o0 P) (lf (o1 P)) (lf (o259 P))) (nd (o142 P) (lf (o222 P)) nl))) (nd (o29 P) (nd (o50 P) (nd (o93 P) (lf (o173 P)) (lf (o1 P))) (nd (o0 P) (lf (o210 P)) nl)) (nd (o73 P) (nd (o115 P) (lf (o0 P)) (lf (o269 P))) (nd (o0 P) (lf (o0 P)) nl)))) (nd (o12 P) (nd (o1 P) (nd (o45 P) (nd (o0 P) (lf (o168 P)) (lf (o0 P))) (nd (o128 P) (lf (o205 P)) nl)) (nd (o68 P) (nd (o110 P) (lf (o186 P)) (lf (o1 P))) (nd (o147 P) (lf (o227 P)) nl))) (nd (o0 P) (nd (o12 P) (nd (o0 P) (lf (o0 P)) (lf (o254 P))) (nd (o137 P) (lf (o0 P)) nl)) (nd (o78 P) (nd (o119 P) (lf (o195 P)) nl) (nd (o1 P) (lf (o0 P)) nl))))) (nd (o0 P) (nd (o8 P) (nd (o21 P) (nd (o30 P) (nd (o87 P) (lf (o164 P)) (lf (o1 P))) (nd (o126 P) (lf (o202 P)) nl)) (nd (o64 P) (u0 P) (nd (o144 P) (lf (o224 P)) nl))) (nd (o0 P) (nd (o54 P) (nd (o1 P) (lf (o0 P)) (lf (o252 P))) (nd (o0 P) (lf (o214 P)) nl)) (nd (o0 P) (nd (o117 P) (lf (o0 P)) nl) (nd (o153 P) (lf (o234 P)) nl)))) (nd (o14 P) (nd (o25 P) (nd (o1 P) (nd (o0 P) (lf (o170 P)) (lf (o247 P))) (nd (o131 P) (lf (o0 P)) nl)) (nd (o70 P) (nd (o112 P) (lf (o189 P)) (lf (o0 P))) (nd (o0 P) (lf (o0 P)) nl))) (nd (o36 P) (nd (o59 P) (u1 P) (nd (o1 P) (lf (o220 P)) nl)) (nd (o82 P) (nd (o122 P) (lf (o1 P)) nl) (nd (o158 P) (lf (o0 P)) nl)))))) (nd (PySem.W.boot_o_5 P) (nd (PySem.W.boot_o_9 P) (nd (o7 P) (nd (o19 P) (nd (o42 P) (nd (o85 P) (lf (o162 P)) (lf (o242 P))) (nd (o0 P) (lf (o0 P)) nl)) (nd (o62 P) (nd (o104 P) (lf (o0 P)) (lf (o0 P))) (nd (o0 P) (lf (o0 P)) nl))) (nd (o12 P) (nd (o52 P) (nd (o95 P) (lf (o12 P)) (lf (o0 P))) (nd (o134 P) (lf (o212 P)) nl)) (nd (o1 P) (nd (o1 P) (lf (o192 P)) nl) (nd (o152 P) (lf (o232 P)) nl)))) (nd (o0 P) (nd (o24 P) (nd (o47 P) (nd (o90 P) (lf (o0 P)) (lf (o246 P))) (nd (o129 P) (lf (o1 P)) nl)) (nd (o30 P) (nd (o0 P) (lf (o187 P)) (lf (o265 P))) (nd (o1 P) (lf (o1 P)) nl))) (nd (o35 P) (nd (o0 P) (nd (o99 P) (lf (o178 P)) (lf (o255 P))) (nd (o139 P) (lf (o218 P)) nl)) (nd (o80 P) (nd (o120 P) (lf (o197 P)) nl) (nd (o0 P) (lf (o237 P)) nl))))) (nd (o2 P) (nd (o10 P) (nd (o22 P) (nd (o44 P) (nd (o1 P) (lf (o166 P)) (lf (o244 P))) (nd (o0 P) (lf (o203 P)) nl)) (nd (o66 P) (nd (o1 P) (lf (o0 P)) (lf (o263 P))) (nd (o145 P) (lf (o225 P)) nl))) (nd (o33 P) (nd (o56 P) (nd (o97 P) (lf (o176 P)) (lf (o0 P))) (nd (o136 P) (lf (o216 P)) nl)) (nd (o76 P) (nd (o0 P) (lf (o194 P)) nl) (nd (o155 P) (lf (o1 P)) nl)))) (nd (o0 P) (nd (o27 P) (nd (o0 P) (nd (o92 P) (lf (o171 P)) (lf (o249 P))) (nd (o1 P) (lf (o208 P)) nl)) (nd (o71 P) (nd (o113 P) (lf (o1 P)) (lf (o267 P))) (nd (o150 P) (lf (o230 P)) nl))) (nd (o38 P) (nd (o0 P) (nd (o1 P) (lf (o181 P)) (lf (o1 P))) (nd (o0 P) (lf (o1 P)) nl)) (nd (o1 P) (nd (o123 P) (lf (o0 P)) nl) (nd (o0 P) (lf (o239 P)) nl))))))) (nd (o4 P) (nd (PySem.W.boot_o_4 P) (nd (PySem.W.boot_o_8 P) (nd (o1 P) (nd (o18 P) (nd (o41 P) (nd (o84 P) (lf (o161 P)) (lf (o241 P))) (nd (o124 P) (lf (o201 P)) nl)) (nd (o0 P) (u2 P) (nd (o143 P) (lf (o223 P)) nl))) (nd (o30 P) (nd (o51 P) (nd (o94 P) (lf (o0 P)) (lf (o250 P))) (nd (o133 P) (lf (o211 P)) nl)) (nd (o0 P) (nd (o0 P) (lf (o191 P)) nl) (nd (o1 P) (lf (o1 P)) nl)))) (nd (o13 P) (nd (o23 P) (nd (o46 P) (nd (o89 P) (lf (o169 P)) (lf (o1 P))) (nd (o0 P) (lf (o0 P)) nl)) (nd (o69 P) (nd (o111 P) (lf (o0 P)) (lf (o264 P))) (nd (o0 P) (lf (o0 P)) nl))) (nd (o1 P) (nd (o57 P) (nd (o1 P) (lf (o1 P)) (lf (o0 P))) (nd (o138 P) (lf (o1 P)) nl)) (nd (o79 P) (nd (o0 P) (lf (o196 P)) nl) (nd (o156 P) (lf (o236 P)) nl))))) (nd (o107 P) (nd (o9 P) (nd (o12 P) (nd (o12 P) (nd (o0 P) (lf (o165 P)) (lf (o243 P))) (nd (o127 P) (lf (o0 P)) nl)) (nd (o65 P) (nd (o0 P) (lf (o185 P)) (lf (o262 P))) (nd (o0 P) (lf (o0 P)) nl))) (nd (o32 P) (nd (o55 P) (nd (o96 P) (lf (o175 P)) (lf (o253 P))) (nd (o1 P) (lf (o215 P)) nl)) (nd (o75 P) (nd (o118 P) (lf (o1 P)) nl) (nd (o154 P) (lf (o0 P)) nl)))) (nd (o15 P) (nd (o26 P) (nd (o48 P) (nd (o1 P) (lf (o0 P)) (lf (o248 P))) (nd (o0 P) (lf (o207 P)) nl)) (nd (o0 P) (nd (o0 P) (lf (o0 P)) (lf (o1 P))) (nd (o149 P) (lf (o229 P)) nl))) (nd (o37 P) (nd (o60 P) (nd (o0 P) (lf (o180 P)) (lf (o0 P))) (nd (o140 P) (lf (o0 P)) nl)) (nd (o0 P) (nd (o0 P) (lf (o198 P)) nl) (nd (o159 P) (lf (o1 P)) nl)))))) (nd (PySem.W.boot_o_6 P) (nd (PySem.W.boot_o_10 P) (nd (o0 P) (nd (o20 P) (nd (o43 P) (nd (o86 P) (lf (o163 P)) (lf (o0 P))) (nd (o125 P) (lf (o1 P)) nl)) (nd (o63 P) (nd (o105 P) (lf (o183 P)) (lf (o1 P))) (nd (o1 P) (lf (o1 P)) nl))) (nd (o31 P) (nd (o53 P) (nd (o0 P) (lf (o174 P)) (lf (o251 P))) (nd (o135 P) (lf (o213 P)) nl)) (nd (o74 P) (nd (o116 P) (lf (o193 P)) nl) (nd (o0 P) (lf (o233 P)) nl)))) (nd (o1 P) (nd (o0 P) (nd (o0 P) (nd (o91 P) (lf (o1 P)) (lf (o0 P))) (nd (o130 P) (lf (o206 P)) nl)) (nd (o12 P) (nd (o1 P) (lf (o188 P)) (lf (o266 P))) (nd (o148 P) (lf (o228 P)) nl))) (nd (o0 P) (nd (o58 P) (nd (o100 P) (lf (o0 P)) (lf (o256 P))) (nd (o0 P) (lf (o219 P)) nl)) (nd (o81 P) (nd (o121 P) (lf (o0 P)) nl) (nd (o157 P) (lf (o238 P)) nl))))) (nd (o3 P) (nd (o11 P) (nd (o0 P) (nd (o0 P) (nd (o88 P) (lf (o167 P)) (lf (o245 P))) (nd (o1 P) (lf (o204 P)) nl)) (nd (o67 P) (nd (o109 P) (lf (o1 P)) (lf (o0 P))) (nd (o146 P) (lf (o226 P)) nl))) (nd (o34 P) (nd (o30 P) (nd (o98 P) (lf (o177 P)) (lf (o1 P))) (nd (o0 P) (lf (o217 P)) nl)) (nd (o77 P) (nd (o12 P) (lf (o0 P)) nl) (nd (o0 P) (lf (o235 P)) nl)))) (nd (o16 P) (nd (o28 P) (nd (o49 P) (nd (o0 P) (lf (o172 P)) (lf (o0 P))) (nd (o132 P) (lf (o209 P)) nl)) (nd (o72 P) (u3 P) (nd (o151 P) (lf (o231 P)) nl))) (nd (o39 P) (nd (o1 P) (nd (o102 P) (lf (o0 P)) (lf (o258 P))) (nd (o141 P) (lf (o221 P)) nl)) (nd (o83 P) (nd (o0 P) (lf (o199 P)) nl) (nd (o1 P) (lf (o0 P)) nl))))))))
def s2 (w:World) (os:OsState):SharedT:=⟨t2 w.params,432,(.mk [] [] [] 0 [] [] false #[] [] 0 false false false 0 [2000,10,10] false 0 true [] [] 0 false),⟨[]⟩,(.mk 0 0 0 0),722,os⟩
def t3 (P:Params):BT:=(nd (PySem.W.boot_o_0 P) (nd (PySem.W.boot_o_1 P) (nd (o270 P) (nd (PySem.W.boot_o_7 P) (nd (o0 P) (nd (o17 P) (nd (o40 P) (nd (o0 P) (lf (o160 P)) (lf (o240 P))) (nd (o1 P) (lf (o200 P)) (lf (o280 P)))) (nd (o61 P) (nd (o0 P) (lf (o1 P)) (lf (o259 P))) (nd (o142 P) (lf (o222 P)) (lf (o1 P))))) (nd (o29 P) (nd (o50 P) (nd (o93 P) (lf (o173 P)) (lf (o1 P))) (nd (o0 P) (lf (o210 P)) (lf (o290 P)))) (nd (o73 P) (nd (o115 P) (lf (o0 P)) (lf (o269 P))) (nd (o0 P) (lf (o0 P)) (lf (o308 P)))))) (nd (o12 P) (nd (o1 P) (nd (o45 P) (nd (o0 P) (lf (o168 P)) (lf (o0 P))) (nd (o128 P) (lf (o205 P)) (lf (o1 P)))) (nd (o68 P) (nd (o110 P) (lf (o186 P)) (lf (o1 P))) (nd (o147 P) (lf (o227 P)) (lf (o303 P))))) (nd (o0 P) (nd (o12 P) (nd (o0 P) (lf (o0 P)) (lf (o254 P))) (nd (o137 P) (lf (o0 P)) (lf (o0 P)))) (nd (o78 P) (nd (o119 P) (lf (o195 P)) (lf (o0 P))) (nd (o1 P) (lf (o0 P)) nl))))) (nd (o0 P) (nd (o8 P) (nd (o21 P) (nd (o30 P) (nd (o87 P) (lf (o164 P)) (lf (o1 P))) (nd (o126 P) (lf (o202 P)) (lf (o282 P)))) (nd (o64 P) (u0 P) (nd (o144 P) (lf (o224 P)) (lf (o301 P))))) (nd (o0 P) (nd (o54 P) (nd (o1 P) (lf (o0 P)) (lf (o252 P))) (nd (o0 P) (lf (o214 P)) (lf (o0 P)))) (nd (o0 P) (nd (o117 P) (lf (o0 P)) (lf (o0 P))) (nd (o153 P) (lf (o234 P)) nl)))) (nd (o14 P) (nd (o25 P) (nd (o1 P) (nd (o0 P) (lf (o170 P)) (lf (o247 P))) (nd (o131 P) (lf (o0 P)) (lf (o0 P)))) (nd (o70 P) (nd (o112 P) (lf (o189 P)) (lf (o0 P))) (nd (o0 P) (lf (o0 P)) (lf (o306 P))))) (nd (o36 P) (nd (o59 P) (u1 P) (nd (o1 P) (lf (o220 P)) (lf (o296 P)))) (nd (o82 P) (nd (o122 P) (lf (o1 P)) (lf (o278 P))) (nd (o158 P) (lf (o0 P)) nl)))))) (nd (PySem.W.boot_o_5 P) (nd (PySem.W.boot_o_9 P) (nd (o7 P) (nd (o19 P) (nd (o42 P) (nd (o85 P) (lf (o162 P)) (lf (o242 P))) (nd (o0 P) (lf (o0 P)) (lf (o0 P)))) (nd (o62 P) (nd (o104 P) (lf (o0 P)) (lf (o0 P))) (nd (o0 P) (lf (o0 P)) (lf (o0 P))))) (nd (o12 P) (nd (o52 P) (nd (o95 P) (lf (o12 P)) (lf (o0 P))) (nd (o134 P) (lf (o212 P)) (lf (o1 P)))) (nd (o1 P) (nd (o1 P) (lf (o192 P)) (lf (o1 P))) (nd (o152 P) (lf (o232 P)) nl)))) (nd (o0 P) (nd (o24 P) (nd (o47 P) (nd (o90 P) (lf (o0 P)) (lf (o246 P))) (nd (o129 P) (lf (o1 P)) (lf (o286 P)))) (nd (o30 P) (nd (o0 P) (lf (o187 P)) (lf (o265 P))) (nd (o1 P) (lf (o1 P)) (lf (o304 P))))) (nd (o35 P) (nd (o0 P) (nd (o99 P) (lf (o178 P)) (lf (o255 P))) (nd (o139 P) (lf (o218 P)) (lf (o295 P)))) (nd (o80 P) (nd (o120 P) (lf (o197 P)) (lf (o276 P))) (nd (o0 P) (lf (o237 P)) nl))))) (nd (o2 P) (nd (o10 P) (nd (o22 P) (nd (o44 P) (nd (o1 P) (lf (o166 P)) (lf (o244 P))) (nd (o0 P) (lf (o203 P)) (lf (o284 P)))) (nd (o66 P) (nd (o1 P) (lf (o0 P)) (lf (o263 P))) (nd (o145 P) (lf (o225 P)) (lf (o0 P))))) (nd (o33 P) (nd (o56 P) (nd (o97 P) (lf (o176 P)) (lf (o0 P))) (nd (o136 P) (lf (o216 P)) (lf (o293 P)))) (nd (o76 P) (nd (o0 P) (lf (o194 P)) (lf (o274 P))) (nd (o155 P) (lf (o1 P)) nl)))) (nd (o0 P) (nd (o27 P) (nd (o0 P) (nd (o92 P) (lf (o171 P)) (lf (o249 P))) (nd (o1 P) (lf (o208 P)) (lf (o288 P)))) (nd (o71 P) (nd (o113 P) (lf (o1 P)) (lf (o267 P))) (nd (o150 P) (lf (o230 P)) (lf (o1 P))))) (nd (o38 P) (nd (o0 P) (nd (o1 P) (lf (o181 P)) (lf (o1 P))) (nd (o0 P) (lf (o1 P)) (lf (o298 P)))) (nd (o1 P) (nd (o123 P) (lf (o0 P)) (lf (o1 P))) (nd (o0 P) (lf (o239 P)) nl))))))) (nd (o4 P) (nd (PySem.W.boot_o_4 P) (nd (PySem.W.boot_o_8 P) (nd (o1 P) (nd (o18 P) (nd (o41 P) (nd (o84 P) (lf (o161 P)) (lf (o241 P))) (nd (o124 P) (lf (o201 P)) (lf (o281 P)))) (nd (o0 P) (u2 P) (nd (o143 P) (lf (o223 P)) (lf (o299 P))))) (nd (o30 P) (nd (o51 P) (nd (o94 P) (lf (o0 P)) (lf (o250 P))) (nd (o133 P) (lf (o211 P)) (lf (o0 P)))) (nd (o0 P) (nd (o0 P) (lf (o191 P)) (lf (o0 P))) (nd (o1 P) (lf (o1 P)) (lf (o309 P)))))) (nd (o13 P) (nd (o23 P) (nd (o46 P) (nd (o89 P) (lf (o169 P)) (lf (o1 P))) (nd (o0 P) (lf (o0 P)) (lf (o285 P)))) (nd (o69 P) (nd (o111 P) (lf (o0 P)) (lf (o264 P))) (nd (o0 P) (lf (o0 P)) (lf (o0 P))))) (nd (o1 P) (nd (o57 P) (nd (o1 P) (lf (o1 P)) (lf (o0 P))) (nd (o138 P) (lf (o1 P)) (lf (o1 P)))) (nd (o79 P) (nd (o0 P) (lf (o196 P)) (lf (o1 P))) (nd (o156 P) (lf (o236 P)) nl))))) (nd (o271 P) (nd (o9 P) (nd (o12 P) (nd (o12 P) (nd (o0 P) (lf (o165 P)) (lf (o243 P))) (nd (o127 P) (lf (o0 P)) (lf (o283 P)))) (nd (o65 P) (nd (o0 P) (lf (o185 P)) (lf (o262 P))) (nd (o0 P) (lf (o0 P)) (lf (o302 P))))) (nd (o32 P) (nd (o55 P) (nd (o96 P) (lf (o175 P)) (lf (o253 P))) (nd (o1 P) (lf (o215 P)) (lf (o292 P)))) (nd (o75 P) (nd (o118 P) (lf (o1 P)) (lf (o273 P))) (nd (o154 P) (lf (o0 P)) nl)))) (nd (o15 P) (nd (o26 P) (nd (o48 P) (nd (o1 P) (lf (o0 P)) (lf (o248 P))) (nd (o0 P) (lf (o207 P)) (lf (o1 P)))) (nd (o0 P) (nd (o0 P) (lf (o0 P)) (lf (o1 P))) (nd (o149 P) (lf (o229 P)) (lf (o0 P))))) (nd (o37 P) (nd (o60 P) (nd (o0 P) (lf (o180 P)) (lf (o0 P))) (nd (o140 P) (lf (o0 P)) (lf (o297 P)))) (nd (o0 P) (nd (o0 P) (lf (o198 P)) (lf (o0 P))) (nd (o159 P) (lf (o1 P)) nl)))))) (nd (PySem.W.boot_o_6 P) (nd (PySem.W.boot_o_10 P) (nd (o0 P) (nd (o20 P) (nd (o43 P) (nd (o86 P) (lf (o163 P)) (lf (o0 P))) (nd (o125 P) (lf (o1 P)) (lf (o1 P)))) (nd (o63 P) (nd (o105 P) (lf (o183 P)) (lf (o1 P))) (nd (o1 P) (lf (o1 P)) (lf (o300 P))))) (nd (o31 P) (nd (o53 P) (nd (o0 P) (lf (o174 P)) (lf (o251 P))) (nd (o135 P) (lf (o213 P)) (lf (o291 P)))) (nd (o74 P) (nd (o116 P) (lf (o193 P)) (lf (o272 P))) (nd (o0 P) (lf (o233 P)) nl)))) (nd (o1 P) (nd (o0 P) (nd (o0 P) (nd (o91 P) (lf (o1 P)) (lf (o0 P))) (nd (o130 P) (lf (o206 P)) (lf (o287 P)))) (nd (o12 P) (nd (o1 P) (lf (o188 P)) (lf (o266 P))) (nd (o148 P) (lf (o228 P)) (lf (o305 P))))) (nd (o0 P) (nd (o58 P) (nd (o100 P) (lf (o0 P)) (lf (o256 P))) (nd (o0 P) (lf (o219 P)) (lf (o0 P)))) (nd (o81 P) (nd (o121 P) (lf (o0 P)) (lf (o277 P))) (nd (o157 P) (lf (o238 P)) nl))))) (nd (o3 P) (nd (o11 P) (nd (o0 P) (nd (o0 P) (nd (o88 P) (lf (o167 P)) (lf (o245 P))) (nd (o1 P) (lf (o204 P)) (lf (o0 P)))) (nd (o67 P) (nd (o109 P) (lf (o1 P)) (lf (o0 P))) (nd (o146 P) (lf (o226 P)) (lf (o1 P))))) (nd (o34 P) (nd (o30 P) (nd (o98 P) (lf (o177 P)) (lf (o1 P))) (nd (o0 P) (lf (o217 P)) (lf (o294 P)))) (nd (o77 P) (nd (o12 P) (lf (o0 P)) (lf (o275 P))) (nd (o0 P) (lf (o235 P)) nl)))) (nd (o16 P) (nd (o28 P) (nd (o49 P) (nd (o0 P) (lf (o172 P)) (lf (o0 P))) (nd (o132 P) (lf (o209 P)) (lf (o289 P)))) (nd (o72 P) (u3 P) (nd (o151 P) (lf (o231 P)) (lf (o307 P))))) (nd (o39 P) (nd (o1 P) (nd (o102 P) (lf (o0 P)) (lf (o258 P))) (nd (o141 P) (lf (o221 P)) (lf (o0 P)))) (nd (o83 P) (nd (o0 P) (lf (o199 P)) (lf (o279 P))) (nd (o1 P) (lf (o0 P)) nl))))))))
def s3 (w:World) (os:OsState):SharedT:=⟨t3 w.params,497,(.mk [] [] [] 0 [] [] false #[] [] 0 false false false 0 [2000,10,10] false 0 true [] [] 0 false),⟨[]⟩,(.mk 0 0 0 0),808,os⟩
def hF (P:Params):Heap:=⟨⟨[PySem.W.boot_o_0 P,PySem.W.boot_o_1 P,o4 P,o270 P,PySem.W.boot_o_4 P,PySem.W.boot_o_5 P,PySem.W.boot_o_6 P,PySem.W.boot_o_7 P,PySem.W.boot_o_8 P,PySem.W.boot_o_9 P,PySem.W.boot_o_10 P,o0 P,o271 P,o2 P,o3 P,o0 P,o1 P,o7 P,o0 P,o8 P,o9 P,o10 P,o11 P,o12 P,o13 P,o0 P,o1 P,o14 P,o15 P,o0 P,o16 P,o17 P,o18 P,o19 P,o20 P,o21 P,o12 P,o22 P,o0 P,o1 P,o23 P,o24 P,o0 P,o25 P,o26 P,o27 P,o28 P,o29 P,o30 P,o12 P,o31 P,o0 P,o32 P,o33 P,o34 P,o0 P,o1 P,o35 P,o0 P,o36 P,o37 P,o38 P,o39 P,o40 P,o41 P,o42 P,o43 P,o30 P,o12 P,o44 P,o0 P,o45 P,o46 P,o47 P,o0 P,o1 P,o48 P,o0 P,o49 P,o50 P,o51 P,o52 P,o53 P,o54 P,o55 P,o56 P,o30 P,o12 P,o57 P,o0 P,o58 P,o59 P,o60 P,o0 P,o1 P,o61 P,o0 P,o62 P,o63 P,o64 P,o65 P,o66 P,o67 P,o68 P,o69 P,o30 P,o12 P,o70 P,o0 P,o71 P,o72 P,o73 P,o0 P,o1 P,o74 P,o0 P,o75 P,o76 P,o77 P,o78 P,o79 P,o80 P,o81 P,o82 P,o0 P,o1 P,o83 P,o0 P,o84 P,o85 P,o86 P,o87 P,o0 P,o1 P,o88 P,o0 P,o89 P,o90 P,o91 P,o0 P,o1 P,o92 P,o0 P,o93 P,o94 P,o95 P,o0 P,o1 P,o96 P,o97 P,o98 P,o0 P,o1 P,o99 P,o100 P,o101 P,o0 P,o1 P,o102 P,o0 P,o103 P,o104 P,o105 P,o108 P,o0 P,o1 P,o109 P,o110 P,o111 P,o0 P,o1 P,o112 P,o0 P,o113 P,o114 P,o115 P,o0 P,o1 P,o116 P,o117 P,o118 P,o0 P,o12 P,o119 P,o0 P,o120 P,o121 P,o122 P,o0 P,o123 P,o0 P,o1 P,o124 P,o0 P,o125 P,o126 P,o127 P,o0 P,o1 P,o128 P,o0 P,o129 P,o130 P,o131 P,o0 P,o1 P,o132 P,o0 P,o133 P,o134 P,o135 P,o0 P,o1 P,o136 P,o0 P,o137 P,o138 P,o139 P,o0 P,o1 P,o140 P,o0 P,o141 P,o142 P,o143 P,o0 P,o1 P,o144 P,o0 P,o145 P,o146 P,o147 P,o0 P,o1 P,o148 P,o0 P,o149 P,o150 P,o151 P,o0 P,o1 P,o152 P,o0 P,o153 P,o154 P,o155 P,o0 P,o1 P,o156 P,o0 P,o157 P,o158 P,o159 P,o0 P,o1 P,o160 P,o161 P,o162 P,o163 P,o164 P,o165 P,o166 P,o167 P,o168 P,o169 P,o0 P,o1 P,o170 P,o0 P,o171 P,o172 P,o173 P,o0 P,o12 P,o174 P,o0 P,o175 P,o176 P,o177 P,o0 P,o1 P,o178 P,o0 P,o179 P,o180 P,o181 P,o0 P,o1 P,o182 P,o0 P,o183 P,o184 P,o185 P,o0 P,o1 P,o186 P,o0 P,o187 P,o188 P,o189 P,o0 P,o1 P,o190 P,o0 P,o191 P,o192 P,o193 P,o0 P,o1 P,o194 P,o0 P,o195 P,o196 P,o197 P,o0 P,o1 P,o198 P,o0 P,o199 P,o200 P,o201 P,o0 P,o1 P,o202 P,o0 P,o203 P,o204 P,o205 P,o0 P,o1 P,o206 P,o0 P,o207 P,o208 P,o209 P,o210 P,o211 P,o212 P,o213 P,o214 P,o215 P,o216 P,o217 P,o0 P,o1 P,o218 P,o219 P,o220 P,o0 P,o1 P,o221 P,o222 P,o223 P,o0 P,o1 P,o224 P,o0 P,o225 P,o226 P,o227 P,o0 P,o1 P,o228 P,o0 P,o229 P,o230 P,o231 P,o0 P,o1 P,o232 P,o233 P,o234 P,o0 P,o1 P,o235 P,o0 P,o236 P,o237 P,o238 P,o0 P,o1 P,o239 P,o0 P,o240 P,o241 P,o242 P,o0 P,o1 P,o243 P,o244 P,o245 P,o0 P,o1 P,o246 P,o0 P,o247 P,o248 P,o249 P,o0 P,o1 P,o250 P,o0 P,o251 P,o252 P,o253 P,o0 P,o1 P,o254 P,o0 P,o255 P,o256 P,o257 P,o0 P,o1 P,o258 P,o259 P,o260 P,o0 P,o1 P,o261 P,o262 P,o263 P,o0 P,o1 P,o264 P,o265 P,o266 P,o0 P,o1 P,o267 P,o268 P,o269 P,o0 P,o1 P,o272 P,o0 P,o273 P,o274 P,o275 P,o0 P,o1 P,o276 P,o277 P,o278 P,o0 P,o1 P,o279 P,o280 P,o281 P,o0 P,o1 P,o282 P,o283 P,o284 P,o0 P,o1 P,o285 P,o286 P,o287 P,o0 P,o1 P,o288 P,o289 P,o290 P,o0 P,o1 P,o291 P,o0 P,o292 P,o293 P,o294 P,o0 P,o1 P,o295 P,o0 P,o296 P,o297 P,o298 P,o0 P,o1 P,o299 P,o0 P,o300 P,o301 P,o302 P,o0 P,o1 P,o303 P,o0 P,o304 P,o305 P,o306 P,o0 P,o1 P,o307 P,o308 P,o309 P]⟩,(.mk [] [] [] 0 [] [] false #[] [] 0 false false false 0 [2000,10,10] false 0 true [] [] 0 false)⟩
def sF (w:World) (os:OsState):Shared:=⟨hF w.params,⟨[]⟩,(.mk 0 0 0 0),808,os⟩
def KK:Params→Frag:=fun P=>(nat_lit 2,o4 P)::(nat_lit 3,o270 P)::(nat_lit 15,o0 P)::(nat_lit 17,o7 P)::(nat_lit 18,o0 P)::(nat_lit 20,o9 P)::(nat_lit 21,o10 P)::(nat_lit 22,o11 P)::(nat_lit 29,o0 P)::(nat_lit 30,o16 P)::(nat_lit 31,o17 P)::(nat_lit 32,o18 P)::(nat_lit 35,o21 P)::(nat_lit 42,o0 P)::(nat_lit 43,o25 P)::(nat_lit 44,o26 P)::(nat_lit 45,o27 P)::(nat_lit 48,o30 P)::(nat_lit 55,o0 P)::(nat_lit 57,o35 P)::(nat_lit 58,o0 P)::(nat_lit 60,o37 P)::(nat_lit 61,o38 P)::(nat_lit 62,o39 P)::(nat_lit 63,o40 P)::(nat_lit 64,o41 P)::(nat_lit 67,o30 P)::(nat_lit 74,o0 P)::(nat_lit 76,o48 P)::(nat_lit 77,o0 P)::(nat_lit 79,o50 P)::(nat_lit 80,o51 P)::(nat_lit 81,o52 P)::(nat_lit 82,o53 P)::(nat_lit 83,o54 P)::(nat_lit 86,o30 P)::(nat_lit 93,o0 P)::(nat_lit 95,o61 P)::(nat_lit 96,o0 P)::(nat_lit 98,o63 P)::(nat_lit 99,o64 P)::(nat_lit 100,o65 P)::(nat_lit 101,o66 P)::(nat_lit 102,o67 P)::(nat_lit 105,o30 P)::(nat_lit 112,o0 P)::(nat_lit 114,o74 P)::(nat_lit 115,o0 P)::(nat_lit 117,o76 P)::(nat_lit 118,o77 P)::(nat_lit 119,o78 P)::(nat_lit 120,o79 P)::(nat_lit 121,o80 P)::(nat_lit 124,o0 P)::(nat_lit 126,o83 P)::(nat_lit 127,o0 P)::(nat_lit 129,o85 P)::(nat_lit 130,o86 P)::(nat_lit 131,o87 P)::(nat_lit 132,o0 P)::(nat_lit 134,o88 P)::(nat_lit 135,o0 P)::(nat_lit 137,o90 P)::(nat_lit 138,o91 P)::(nat_lit 139,o0 P)::(nat_lit 141,o92 P)::(nat_lit 142,o0 P)::(nat_lit 144,o94 P)::(nat_lit 145,o95 P)::(nat_lit 146,o0 P)::(nat_lit 149,o97 P)::(nat_lit 150,o98 P)::(nat_lit 151,o0 P)::(nat_lit 154,o100 P)::(nat_lit 155,o101 P)::(nat_lit 156,o0 P)::(nat_lit 158,o102 P)::(nat_lit 159,o0 P)::(nat_lit 161,o104 P)::(nat_lit 162,o105 P)::(nat_lit 163,o108 P)::(nat_lit 164,o0 P)::(nat_lit 167,o110 P)::(nat_lit 168,o111 P)::(nat_lit 169,o0 P)::(nat_lit 171,o112 P)::(nat_lit 172,o0 P)::(nat_lit 174,o114 P)::(nat_lit 175,o115 P)::(nat_lit 176,o0 P)::(nat_lit 179,o117 P)::(nat_lit 180,o118 P)::(nat_lit 188,o0 P)::(nat_lit 189,o123 P)::(nat_lit 190,o0 P)::(nat_lit 192,o124 P)::(nat_lit 193,o0 P)::(nat_lit 195,o126 P)::(nat_lit 196,o127 P)::(nat_lit 197,o0 P)::(nat_lit 199,o128 P)::(nat_lit 200,o0 P)::(nat_lit 202,o130 P)::(nat_lit 203,o131 P)::(nat_lit 204,o0 P)::(nat_lit 206,o132 P)::(nat_lit 207,o0 P)::(nat_lit 209,o134 P)::(nat_lit 210,o135 P)::(nat_lit 211,o0 P)::(nat_lit 213,o136 P)::(nat_lit 214,o0 P)::(nat_lit 216,o138 P)::(nat_lit 217,o139 P)::(nat_lit 218,o0 P)::(nat_lit 220,o140 P)::(nat_lit 221,o0 P)::(nat_lit 223,o142 P)::(nat_lit 224,o143 P)::(nat_lit 225,o0 P)::(nat_lit 227,o144 P)::(nat_lit 228,o0 P)::(nat_lit 230,o146 P)::(nat_lit 231,o147 P)::(nat_lit 232,o0 P)::(nat_lit 234,o148 P)::(nat_lit 235,o0 P)::(nat_lit 237,o150 P)::(nat_lit 238,o151 P)::(nat_lit 239,o0 P)::(nat_lit 241,o152 P)::(nat_lit 242,o0 P)::(nat_lit 244,o154 P)::(nat_lit 245,o155 P)::(nat_lit 246,o0 P)::(nat_lit 248,o156 P)::(nat_lit 249,o0 P)::(nat_lit 251,o158 P)::(nat_lit 252,o159 P)::(nat_lit 253,o0 P)::(nat_lit 256,o161 P)::(nat_lit 257,o162 P)::(nat_lit 258,o163 P)::(nat_lit 259,o164 P)::(nat_lit 260,o165 P)::(nat_lit 261,o166 P)::(nat_lit 262,o167 P)::(nat_lit 265,o0 P)::(nat_lit 267,o170 P)::(nat_lit 268,o0 P)::(nat_lit 270,o172 P)::(nat_lit 271,o173 P)::(nat_lit 279,o0 P)::(nat_lit 281,o178 P)::(nat_lit 282,o0 P)::(nat_lit 284,o180 P)::(nat_lit 285,o181 P)::(nat_lit 286,o0 P)::(nat_lit 288,o182 P)::(nat_lit 289,o0 P)::(nat_lit 291,o184 P)::(nat_lit 292,o185 P)::(nat_lit 293,o0 P)::(nat_lit 295,o186 P)::(nat_lit 296,o0 P)::(nat_lit 298,o188 P)::(nat_lit 299,o189 P)::(nat_lit 300,o0 P)::(nat_lit 302,o190 P)::(nat_lit 303,o0 P)::(nat_lit 305,o192 P)::(nat_lit 306,o193 P)::(nat_lit 307,o0 P)::(nat_lit 309,o194 P)::(nat_lit 310,o0 P)::(nat_lit 312,o196 P)::(nat_lit 313,o197 P)::(nat_lit 314,o0 P)::(nat_lit 316,o198 P)::(nat_lit 317,o0 P)::(nat_lit 319,o200 P)::(nat_lit 320,o201 P)::(nat_lit 321,o0 P)::(nat_lit 323,o202 P)::(nat_lit 324,o0 P)::(nat_lit 326,o204 P)::(nat_lit 327,o205 P)::(nat_lit 328,o0 P)::(nat_lit 330,o206 P)::(nat_lit 331,o0 P)::(nat_lit 333,o208 P)::(nat_lit 334,o209 P)::(nat_lit 335,o210 P)::(nat_lit 336,o211 P)::(nat_lit 337,o212 P)::(nat_lit 338,o213 P)::(nat_lit 339,o214 P)::(nat_lit 342,o217 P)::(nat_lit 343,o0 P)::(nat_lit 346,o219 P)::(nat_lit 347,o220 P)::(nat_lit 348,o0 P)::(nat_lit 351,o222 P)::(nat_lit 352,o223 P)::(nat_lit 353,o0 P)::(nat_lit 355,o224 P)::(nat_lit 356,o0 P)::(nat_lit 358,o226 P)::(nat_lit 359,o227 P)::(nat_lit 360,o0 P)::(nat_lit 362,o228 P)::(nat_lit 363,o0 P)::(nat_lit 365,o230 P)::(nat_lit 366,o231 P)::(nat_lit 367,o0 P)::(nat_lit 370,o233 P)::(nat_lit 371,o234 P)::(nat_lit 372,o0 P)::(nat_lit 374,o235 P)::(nat_lit 375,o0 P)::(nat_lit 377,o237 P)::(nat_lit 378,o238 P)::(nat_lit 379,o0 P)::(nat_lit 381,o239 P)::(nat_lit 382,o0 P)::(nat_lit 384,o241 P)::(nat_lit 385,o242 P)::(nat_lit 386,o0 P)::(nat_lit 389,o244 P)::(nat_lit 390,o245 P)::(nat_lit 391,o0 P)::(nat_lit 393,o246 P)::(nat_lit 394,o0 P)::(nat_lit 396,o248 P)::(nat_lit 397,o249 P)::(nat_lit 398,o0 P)::(nat_lit 400,o250 P)::(nat_lit 401,o0 P)::(nat_lit 403,o252 P)::(nat_lit 404,o253 P)::(nat_lit 405,o0 P)::(nat_lit 407,o254 P)::(nat_lit 408,o0 P)::(nat_lit 410,o256 P)::(nat_lit 411,o257 P)::(nat_lit 412,o0 P)::(nat_lit 415,o259 P)::(nat_lit 416,o260 P)::(nat_lit 417,o0 P)::(nat_lit 420,o262 P)::(nat_lit 421,o263 P)::(nat_lit 422,o0 P)::(nat_lit 425,o265 P)::(nat_lit 426,o266 P)::(nat_lit 427,o0 P)::(nat_lit 430,o268 P)::(nat_lit 431,o269 P)::(nat_lit 432,o0 P)::(nat_lit 434,o272 P)::(nat_lit 435,o0 P)::(nat_lit 437,o274 P)::(nat_lit 438,o275 P)::(nat_lit 439,o0 P)::(nat_lit 442,o277 P)::(nat_lit 443,o278 P)::(nat_lit 444,o0 P)::(nat_lit 447,o280 P)::(nat_lit 448,o281 P)::(nat_lit 449,o0 P)::(nat_lit 452,o283 P)::(nat_lit 453,o284 P)::(nat_lit 454,o0 P)::(nat_lit 457,o286 P)::(nat_lit 458,o287 P)::(nat_lit 459,o0 P)::(nat_lit 462,o289 P)::(nat_lit 463,o290 P)::(nat_lit 464,o0 P)::(nat_lit 466,o291 P)::(nat_lit 467,o0 P)::(nat_lit 469,o293 P)::(nat_lit 470,o294 P)::(nat_lit 471,o0 P)::(nat_lit 473,o295 P)::(nat_lit 474,o0 P)::(nat_lit 476,o297 P)::(nat_lit 477,o298 P)::(nat_lit 478,o0 P)::(nat_lit 480,o299 P)::(nat_lit 481,o0 P)::(nat_lit 483,o301 P)::(nat_lit 484,o302 P)::(nat_lit 485,o0 P)::(nat_lit 487,o303 P)::(nat_lit 488,o0 P)::(nat_lit 490,o305 P)::(nat_lit 491,o306 P)::(nat_lit 492,o0 P)::(nat_lit 495,o308 P)::(nat_lit 496,o309 P):: []
def KA:List Addr:= [2,3,15,17,18,20,21,22,29,30,31,32,35,42,43,44,45,48,55,57,58,60,61,62,63,64,67,74,76,77,79,80,81,82,83,86,93,95,96,98,99,100,101,102,105,112,114,115,117,118,119,120,121,124,126,127,129,130,131,132,134,135,137,138,139,141,142,144,145,146,149,150,151,154,155,156,158,159,161,162,163,164,167,168,169,171,172,174,175,176,179,180,188,189,190,192,193,195,196,197,199,200,202,203,204,206,207,209,210,211,213,214,216,217,218,220,221,223,224,225,227,228,230,231,232,234,235,237,238,239,241,242,244,245,246,248,249,251,252,253,256,257,258,259,260,261,262,265,267,268,270,271,279,281,282,284,285,286,288,289,291,292,293,295,296,298,299,300,302,303,305,306,307,309,310,312,313,314,316,317,319,320,321,323,324,326,327,328,330,331,333,334,335,336,337,338,339,342,343,346,347,348,351,352,353,355,356,358,359,360,362,363,365,366,367,370,371,372,374,375,377,378,379,381,382,384,385,386,389,390,391,393,394,396,397,398,400,401,403,404,405,407,408,410,411,412,415,416,417,420,421,422,425,426,427,430,431,432,434,435,437,438,439,442,443,444,447,448,449,452,453,454,457,458,459,462,463,464,466,467,469,470,471,473,474,476,477,478,480,481,483,484,485,487,488,490,491,492,495,496]
theorem hd_law (h:(OpenLaw.row PySem.Challenge.rw_paritycells_k92_whole_texts_spoilt).wellSaid=true→(OpenLaw.row PySem.Challenge.rw_paritycells_k92_whole_texts_spoilt).Holds):(PySem.Challenge.rw_paritycells_k92_whole_texts_spoilt).Holds:=by
  w_on;o_law
  exact h (by assumption)
def pO:Program:=RowW.prog (OpenRow.toRowW (OpenLaw.row PySem.Challenge.rw_paritycells_k92_whole_texts_spoilt))
def pT:Program:=RowW.prog (OpenRow.toRowW (PySem.W.Fast.tw2368527892694137696 PySem.W.Fast.tw14028669566260315153))
theorem hp:pO=pT:=by
  unfold pO pT
  rw[PySem.W.Fast.te2368527892694137696,PySem.W.Fast.te14028669566260315153]
def annO:Option Value:=(some (.ref 6))
abbrev tfr:List Frame:= [topFrame (.mk 0 0 0 0)]
def enO (p:Program):Env:= { scope:=p.main.scope,locals:=mainNs,globals:=mainNs,cells:= [],code:=(.ref 13),frame:=some 14 }
def cdO (p:Program):Code:= .body (behindTheImports p) (enO p)
def stO (p:Program) (a b:Nat):List Stmt:=((behindTheImports p).drop a).take b
def s0A (w:World) (os:OsState):Shared:=⟨PySem.W.boot_heap w.params,⟨[]⟩,PySem.W.boot_drawn,PySem.W.boot_toks,os⟩
theorem hd_pre_t (w:World):(fun os=>PySem.W.Fast.tw15667345088766844465 PySem.W.Fast.tw14364793385576792824 pT w 11 annO 12 (s0A w os) (topStub pT))=fun os=>(some (sA w os,(⟨PySem.W.Fast.tw11892475500146522536 PySem.W.Fast.tw14364793385576792824 (cdO pT),cdO pT,(.mk 0 0 0 0),tfr⟩:Thread)):Option (Shared×Thread)):=by kernel_rfl
theorem hd_pre (w:World) (os:OsState):topGo treeTable pO w 11 annO 12 (s0A w os) (topStub pO)=(some (sA w os,(⟨denote treeTable (cdO pO),cdO pO,(.mk 0 0 0 0),tfr⟩:Thread)):Option (Shared×Thread)):=by
  have h:=congrFun (hd_pre_t w) os
  rw[← PySem.W.Fast.te15667345088766844465,← PySem.W.Fast.te11892475500146522536,← PySem.W.Fast.te14364793385576792824,← hp] at h
  exact h
theorem hd_block_t (w:World):(fun os=>PySem.W.Fast.tw14374325043358763698 PySem.W.Fast.tw14364793385576792824 pT w 11 annO 1 1 (sA w os) (blockOf (behindTheImports pT) (enO pT) (cdO pT) (.mk 0 0 0 0) tfr))=fun os=>(some (.next,(s0 w os).abs,cdO pT,(.mk 0 0 0 0)):Option (Flow×Shared×Code×Pos)):=by kernel_rfl
theorem hd_block (w:World) (os:OsState):segRun treeTable pO w 11 annO 1 1 (sA w os) (blockOf (behindTheImports pO) (enO pO) (cdO pO) (.mk 0 0 0 0) tfr)=(some (.next,(s0 w os).abs,cdO pO,(.mk 0 0 0 0)):Option (Flow×Shared×Code×Pos)):=by
  have h:=congrFun (hd_block_t w) os
  rw[← PySem.W.Fast.te14374325043358763698,← PySem.W.Fast.te14364793385576792824,← hp] at h
  exact h
theorem hd_p1_t (w:World):(fun os=>PySem.W.Fast.tw10110043849684766642 PySem.W.Fast.tw14364793385576792824 pT w 11 annO 1 1599 (s0 w os) (piecesOf (stO pT 0 16) (enO pT) (cdO pT) (.mk 0 0 0 0) tfr))=fun os=>(some (.next,s1 w os,cdO pT,(.mk 42 0 47 16)):Option (Flow×SharedT×Code×Pos)):=by kernel_rfl
theorem hd_p1 (w:World) (os:OsState):segRunT treeTable pO w 11 annO 1 1599 (s0 w os) (piecesOf (stO pO 0 16) (enO pO) (cdO pO) (.mk 0 0 0 0) tfr)=(some (.next,s1 w os,cdO pO,(.mk 42 0 47 16)):Option (Flow×SharedT×Code×Pos)):=by
  have h:=congrFun (hd_p1_t w) os
  rw[← PySem.W.Fast.te10110043849684766642,← PySem.W.Fast.te14364793385576792824,← hp] at h
  exact h
theorem hd_p2_t (w:World):(fun os=>PySem.W.Fast.tw10110043849684766642 PySem.W.Fast.tw14364793385576792824 pT w 11 annO 1 1593 (s1 w os) (piecesOf (stO pT 16 30) (enO pT) (cdO pT) (.mk 42 0 47 16) tfr))=fun os=>(some (.next,s2 w os,cdO pT,(.mk 217 0 218 104)):Option (Flow×SharedT×Code×Pos)):=by kernel_rfl
theorem hd_p2 (w:World) (os:OsState):segRunT treeTable pO w 11 annO 1 1593 (s1 w os) (piecesOf (stO pO 16 30) (enO pO) (cdO pO) (.mk 42 0 47 16) tfr)=(some (.next,s2 w os,cdO pO,(.mk 217 0 218 104)):Option (Flow×SharedT×Code×Pos)):=by
  have h:=congrFun (hd_p2_t w) os
  rw[← PySem.W.Fast.te10110043849684766642,← PySem.W.Fast.te14364793385576792824,← hp] at h
  exact h
theorem hd_p3_t (w:World):(fun os=>PySem.W.Fast.tw10110043849684766642 PySem.W.Fast.tw14364793385576792824 pT w 11 annO 1 317 (s2 w os) (piecesOf (stO pT 46 11) (enO pT) (cdO pT) (.mk 217 0 218 104) tfr))=fun os=>(some (.next,s3 w os,cdO pT,(.mk 285 0 299 15)):Option (Flow×SharedT×Code×Pos)):=by kernel_rfl
theorem hd_p3 (w:World) (os:OsState):segRunT treeTable pO w 11 annO 1 317 (s2 w os) (piecesOf (stO pO 46 11) (enO pO) (cdO pO) (.mk 217 0 218 104) tfr)=(some (.next,s3 w os,cdO pO,(.mk 285 0 299 15)):Option (Flow×SharedT×Code×Pos)):=by
  have h:=congrFun (hd_p3_t w) os
  rw[← PySem.W.Fast.te10110043849684766642,← PySem.W.Fast.te14364793385576792824,← hp] at h
  exact h
theorem hd_fin_t (w:World):(fun os=>PySem.W.Fast.tw14082659384304107361 PySem.W.Fast.tw14364793385576792824 pT w 11 annO 2 (s3 w os).abs (⟨doneF .next,cdO pT,(.mk 285 0 299 15),tfr⟩:Thread))=fun os=>(some (sF w os):Option Shared):=by kernel_rfl
theorem hd_fin (w:World) (os:OsState):topRun treeTable pO w 11 annO 2 (s3 w os).abs (⟨doneF .next,cdO pO,(.mk 285 0 299 15),tfr⟩:Thread)=(some (sF w os):Option Shared):=by
  have h:=congrFun (hd_fin_t w) os
  rw[← PySem.W.Fast.te14082659384304107361,← PySem.W.Fast.te14364793385576792824,← hp] at h
  exact h
def partsL:List Stmt→Nat→List Nat→List Stmt
  | _,_,[]=> []
  | b,a,m::ms=>(b.drop a).take m++partsL b (a+m) ms
theorem parts_cut (b:List Stmt): ∀(ms:List Nat) (a:Nat),a+ms.sum=b.length→partsL b a ms=b.drop a
  | [],a,h=>by
    have:a=b.length:=by simpa using h
    rw[this,List.drop_length];rfl
  | m::ms,a,h=>by
    have ih:=parts_cut b ms (a+m) (by rw[List.sum_cons] at h;omega)
    show (b.drop a).take m++partsL b (a+m) ms=_
    rw[ih,← List.drop_drop,List.take_append_drop]
theorem body_cut (p:Program) (h:(behindTheImports p).length=57):behindTheImports p=(stO p 0 16++(stO p 16 30++(stO p 46 11++ []))):=by
  have e:=parts_cut (behindTheImports p) [16,30,11] 0 (by rw[h];decide)
  exact e.symm
def mO:Nat:=(12+(1+(1599+(1593+(317+2)))))
theorem body_len:(behindTheImports pO).length=57:=by kernel_rfl
theorem hd_run (w:World) (os:OsState):topRun treeTable pO w 11 annO mO (s0A w os) (topStub pO)=some (sF w os):=by
  have k:=piece_nil (env:=enO pO) (hd_fin w os)
  have k:=piece_app (segRun_of (hd_p3 w os)) k
  have k:=piece_app (segRun_of (hd_p2 w os)) k
  have k:=piece_app (segRun_of (hd_p1 w os)) k
  rw[← body_cut pO body_len] at k
  exact go_top (hd_pre w os) (piece_block (hd_block w os) k)
def vwO (p:Program):Program:=PySem.W.view p [0,2,3,4,5,6,7,9,10,12,13,14,15,17,18,20,21,23,25,26,27,28,29,31,32,33,34,35,36,37,39,40,41,42,43,44,45,46,47,48,49,50,51,52,53,54,55,56]
def loO:List Str:= ["is_cell","cell_tuple","Board","number_in"]
def lvO:List (Str×WData):= []
theorem kA: ∀Q,KA=(KK Q).map (·.1):=fun _=>by kernel_rfl
def hkO:Hook:=kHook KK KA kA
def rrO:RowW:=OpenRow.toRowW (OpenLaw.row PySem.Challenge.rw_paritycells_k92_whole_texts_spoilt)
def rrT:RowW:=OpenRow.toRowW (PySem.W.Fast.tw2368527892694137696 PySem.W.Fast.tw14028669566260315153)
theorem hr:rrO=rrT:=by
  unfold rrO rrT
  rw[PySem.W.Fast.te2368527892694137696,PySem.W.Fast.te14028669566260315153]
def xtO (r:RowW) (p:Program) (s:Shared):Bool:=xlAt (vwO p) lvO s && recOk (RowW.records r) s
theorem lk0_t (w:World):(fun os=>(staticsOk (PySem.W.Fast.tw5923862056798008813 (pT).main.body) (PySem.W.boot_heap w.params) (hF w.params) && namesBound pT (hF w.params) && gensDone (sF w os) && laidKept (PySem.W.boot_heap w.params) (hF w.params)))=fun (os:OsState)=>true:=by kernel_rfl
theorem lk0 (w:World) (os:OsState):(staticsOk (PySem.importedModules (pO).main.body) (PySem.W.boot_heap w.params) (hF w.params) && namesBound pO (hF w.params) && gensDone (sF w os) && laidKept (PySem.W.boot_heap w.params) (hF w.params))=true:=by
  have h:=congrFun (lk0_t w) os
  rw[← PySem.W.Fast.te5923862056798008813,← hp] at h
  exact h
theorem lk1_t (w:World):(fun os=>PySem.W.Fast.tw5160383126252970620 (List.map (fun x=>x.name) (PySem.W.Fast.tw3399658132070893891 (vwO pT))) (PySem.W.Fast.tw5991557255702980513 (vwO pT)) [] { heap:=((sF w os)).heap,drawn:=((sF w os)).drawn,toks:=((sF w os)).toks,os:=((sF w os)).os })=fun (os:OsState)=>PyProof.Rows.expectedOf (vwO pT):=by kernel_rfl
theorem lk1 (w:World) (os:OsState):PyProof.Rows.seen (List.map (fun x=>x.name) (PyProof.Rows.recsOf (vwO pO))) (PyProof.Rows.ownsOf (vwO pO)) [] { heap:=((sF w os)).heap,drawn:=((sF w os)).drawn,toks:=((sF w os)).toks,os:=((sF w os)).os }=PyProof.Rows.expectedOf (vwO pO):=by
  have h:=congrFun (lk1_t w) os
  rw[← PySem.W.Fast.te3399658132070893891,← PySem.W.Fast.te5991557255702980513,← PySem.W.Fast.te5160383126252970620,← hp] at h
  exact h
theorem lk2_t (w:World):(fun os=>((sF w os)).heap.bltView)=fun (os:OsState)=>bltViewBooted:=by kernel_rfl
theorem lk2 (w:World) (os:OsState):((sF w os)).heap.bltView=bltViewBooted:=by
  have h:=congrFun (lk2_t w) os
  exact h
theorem lk3_t (w:World):(fun os=>(PySem.W.Fast.tw10880121769531294198 ((sF w os)).heap (PySem.W.Fast.tw821141287760084731 (vwO pT) loO) (List.map (fun x=>x.name) (PySem.W.Fast.tw3399658132070893891 (vwO pT))) (List.map (fun x=>x.fst) (PySem.W.Fast.tw7409074990110511671 (vwO pT))) (List.map (fun x=>x.name) (PySem.W.Fast.tw13664370479719496447 (vwO pT) (PySem.W.Fast.tw821141287760084731 (vwO pT) loO))) && PySem.W.Fast.tw14722251495701143533 ((sF w os)).heap (PySem.W.Fast.tw5923862056798008813 (pT).main.body) && ((sF w os)).heap.isNs mainGlobals && ((sF w os)).heap.isNs builtinsNs && PySem.W.Fast.tw10994771534591457954 (vwO pT) ((sF w os)).heap && xtO rrT pT (sF w os) && (if true=true then ((sF w os)).gens.size == 0 else !leftWithCleanup ((sF w os)).gens)))=fun (os:OsState)=>true:=by kernel_rfl
theorem lk3 (w:World) (os:OsState):(PySem.Heap.keysOk ((sF w os)).heap (PySem.W.looseW (vwO pO) loO) (List.map (fun x=>x.name) (PyProof.Rows.recsOf (vwO pO))) (List.map (fun x=>x.fst) (PyProof.Rows.litsOf (vwO pO))) (List.map (fun x=>x.name) (PyProof.Rows.clssOf (vwO pO) (PySem.W.looseW (vwO pO) loO))) && PySem.Heap.accountedOkI ((sF w os)).heap (PySem.importedModules (pO).main.body) && ((sF w os)).heap.isNs mainGlobals && ((sF w os)).heap.isNs builtinsNs && PyProof.Rows.tablesOk (vwO pO) ((sF w os)).heap && xtO rrO pO (sF w os) && (if true=true then ((sF w os)).gens.size == 0 else !leftWithCleanup ((sF w os)).gens))=true:=by
  have h:=congrFun (lk3_t w) os
  rw[← PySem.W.Fast.te5923862056798008813,← PySem.W.Fast.te3399658132070893891,← PySem.W.Fast.te10880121769531294198,← PySem.W.Fast.te821141287760084731,← PySem.W.Fast.te7409074990110511671,← PySem.W.Fast.te13664370479719496447,← PySem.W.Fast.te14722251495701143533,← PySem.W.Fast.te10994771534591457954,← hp,← hr] at h
  exact h
theorem lk4_t (w:World):(fun os=>PySem.W.Fast.tw479339242167458305 (vwO pT) (sF w os))=fun (os:OsState)=>true:=by kernel_rfl
theorem lk4 (w:World) (os:OsState):PyProof.Rows.tabsOk (vwO pO) (sF w os)=true:=by
  have h:=congrFun (lk4_t w) os
  rw[← PySem.W.Fast.te479339242167458305,← hp] at h
  exact h
theorem lk5_t (w:World):(fun os=>PySem.W.Fast.tw16090120013241838585 (vwO pT) (PySem.W.Fast.tw3247288618530077131 (vwO pT)) (sF w os))=fun (os:OsState)=>pinGoodD (PyProof.Rows.drecsOf (vwO pT)):=by kernel_rfl
theorem lk5 (w:World) (os:OsState):PySem.pinSeenD (vwO pO) (PyProof.Rows.drecsOf (vwO pO)) (sF w os)=pinGoodD (PyProof.Rows.drecsOf (vwO pO)):=by
  have h:=congrFun (lk5_t w) os
  rw[← PySem.W.Fast.te3247288618530077131,← PySem.W.Fast.te16090120013241838585,← hp] at h
  exact h
theorem lk7_t (w:World):(fun os=>PySem.W.Fast.tw11698064438423848299 (vwO pT) loO (sF w os))=fun (os:OsState)=>PyProof.Rows.plainGoodD (vwO pT) loO:=by kernel_rfl
theorem lk7 (w:World) (os:OsState):PyProof.Rows.plainSeenD (vwO pO) loO (sF w os)=PyProof.Rows.plainGoodD (vwO pO) loO:=by
  have h:=congrFun (lk7_t w) os
  rw[← PySem.W.Fast.te11698064438423848299,← hp] at h
  exact h
theorem lk8_t (w:World):(fun os=>PySem.W.Fast.tw7317090234206586261 (vwO pT) (sF w os))=fun (os:OsState)=>wideGood (vwO pT):=by kernel_rfl
theorem lk8 (w:World) (os:OsState):PySem.W.wideSeen (vwO pO) (sF w os)=wideGood (vwO pO):=by
  have h:=congrFun (lk8_t w) os
  rw[← PySem.W.Fast.te7317090234206586261,← hp] at h
  exact h
theorem lk9_t (w:World):(fun os=>PySem.W.Fast.tw7369524293546568484 (vwO pT) loO (sF w os))=fun (os:OsState)=>clsGoodW (vwO pT) loO:=by kernel_rfl
theorem lk9 (w:World) (os:OsState):PySem.W.clsSeenW (vwO pO) loO (sF w os)=clsGoodW (vwO pO) loO:=by
  have h:=congrFun (lk9_t w) os
  rw[← PySem.W.Fast.te7369524293546568484,← hp] at h
  exact h
theorem lk6_0_t (w:World):(fun os=>(((PySem.W.Fast.tw210736558901404530 (vwO pT) (PySem.W.Fast.tw821141287760084731 (vwO pT) loO)).drop 0).take 6).map (fun c=>PySem.W.Fast.tw15717526521509864196 ((sF w os)).heap c.withCmp))=fun (os:OsState)=>(((PySem.W.Fast.tw210736558901404530 (vwO pT) (PySem.W.Fast.tw821141287760084731 (vwO pT) loO)).drop 0).take 6).map (fun c=>some c.withCmp.plainShape):=by kernel_rfl
theorem lk6_0 (w:World) (os:OsState):(((PyProof.Rows.plainsOf (vwO pO) (PySem.W.looseW (vwO pO) loO)).drop 0).take 6).map (fun c=>PySem.Heap.plainShapeAt ((sF w os)).heap c.withCmp)=(((PyProof.Rows.plainsOf (vwO pO) (PySem.W.looseW (vwO pO) loO)).drop 0).take 6).map (fun c=>some c.withCmp.plainShape):=by
  have h:=congrFun (lk6_0_t w) os
  rw[← PySem.W.Fast.te821141287760084731,← PySem.W.Fast.te15717526521509864196,← PySem.W.Fast.te210736558901404530,← hp] at h
  exact h
theorem lk6_1_t (w:World):(fun os=>(((PySem.W.Fast.tw210736558901404530 (vwO pT) (PySem.W.Fast.tw821141287760084731 (vwO pT) loO)).drop 6).take 6).map (fun c=>PySem.W.Fast.tw15717526521509864196 ((sF w os)).heap c.withCmp))=fun (os:OsState)=>(((PySem.W.Fast.tw210736558901404530 (vwO pT) (PySem.W.Fast.tw821141287760084731 (vwO pT) loO)).drop 6).take 6).map (fun c=>some c.withCmp.plainShape):=by kernel_rfl
theorem lk6_1 (w:World) (os:OsState):(((PyProof.Rows.plainsOf (vwO pO) (PySem.W.looseW (vwO pO) loO)).drop 6).take 6).map (fun c=>PySem.Heap.plainShapeAt ((sF w os)).heap c.withCmp)=(((PyProof.Rows.plainsOf (vwO pO) (PySem.W.looseW (vwO pO) loO)).drop 6).take 6).map (fun c=>some c.withCmp.plainShape):=by
  have h:=congrFun (lk6_1_t w) os
  rw[← PySem.W.Fast.te821141287760084731,← PySem.W.Fast.te15717526521509864196,← PySem.W.Fast.te210736558901404530,← hp] at h
  exact h
theorem lk6_2_t (w:World):(fun os=>(((PySem.W.Fast.tw210736558901404530 (vwO pT) (PySem.W.Fast.tw821141287760084731 (vwO pT) loO)).drop 12).take 6).map (fun c=>PySem.W.Fast.tw15717526521509864196 ((sF w os)).heap c.withCmp))=fun (os:OsState)=>(((PySem.W.Fast.tw210736558901404530 (vwO pT) (PySem.W.Fast.tw821141287760084731 (vwO pT) loO)).drop 12).take 6).map (fun c=>some c.withCmp.plainShape):=by kernel_rfl
theorem lk6_2 (w:World) (os:OsState):(((PyProof.Rows.plainsOf (vwO pO) (PySem.W.looseW (vwO pO) loO)).drop 12).take 6).map (fun c=>PySem.Heap.plainShapeAt ((sF w os)).heap c.withCmp)=(((PyProof.Rows.plainsOf (vwO pO) (PySem.W.looseW (vwO pO) loO)).drop 12).take 6).map (fun c=>some c.withCmp.plainShape):=by
  have h:=congrFun (lk6_2_t w) os
  rw[← PySem.W.Fast.te821141287760084731,← PySem.W.Fast.te15717526521509864196,← PySem.W.Fast.te210736558901404530,← hp] at h
  exact h
theorem lk6_3_t (w:World):(fun os=>(((PySem.W.Fast.tw210736558901404530 (vwO pT) (PySem.W.Fast.tw821141287760084731 (vwO pT) loO)).drop 18).take 6).map (fun c=>PySem.W.Fast.tw15717526521509864196 ((sF w os)).heap c.withCmp))=fun (os:OsState)=>(((PySem.W.Fast.tw210736558901404530 (vwO pT) (PySem.W.Fast.tw821141287760084731 (vwO pT) loO)).drop 18).take 6).map (fun c=>some c.withCmp.plainShape):=by kernel_rfl
theorem lk6_3 (w:World) (os:OsState):(((PyProof.Rows.plainsOf (vwO pO) (PySem.W.looseW (vwO pO) loO)).drop 18).take 6).map (fun c=>PySem.Heap.plainShapeAt ((sF w os)).heap c.withCmp)=(((PyProof.Rows.plainsOf (vwO pO) (PySem.W.looseW (vwO pO) loO)).drop 18).take 6).map (fun c=>some c.withCmp.plainShape):=by
  have h:=congrFun (lk6_3_t w) os
  rw[← PySem.W.Fast.te821141287760084731,← PySem.W.Fast.te15717526521509864196,← PySem.W.Fast.te210736558901404530,← hp] at h
  exact h
theorem lk6_4_t (w:World):(fun os=>(((PySem.W.Fast.tw210736558901404530 (vwO pT) (PySem.W.Fast.tw821141287760084731 (vwO pT) loO)).drop 24).take 6).map (fun c=>PySem.W.Fast.tw15717526521509864196 ((sF w os)).heap c.withCmp))=fun (os:OsState)=>(((PySem.W.Fast.tw210736558901404530 (vwO pT) (PySem.W.Fast.tw821141287760084731 (vwO pT) loO)).drop 24).take 6).map (fun c=>some c.withCmp.plainShape):=by kernel_rfl
theorem lk6_4 (w:World) (os:OsState):(((PyProof.Rows.plainsOf (vwO pO) (PySem.W.looseW (vwO pO) loO)).drop 24).take 6).map (fun c=>PySem.Heap.plainShapeAt ((sF w os)).heap c.withCmp)=(((PyProof.Rows.plainsOf (vwO pO) (PySem.W.looseW (vwO pO) loO)).drop 24).take 6).map (fun c=>some c.withCmp.plainShape):=by
  have h:=congrFun (lk6_4_t w) os
  rw[← PySem.W.Fast.te821141287760084731,← PySem.W.Fast.te15717526521509864196,← PySem.W.Fast.te210736558901404530,← hp] at h
  exact h
theorem lk6_5_t (w:World):(fun os=>(((PySem.W.Fast.tw210736558901404530 (vwO pT) (PySem.W.Fast.tw821141287760084731 (vwO pT) loO)).drop 30).take 6).map (fun c=>PySem.W.Fast.tw15717526521509864196 ((sF w os)).heap c.withCmp))=fun (os:OsState)=>(((PySem.W.Fast.tw210736558901404530 (vwO pT) (PySem.W.Fast.tw821141287760084731 (vwO pT) loO)).drop 30).take 6).map (fun c=>some c.withCmp.plainShape):=by kernel_rfl
theorem lk6_5 (w:World) (os:OsState):(((PyProof.Rows.plainsOf (vwO pO) (PySem.W.looseW (vwO pO) loO)).drop 30).take 6).map (fun c=>PySem.Heap.plainShapeAt ((sF w os)).heap c.withCmp)=(((PyProof.Rows.plainsOf (vwO pO) (PySem.W.looseW (vwO pO) loO)).drop 30).take 6).map (fun c=>some c.withCmp.plainShape):=by
  have h:=congrFun (lk6_5_t w) os
  rw[← PySem.W.Fast.te821141287760084731,← PySem.W.Fast.te15717526521509864196,← PySem.W.Fast.te210736558901404530,← hp] at h
  exact h
theorem lk6_6_t (w:World):(fun os=>(((PySem.W.Fast.tw210736558901404530 (vwO pT) (PySem.W.Fast.tw821141287760084731 (vwO pT) loO)).drop 36).take 1000).map (fun c=>PySem.W.Fast.tw15717526521509864196 ((sF w os)).heap c.withCmp))=fun (os:OsState)=>(((PySem.W.Fast.tw210736558901404530 (vwO pT) (PySem.W.Fast.tw821141287760084731 (vwO pT) loO)).drop 36).take 1000).map (fun c=>some c.withCmp.plainShape):=by kernel_rfl
theorem lk6_6 (w:World) (os:OsState):(((PyProof.Rows.plainsOf (vwO pO) (PySem.W.looseW (vwO pO) loO)).drop 36).take 1000).map (fun c=>PySem.Heap.plainShapeAt ((sF w os)).heap c.withCmp)=(((PyProof.Rows.plainsOf (vwO pO) (PySem.W.looseW (vwO pO) loO)).drop 36).take 1000).map (fun c=>some c.withCmp.plainShape):=by
  have h:=congrFun (lk6_6_t w) os
  rw[← PySem.W.Fast.te821141287760084731,← PySem.W.Fast.te15717526521509864196,← PySem.W.Fast.te210736558901404530,← hp] at h
  exact h
theorem lk10_0_t (w:World):(fun os=>((KA.drop 0).take 60).map ((sF w os)).heap.get?)=fun (os:OsState)=>(((KK w.params).drop 0).take 60).map (fun p=>some p.2):=by kernel_rfl
theorem lk10_0 (w:World) (os:OsState):((KA.drop 0).take 60).map ((sF w os)).heap.get?=(((KK w.params).drop 0).take 60).map (fun p=>some p.2):=by
  have h:=congrFun (lk10_0_t w) os
  exact h
theorem lk10_1_t (w:World):(fun os=>((KA.drop 60).take 60).map ((sF w os)).heap.get?)=fun (os:OsState)=>(((KK w.params).drop 60).take 60).map (fun p=>some p.2):=by kernel_rfl
theorem lk10_1 (w:World) (os:OsState):((KA.drop 60).take 60).map ((sF w os)).heap.get?=(((KK w.params).drop 60).take 60).map (fun p=>some p.2):=by
  have h:=congrFun (lk10_1_t w) os
  exact h
theorem lk10_2_t (w:World):(fun os=>((KA.drop 120).take 60).map ((sF w os)).heap.get?)=fun (os:OsState)=>(((KK w.params).drop 120).take 60).map (fun p=>some p.2):=by kernel_rfl
theorem lk10_2 (w:World) (os:OsState):((KA.drop 120).take 60).map ((sF w os)).heap.get?=(((KK w.params).drop 120).take 60).map (fun p=>some p.2):=by
  have h:=congrFun (lk10_2_t w) os
  exact h
theorem lk10_3_t (w:World):(fun os=>((KA.drop 180).take 60).map ((sF w os)).heap.get?)=fun (os:OsState)=>(((KK w.params).drop 180).take 60).map (fun p=>some p.2):=by kernel_rfl
theorem lk10_3 (w:World) (os:OsState):((KA.drop 180).take 60).map ((sF w os)).heap.get?=(((KK w.params).drop 180).take 60).map (fun p=>some p.2):=by
  have h:=congrFun (lk10_3_t w) os
  exact h
theorem lk10_4_t (w:World):(fun os=>((KA.drop 240).take 60).map ((sF w os)).heap.get?)=fun (os:OsState)=>(((KK w.params).drop 240).take 60).map (fun p=>some p.2):=by kernel_rfl
theorem lk10_4 (w:World) (os:OsState):((KA.drop 240).take 60).map ((sF w os)).heap.get?=(((KK w.params).drop 240).take 60).map (fun p=>some p.2):=by
  have h:=congrFun (lk10_4_t w) os
  exact h
theorem map_cut {α β γ:Type} {f:α→γ} {g:β→γ} {xs:List α} {ys:List β} {a m:Nat} (h:((xs.drop a).take m).map f=((ys.drop a).take m).map g) (k:(xs.drop (a+m)).map f=(ys.drop (a+m)).map g):(xs.drop a).map f=(ys.drop a).map g:=by
  rw[← List.take_append_drop m (xs.drop a),← List.take_append_drop m (ys.drop a),List.map_append,List.map_append,h,List.drop_drop,List.drop_drop,k]
theorem map_end {α β γ:Type} {f:α→γ} {g:β→γ} {xs:List α} {ys:List β} {a m:Nat} (h:((xs.drop a).take m).map f=((ys.drop a).take m).map g) (l:xs.length≤a+m) (l2:ys.length≤a+m):(xs.drop a).map f=(ys.drop a).map g:=by
  rw[List.take_of_length_le (by rw[List.length_drop];omega),List.take_of_length_le (by rw[List.length_drop];omega)] at h
  exact h
theorem po_len_t:Nat.ble (PyProof.Rows.plainsOf (vwO pO) (looseW (vwO pO) loO)).length 1036=true:=by kernel_rfl
theorem po_len:(PyProof.Rows.plainsOf (vwO pO) (looseW (vwO pO) loO)).length≤36+1000:=Nat.le_of_ble_eq_true po_len_t
theorem lk6 (w:World) (os:OsState):PyProof.Rows.plainSeenE (vwO pO) (looseW (vwO pO) loO) (sF w os)=PyProof.Rows.plainGoodE (vwO pO) (looseW (vwO pO) loO):=by
  have h:=map_cut (lk6_0 w os) (map_cut (lk6_1 w os) (map_cut (lk6_2 w os) (map_cut (lk6_3 w os) (map_cut (lk6_4 w os) (map_cut (lk6_5 w os) (map_end (lk6_6 w os) po_len po_len))))))
  exact h
theorem ka_len:KA.length≤240+60:=Nat.le_of_ble_eq_true (by kernel_rfl)
theorem kk_len (Q:Params):(KK Q).length≤240+60:=Nat.le_of_ble_eq_true (by kernel_rfl)
theorem lk10 (w:World) (os:OsState):Hook.obs hkO (sF w os)=Hook.val hkO w:=by
  have h:=map_cut (lk10_0 w os) (map_cut (lk10_1 w os) (map_cut (lk10_2 w os) (map_cut (lk10_3 w os) (map_end (lk10_4 w os) ka_len (kk_len w.params)))))
  exact h
theorem looks3 {α β γ:Type} {a x:α} {b y:β} {c z:γ} (h:a=x) (g:b=y) (k:c=z):(a,b,c)=(x,y,z):=by rw[h,g,k]
theorem openSeen_of {q:Program} {loose mods:List Str} {Xt:Shared→Bool} {g0:Bool} {s:Shared}
    (h1:PyProof.Rows.seen (List.map (fun x=>x.name) (PyProof.Rows.recsOf q)) (PyProof.Rows.ownsOf q) [] { heap:=s.heap,drawn:=s.drawn,toks:=s.toks,os:=s.os }=PyProof.Rows.expectedOf q)
    (h2:s.heap.bltView=bltViewBooted)
    (h3:(s.heap.keysOk (looseW q loose) (List.map (fun x=>x.name) (PyProof.Rows.recsOf q)) (List.map (fun x=>x.fst) (PyProof.Rows.litsOf q)) (List.map (fun x=>x.name) (PyProof.Rows.clssOf q (looseW q loose))) && s.heap.accountedOkI mods && s.heap.isNs mainGlobals && s.heap.isNs builtinsNs && PyProof.Rows.tablesOk q s.heap && Xt s && (if g0=true then s.gens.size == 0 else !leftWithCleanup s.gens))=true)
    (h4:PyProof.Rows.tabsOk q s=true) (h5:pinSeenD q (PyProof.Rows.drecsOf q) s=pinGoodD (PyProof.Rows.drecsOf q)) (h6:PyProof.Rows.plainSeenE q (looseW q loose) s=PyProof.Rows.plainGoodE q (looseW q loose))
    (h7:PyProof.Rows.plainSeenD q loose s=PyProof.Rows.plainGoodD q loose) (h8:wideSeen q s=wideGood q) (h9:clsSeenW q loose s=clsGoodW q loose):openSeen q loose mods Xt g0 s=openGood q loose:=by
  unfold openSeen openGood
  rw[h1,h2,h3,h4,h5,h6,h7,h8,h9]
theorem hd_e:opening pO=plainProg pO.main.scope.names:=by kernel_rfl
theorem hd_f: ∀s:Shared,fenceModules? pO s=some s:=fun s=>by kernel_rfl
theorem hd_size (w:World):((PySem.W.boot_heap w.params).isNs mainGlobals && Array.size (⟨[]⟩:Array GenState) == 0,(PySem.W.boot_heap w.params).objs.size,(PySem.W.boot_heap w.params).nsMap mainGlobals "__annotations__")=(true,11,annO):=by kernel_rfl
theorem hd_left:LeftO pO (vwO pO) loO (xtO rrO pO) (Hook.obs hkO) (Hook.val hkO) 7138:=by
  refine LeftO.of_pieces (H₀:=PySem.W.boot_heap) (H₁:=hF) (gs₀:=⟨[]⟩) (gs₁:=⟨[]⟩) (d₀:=PySem.W.boot_drawn) (d₁:=(.mk 0 0 0 0)) (k₀:=PySem.W.boot_toks) (k₁:=808) (m₀:=11) (ann:=annO) (M:=mO) (boot_open hd_e (by decide +kernel) hd_f) hd_size hd_run (by decide +kernel) fun w=> ?_
  funext os
  exact looks3 (lk0 w os) (openSeen_of (lk1 w os) (lk2 w os) (lk3 w os) (lk4 w os) (lk5 w os) (lk6 w os) (lk7 w os) (lk8 w os) (lk9 w os)) (lk10 w os)
end

theorem all_mk {l:PySem.W.OpenLaw} {w:World} {K:PySem.W.Frag} {h:Heap} {mg:Str→Option Value} {fa:Addr} (X:K.In h) (G:h.Ns mainGlobals mg) (hfa:mg "law" =some (.ref fa))
    {f_0:Addr} {od_0 an_0:Option Addr} {sl_0:Array (Option Value)} {oc_0 kV_0 dc_0 pm_0 cd_0 ct_0:Value}
    {f_1:Addr} {od_1 an_1:Option Addr} {sl_1:Array (Option Value)} {oc_1 kV_1 dc_1 pm_1 cd_1 ct_1:Value}
    {f_2:Addr} {od_2 an_2:Option Addr} {sl_2:Array (Option Value)} {oc_2 kV_2 dc_2 pm_2 cd_2 ct_2:Value}
    {f_3:Addr} {od_3 an_3:Option Addr} {sl_3:Array (Option Value)} {oc_3 kV_3 dc_3 pm_3 cd_3 ct_3:Value}
    {f_4:Addr} {od_4 an_4:Option Addr} {sl_4:Array (Option Value)} {oc_4 kV_4 dc_4 pm_4 cd_4 ct_4:Value}
    {f_5:Addr} {od_5 an_5:Option Addr} {sl_5:Array (Option Value)} {oc_5 kV_5 dc_5 pm_5 cd_5 ct_5:Value}
    {f_6:Addr} {od_6 an_6:Option Addr} {sl_6:Array (Option Value)} {oc_6 kV_6 dc_6 pm_6 cd_6 ct_6:Value}
    {f_7:Addr} {od_7 an_7:Option Addr} {sl_7:Array (Option Value)} {oc_7 kV_7 dc_7 pm_7 cd_7 ct_7:Value}
    {f_8:Addr} {od_8 an_8:Option Addr} {sl_8:Array (Option Value)} {oc_8 kV_8 dc_8 pm_8 cd_8 ct_8:Value}
    {f_9:Addr} {od_9 an_9:Option Addr} {sl_9:Array (Option Value)} {oc_9 kV_9 dc_9 pm_9 cd_9 ct_9:Value}
    {f_10:Addr} {od_10 an_10:Option Addr} {sl_10:Array (Option Value)} {oc_10 kV_10 dc_10 pm_10 cd_10 ct_10:Value}
    {f_11:Addr} {od_11 an_11:Option Addr} {sl_11:Array (Option Value)} {oc_11 dc_11 pm_11 cd_11 ct_11:Value} {kd_is_cell:Addr}
    {kt_is_cell_0:Tok}
    {f_12:Addr} {od_12 an_12:Option Addr} {sl_12:Array (Option Value)} {oc_12 dc_12 pm_12 cd_12 ct_12:Value} {kd_cell_tuple:Addr}
    {kt_cell_tuple_0:Tok}
    {f_13:Addr} {od_13 an_13:Option Addr} {sl_13:Array (Option Value)} {oc_13 kV_13 dc_13 pm_13 cd_13 ct_13:Value}
    {f_14:Addr} {od_14 an_14:Option Addr} {sl_14:Array (Option Value)} {oc_14 kV_14 dc_14 pm_14 cd_14 ct_14:Value}
    {td_number_in:Addr} {tc_number_in:Value} {te_number_in:Option Addr} {tn_number_in:Nat} {ts_number_in:Array (Option Value)} {tt_number_in_0:Tok}
    {f_15:Addr} {od_15 an_15:Option Addr} {sl_15:Array (Option Value)} {oc_15 kV_15 dc_15 pm_15 cd_15 ct_15:Value}
    {f_16:Addr} {od_16 an_16:Option Addr} {sl_16:Array (Option Value)} {oc_16 kV_16 dc_16 pm_16 cd_16 ct_16:Value}
    {f_17:Addr} {od_17 an_17:Option Addr} {sl_17:Array (Option Value)} {oc_17 kV_17 dc_17 pm_17 cd_17 ct_17:Value}
    {f_18:Addr} {od_18 an_18:Option Addr} {sl_18:Array (Option Value)} {oc_18 kV_18 dc_18 pm_18 cd_18 ct_18:Value}
    {f_19:Addr} {od_19 an_19:Option Addr} {sl_19:Array (Option Value)} {oc_19 kV_19 dc_19 pm_19 cd_19 ct_19:Value}
    {f_20:Addr} {od_20 an_20:Option Addr} {sl_20:Array (Option Value)} {oc_20 kV_20 dc_20 pm_20 cd_20 ct_20:Value}
    {f_21:Addr} {od_21 an_21:Option Addr} {sl_21:Array (Option Value)} {oc_21 kV_21 dc_21 pm_21 cd_21 ct_21:Value}
    {f_22:Addr} {od_22 an_22:Option Addr} {sl_22:Array (Option Value)} {oc_22 kV_22 dc_22 pm_22 cd_22 ct_22:Value}
    {f_23:Addr} {od_23 an_23:Option Addr} {sl_23:Array (Option Value)} {oc_23 kV_23 dc_23 pm_23 cd_23 ct_23:Value}
    {f_24:Addr} {od_24 an_24:Option Addr} {sl_24:Array (Option Value)} {oc_24 kV_24 dc_24 pm_24 cd_24 ct_24:Value}
    {f_25:Addr} {od_25 an_25:Option Addr} {sl_25:Array (Option Value)} {oc_25 kV_25 dc_25 pm_25 cd_25 ct_25:Value}
    {f_26:Addr} {od_26 an_26:Option Addr} {sl_26:Array (Option Value)} {oc_26 kV_26 dc_26 pm_26 cd_26 ct_26:Value}
    {f_27:Addr} {od_27 an_27:Option Addr} {sl_27:Array (Option Value)} {oc_27 kV_27 dc_27 pm_27 cd_27 ct_27:Value}
    {f_28:Addr} {od_28 an_28:Option Addr} {sl_28:Array (Option Value)} {oc_28 kV_28 dc_28 pm_28 cd_28 ct_28:Value}
    {f_29:Addr} {od_29 an_29:Option Addr} {sl_29:Array (Option Value)} {oc_29 dc_29 pm_29 cd_29 ct_29:Value} {kd_Board____init:Addr}
    {dd_Board____init_0:Option Addr} {dn_Board____init_0:Nat} {ds_Board____init_0:Array (Option Value)} {da_Board____init_0:Addr}
    {f_30:Addr} {od_30 an_30:Option Addr} {sl_30:Array (Option Value)} {oc_30 kV_30 dc_30 pm_30 cd_30 ct_30:Value}
    {f_31:Addr} {od_31 an_31:Option Addr} {sl_31:Array (Option Value)} {oc_31 kV_31 dc_31 pm_31 cd_31 ct_31:Value}
    {f_32:Addr} {od_32 an_32:Option Addr} {sl_32:Array (Option Value)} {oc_32 kV_32 dc_32 pm_32 cd_32 ct_32:Value}
    {f_33:Addr} {od_33 an_33:Option Addr} {sl_33:Array (Option Value)} {oc_33 kV_33 dc_33 pm_33 cd_33 ct_33:Value}
    {f_34:Addr} {od_34 an_34:Option Addr} {sl_34:Array (Option Value)} {oc_34 kV_34 dc_34 pm_34 cd_34 ct_34:Value}
    {f_35:Addr} {od_35 an_35:Option Addr} {sl_35:Array (Option Value)} {oc_35 kV_35 dc_35 pm_35 cd_35 ct_35:Value}
    {f_36:Addr} {od_36 an_36:Option Addr} {sl_36:Array (Option Value)} {oc_36 kV_36 dc_36 pm_36 cd_36 ct_36:Value}
    {f_37:Addr} {od_37 an_37:Option Addr} {sl_37:Array (Option Value)} {oc_37 kV_37 dc_37 pm_37 cd_37 ct_37:Value}
    {f_38:Addr} {od_38 an_38:Option Addr} {sl_38:Array (Option Value)} {oc_38 kV_38 dc_38 pm_38 cd_38 ct_38:Value}
    {c_Board:Addr}
    {c_Flip:Addr}
    {c_CellError:Addr}
    {c_LimitError:Addr}
    {c_NoSize:Addr}
    {c_NoCells:Addr}
    {c_NoFlip:Addr}
    {c_NoText:Addr}
    {fI_NoSize N_NoSize:Addr} {nm_NoSize qn_NoSize:Str} {bs_NoSize sb_NoSize:List Value} {sn_NoSize:List Str} {ab_NoSize:Bool} {col_NoSize:Option Bool} {dd_NoSize od_NoSize an_NoSize:Option Addr} {m0_NoSize m1_NoSize m2_NoSize m3_NoSize m5_NoSize:Option Value} {oc_NoSize kV_NoSize dc_NoSize pm_NoSize cd_NoSize ct_NoSize:Value} {sl_NoSize:Array (Option Value)}
    {fI_NoCells N_NoCells:Addr} {nm_NoCells qn_NoCells:Str} {bs_NoCells sb_NoCells:List Value} {sn_NoCells:List Str} {ab_NoCells:Bool} {col_NoCells:Option Bool} {dd_NoCells od_NoCells an_NoCells:Option Addr} {m0_NoCells m1_NoCells m2_NoCells m3_NoCells m5_NoCells:Option Value} {oc_NoCells kV_NoCells dc_NoCells pm_NoCells cd_NoCells ct_NoCells:Value} {sl_NoCells:Array (Option Value)}
    {fI_NoFlip N_NoFlip:Addr} {nm_NoFlip qn_NoFlip:Str} {bs_NoFlip sb_NoFlip:List Value} {sn_NoFlip:List Str} {ab_NoFlip:Bool} {col_NoFlip:Option Bool} {dd_NoFlip od_NoFlip an_NoFlip:Option Addr} {m0_NoFlip m1_NoFlip m2_NoFlip m3_NoFlip m5_NoFlip:Option Value} {oc_NoFlip kV_NoFlip dc_NoFlip pm_NoFlip cd_NoFlip ct_NoFlip:Value} {sl_NoFlip:Array (Option Value)}
    {fI_NoText N_NoText:Addr} {nm_NoText qn_NoText:Str} {bs_NoText sb_NoText:List Value} {sn_NoText:List Str} {ab_NoText:Bool} {col_NoText:Option Bool} {dd_NoText od_NoText an_NoText:Option Addr} {m0_NoText m1_NoText m2_NoText m3_NoText m5_NoText:Option Value} {oc_NoText kV_NoText dc_NoText pm_NoText cd_NoText ct_NoText:Value} {sl_NoText:Array (Option Value)}
    {t_BEFORE_TOGGLED:Tok}
    {t_BETWEEN:Tok}
    {t_DIGITS:Tok}
    {t_MOST_CELLS:Tok}
    {t_NO_CELLS:Tok}
    (aC_Flip:PySem.W.nsIn K mainGlobals "Flip" =some (some (.ref c_Flip)))
    (aC_Board:PySem.W.nsIn K mainGlobals "Board" =some (some (.ref c_Board)))
    (a_law_pot:PySem.W.nsIn K mainGlobals "_law_pot" =some (some (.ref f_0))) (l_law_pot:K.lookup f_0=some ⟨oc_0,od_0,.func (PySem.W.fnOf "_law_pot" "_law_pot" (defArgs st__law_pot) (defBody st__law_pot) (defScope st__law_pot) .none kV_0 dc_0 pm_0 an_0 cd_0 ct_0),sl_0⟩) (c_law_pot:PySem.W.codeIn K cd_0 "_law_pot" =true) (k_law_pot:PySem.W.keepIn K (.ref f_0)=true)
    (a_law_draw:PySem.W.nsIn K mainGlobals "_law_draw" =some (some (.ref f_1))) (l_law_draw:K.lookup f_1=some ⟨oc_1,od_1,.func (PySem.W.fnOf "_law_draw" "_law_draw" (defArgs st__law_draw) (defBody st__law_draw) (defScope st__law_draw) .none kV_1 dc_1 pm_1 an_1 cd_1 ct_1),sl_1⟩) (c_law_draw:PySem.W.codeIn K cd_1 "_law_draw" =true) (k_law_draw:PySem.W.keepIn K (.ref f_1)=true)
    (a_law_width:PySem.W.nsIn K mainGlobals "_law_width" =some (some (.ref f_2))) (l_law_width:K.lookup f_2=some ⟨oc_2,od_2,.func (PySem.W.fnOf "_law_width" "_law_width" (defArgs st__law_width) (defBody st__law_width) (defScope st__law_width) .none kV_2 dc_2 pm_2 an_2 cd_2 ct_2),sl_2⟩) (c_law_width:PySem.W.codeIn K cd_2 "_law_width" =true) (k_law_width:PySem.W.keepIn K (.ref f_2)=true)
    (a_law_spots:PySem.W.nsIn K mainGlobals "_law_spots" =some (some (.ref f_3))) (l_law_spots:K.lookup f_3=some ⟨oc_3,od_3,.func (PySem.W.fnOf "_law_spots" "_law_spots" (defArgs st__law_spots) (defBody st__law_spots) (defScope st__law_spots) .none kV_3 dc_3 pm_3 an_3 cd_3 ct_3),sl_3⟩) (c_law_spots:PySem.W.codeIn K cd_3 "_law_spots" =true) (k_law_spots:PySem.W.keepIn K (.ref f_3)=true)
    (a_law_pair:PySem.W.nsIn K mainGlobals "_law_pair" =some (some (.ref f_4))) (l_law_pair:K.lookup f_4=some ⟨oc_4,od_4,.func (PySem.W.fnOf "_law_pair" "_law_pair" (defArgs st__law_pair) (defBody st__law_pair) (defScope st__law_pair) .none kV_4 dc_4 pm_4 an_4 cd_4 ct_4),sl_4⟩) (c_law_pair:PySem.W.codeIn K cd_4 "_law_pair" =true) (k_law_pair:PySem.W.keepIn K (.ref f_4)=true)
    (a_law_bits_text:PySem.W.nsIn K mainGlobals "_law_bits_text" =some (some (.ref f_5))) (l_law_bits_text:K.lookup f_5=some ⟨oc_5,od_5,.func (PySem.W.fnOf "_law_bits_text" "_law_bits_text" (defArgs st__law_bits_text) (defBody st__law_bits_text) (defScope st__law_bits_text) .none kV_5 dc_5 pm_5 an_5 cd_5 ct_5),sl_5⟩) (c_law_bits_text:PySem.W.codeIn K cd_5 "_law_bits_text" =true) (k_law_bits_text:PySem.W.keepIn K (.ref f_5)=true)
    (a_law_bits:PySem.W.nsIn K mainGlobals "_law_bits" =some (some (.ref f_6))) (l_law_bits:K.lookup f_6=some ⟨oc_6,od_6,.func (PySem.W.fnOf "_law_bits" "_law_bits" (defArgs st__law_bits) (defBody st__law_bits) (defScope st__law_bits) .none kV_6 dc_6 pm_6 an_6 cd_6 ct_6),sl_6⟩) (c_law_bits:PySem.W.codeIn K cd_6 "_law_bits" =true) (k_law_bits:PySem.W.keepIn K (.ref f_6)=true)
    (a_law_text_of:PySem.W.nsIn K mainGlobals "_law_text_of" =some (some (.ref f_7))) (l_law_text_of:K.lookup f_7=some ⟨oc_7,od_7,.func (PySem.W.fnOf "_law_text_of" "_law_text_of" (defArgs st__law_text_of) (defBody st__law_text_of) (defScope st__law_text_of) .none kV_7 dc_7 pm_7 an_7 cd_7 ct_7),sl_7⟩) (c_law_text_of:PySem.W.codeIn K cd_7 "_law_text_of" =true) (k_law_text_of:PySem.W.keepIn K (.ref f_7)=true)
    (a_law_pair_text:PySem.W.nsIn K mainGlobals "_law_pair_text" =some (some (.ref f_8))) (l_law_pair_text:K.lookup f_8=some ⟨oc_8,od_8,.func (PySem.W.fnOf "_law_pair_text" "_law_pair_text" (defArgs st__law_pair_text) (defBody st__law_pair_text) (defScope st__law_pair_text) .none kV_8 dc_8 pm_8 an_8 cd_8 ct_8),sl_8⟩) (c_law_pair_text:PySem.W.codeIn K cd_8 "_law_pair_text" =true) (k_law_pair_text:PySem.W.keepIn K (.ref f_8)=true)
    (a_law_bent:PySem.W.nsIn K mainGlobals "_law_bent" =some (some (.ref f_9))) (l_law_bent:K.lookup f_9=some ⟨oc_9,od_9,.func (PySem.W.fnOf "_law_bent" "_law_bent" (defArgs st__law_bent) (defBody st__law_bent) (defScope st__law_bent) .none kV_9 dc_9 pm_9 an_9 cd_9 ct_9),sl_9⟩) (c_law_bent:PySem.W.codeIn K cd_9 "_law_bent" =true) (k_law_bent:PySem.W.keepIn K (.ref f_9)=true)
    (a_is_integer_in:PySem.W.nsIn K mainGlobals "is_integer_in" =some (some (.ref f_10))) (l_is_integer_in:K.lookup f_10=some ⟨oc_10,od_10,.func (PySem.W.fnOf "is_integer_in" "is_integer_in" (defArgs st_is_integer_in) (defBody st_is_integer_in) (defScope st_is_integer_in) .none kV_10 dc_10 pm_10 an_10 cd_10 ct_10),sl_10⟩) (c_is_integer_in:PySem.W.codeIn K cd_10 "is_integer_in" =true) (k_is_integer_in:PySem.W.keepIn K (.ref f_10)=true)
    (a_is_cell:PySem.W.nsIn K mainGlobals "is_cell" =some (some (.ref f_11))) (l_is_cell:K.lookup f_11=some ⟨oc_11,od_11,.func (PySem.W.fnOf "is_cell" "is_cell" (defArgs st_is_cell) (defBody st_is_cell) (defScope st_is_cell) .none (.ref kd_is_cell) dc_11 pm_11 an_11 cd_11 ct_11),sl_11⟩) (c_is_cell:PySem.W.codeIn K cd_11 "is_cell" =true) (k_is_cell:PySem.W.keepIn K (.ref f_11)=true)
    (kw_is_cell_0:PySem.W.nsIn K kd_is_cell "size" =some (some (.int 40 kt_is_cell_0)))
    (a_cell_tuple:PySem.W.nsIn K mainGlobals "cell_tuple" =some (some (.ref f_12))) (l_cell_tuple:K.lookup f_12=some ⟨oc_12,od_12,.func (PySem.W.fnOf "cell_tuple" "cell_tuple" (defArgs st_cell_tuple) (defBody st_cell_tuple) (defScope st_cell_tuple) .none (.ref kd_cell_tuple) dc_12 pm_12 an_12 cd_12 ct_12),sl_12⟩) (c_cell_tuple:PySem.W.codeIn K cd_12 "cell_tuple" =true) (k_cell_tuple:PySem.W.keepIn K (.ref f_12)=true)
    (kw_cell_tuple_0:PySem.W.nsIn K kd_cell_tuple "size" =some (some (.int 40 kt_cell_tuple_0)))
    (a_cells_text:PySem.W.nsIn K mainGlobals "cells_text" =some (some (.ref f_13))) (l_cells_text:K.lookup f_13=some ⟨oc_13,od_13,.func (PySem.W.fnOf "cells_text" "cells_text" (defArgs st_cells_text) (defBody st_cells_text) (defScope st_cells_text) .none kV_13 dc_13 pm_13 an_13 cd_13 ct_13),sl_13⟩) (c_cells_text:PySem.W.codeIn K cd_13 "cells_text" =true) (k_cells_text:PySem.W.keepIn K (.ref f_13)=true)
    (a_number_in:PySem.W.nsIn K mainGlobals "number_in" =some (some (.ref f_14))) (l_number_in:K.lookup f_14=some ⟨oc_14,od_14,.func (PySem.W.fnOf "number_in" "number_in" (defArgs st_number_in) (defBody st_number_in) (defScope st_number_in) (.ref td_number_in) kV_14 dc_14 pm_14 an_14 cd_14 ct_14),sl_14⟩) (c_number_in:PySem.W.codeIn K cd_14 "number_in" =true) (k_number_in:PySem.W.keepIn K (.ref f_14)=true)
    (kp_number_in:K.lookup td_number_in=some ⟨tc_number_in,te_number_in,.seq ([.int 30 tt_number_in_0]:List Value).toArray tn_number_in,ts_number_in⟩)
    (a_cells_written:PySem.W.nsIn K mainGlobals "cells_written" =some (some (.ref f_15))) (l_cells_written:K.lookup f_15=some ⟨oc_15,od_15,.func (PySem.W.fnOf "cells_written" "cells_written" (defArgs st_cells_written) (defBody st_cells_written) (defScope st_cells_written) .none kV_15 dc_15 pm_15 an_15 cd_15 ct_15),sl_15⟩) (c_cells_written:PySem.W.codeIn K cd_15 "cells_written" =true) (k_cells_written:PySem.W.keepIn K (.ref f_15)=true)
    (a_read_cells:PySem.W.nsIn K mainGlobals "read_cells" =some (some (.ref f_16))) (l_read_cells:K.lookup f_16=some ⟨oc_16,od_16,.func (PySem.W.fnOf "read_cells" "read_cells" (defArgs st_read_cells) (defBody st_read_cells) (defScope st_read_cells) .none kV_16 dc_16 pm_16 an_16 cd_16 ct_16),sl_16⟩) (c_read_cells:PySem.W.codeIn K cd_16 "read_cells" =true) (k_read_cells:PySem.W.keepIn K (.ref f_16)=true)
    (a_cells_in:PySem.W.nsIn K mainGlobals "cells_in" =some (some (.ref f_17))) (l_cells_in:K.lookup f_17=some ⟨oc_17,od_17,.func (PySem.W.fnOf "cells_in" "cells_in" (defArgs st_cells_in) (defBody st_cells_in) (defScope st_cells_in) .none kV_17 dc_17 pm_17 an_17 cd_17 ct_17),sl_17⟩) (c_cells_in:PySem.W.codeIn K cd_17 "cells_in" =true) (k_cells_in:PySem.W.keepIn K (.ref f_17)=true)
    (a_mask_text:PySem.W.nsIn K mainGlobals "mask_text" =some (some (.ref f_18))) (l_mask_text:K.lookup f_18=some ⟨oc_18,od_18,.func (PySem.W.fnOf "mask_text" "mask_text" (defArgs st_mask_text) (defBody st_mask_text) (defScope st_mask_text) .none kV_18 dc_18 pm_18 an_18 cd_18 ct_18),sl_18⟩) (c_mask_text:PySem.W.codeIn K cd_18 "mask_text" =true) (k_mask_text:PySem.W.keepIn K (.ref f_18)=true)
    (a_Flip____str:PySem.W.findIn K (.ref c_Flip) "__str__" =some (some (.ref f_19))) (i_Flip____str:PySem.W.isFn K (.ref f_19)=true) (l_Flip____str:K.lookup f_19=some ⟨oc_19,od_19,.func (PySem.W.fnOf "__str__" "Flip.__str__" (defArgs st_Flip____str__) (defBody st_Flip____str__) (defScope st_Flip____str__) .none kV_19 dc_19 pm_19 an_19 cd_19 ct_19),sl_19⟩) (c_Flip____str:PySem.W.codeIn K cd_19 "Flip.__str__" =true) (k_Flip____str:PySem.W.keepIn K (.ref f_19)=true)
    (a_flip_text:PySem.W.nsIn K mainGlobals "flip_text" =some (some (.ref f_20))) (l_flip_text:K.lookup f_20=some ⟨oc_20,od_20,.func (PySem.W.fnOf "flip_text" "flip_text" (defArgs st_flip_text) (defBody st_flip_text) (defScope st_flip_text) .none kV_20 dc_20 pm_20 an_20 cd_20 ct_20),sl_20⟩) (c_flip_text:PySem.W.codeIn K cd_20 "flip_text" =true) (k_flip_text:PySem.W.keepIn K (.ref f_20)=true)
    (a_mask_of:PySem.W.nsIn K mainGlobals "mask_of" =some (some (.ref f_21))) (l_mask_of:K.lookup f_21=some ⟨oc_21,od_21,.func (PySem.W.fnOf "mask_of" "mask_of" (defArgs st_mask_of) (defBody st_mask_of) (defScope st_mask_of) .none kV_21 dc_21 pm_21 an_21 cd_21 ct_21),sl_21⟩) (c_mask_of:PySem.W.codeIn K cd_21 "mask_of" =true) (k_mask_of:PySem.W.keepIn K (.ref f_21)=true)
    (a_cell_mask:PySem.W.nsIn K mainGlobals "cell_mask" =some (some (.ref f_22))) (l_cell_mask:K.lookup f_22=some ⟨oc_22,od_22,.func (PySem.W.fnOf "cell_mask" "cell_mask" (defArgs st_cell_mask) (defBody st_cell_mask) (defScope st_cell_mask) .none kV_22 dc_22 pm_22 an_22 cd_22 ct_22),sl_22⟩) (c_cell_mask:PySem.W.codeIn K cd_22 "cell_mask" =true) (k_cell_mask:PySem.W.keepIn K (.ref f_22)=true)
    (a_is_odd:PySem.W.nsIn K mainGlobals "is_odd" =some (some (.ref f_23))) (l_is_odd:K.lookup f_23=some ⟨oc_23,od_23,.func (PySem.W.fnOf "is_odd" "is_odd" (defArgs st_is_odd) (defBody st_is_odd) (defScope st_is_odd) .none kV_23 dc_23 pm_23 an_23 cd_23 ct_23),sl_23⟩) (c_is_odd:PySem.W.codeIn K cd_23 "is_odd" =true) (k_is_odd:PySem.W.keepIn K (.ref f_23)=true)
    (a_Flip____init:PySem.W.findIn K (.ref c_Flip) "__init__" =some (some (.ref f_24))) (i_Flip____init:PySem.W.isFn K (.ref f_24)=true) (l_Flip____init:K.lookup f_24=some ⟨oc_24,od_24,.func (PySem.W.fnOf "__init__" "Flip.__init__" (defArgs st_Flip____init__) (defBody st_Flip____init__) (defScope st_Flip____init__) .none kV_24 dc_24 pm_24 an_24 cd_24 ct_24),sl_24⟩) (c_Flip____init:PySem.W.codeIn K cd_24 "Flip.__init__" =true) (k_Flip____init:PySem.W.keepIn K (.ref f_24)=true)
    (a_read_flip:PySem.W.nsIn K mainGlobals "read_flip" =some (some (.ref f_25))) (l_read_flip:K.lookup f_25=some ⟨oc_25,od_25,.func (PySem.W.fnOf "read_flip" "read_flip" (defArgs st_read_flip) (defBody st_read_flip) (defScope st_read_flip) .none kV_25 dc_25 pm_25 an_25 cd_25 ct_25),sl_25⟩) (c_read_flip:PySem.W.codeIn K cd_25 "read_flip" =true) (k_read_flip:PySem.W.keepIn K (.ref f_25)=true)
    (a_Board____str:PySem.W.findIn K (.ref c_Board) "__str__" =some (some (.ref f_26))) (i_Board____str:PySem.W.isFn K (.ref f_26)=true) (l_Board____str:K.lookup f_26=some ⟨oc_26,od_26,.func (PySem.W.fnOf "__str__" "Board.__str__" (defArgs st_Board____str__) (defBody st_Board____str__) (defScope st_Board____str__) .none kV_26 dc_26 pm_26 an_26 cd_26 ct_26),sl_26⟩) (c_Board____str:PySem.W.codeIn K cd_26 "Board.__str__" =true) (k_Board____str:PySem.W.keepIn K (.ref f_26)=true)
    (a_board_text:PySem.W.nsIn K mainGlobals "board_text" =some (some (.ref f_27))) (l_board_text:K.lookup f_27=some ⟨oc_27,od_27,.func (PySem.W.fnOf "board_text" "board_text" (defArgs st_board_text) (defBody st_board_text) (defScope st_board_text) .none kV_27 dc_27 pm_27 an_27 cd_27 ct_27),sl_27⟩) (c_board_text:PySem.W.codeIn K cd_27 "board_text" =true) (k_board_text:PySem.W.keepIn K (.ref f_27)=true)
    (a_require_size:PySem.W.nsIn K mainGlobals "require_size" =some (some (.ref f_28))) (l_require_size:K.lookup f_28=some ⟨oc_28,od_28,.func (PySem.W.fnOf "require_size" "require_size" (defArgs st_require_size) (defBody st_require_size) (defScope st_require_size) .none kV_28 dc_28 pm_28 an_28 cd_28 ct_28),sl_28⟩) (c_require_size:PySem.W.codeIn K cd_28 "require_size" =true) (k_require_size:PySem.W.keepIn K (.ref f_28)=true)
    (a_Board____init:PySem.W.findIn K (.ref c_Board) "__init__" =some (some (.ref f_29))) (i_Board____init:PySem.W.isFn K (.ref f_29)=true) (l_Board____init:K.lookup f_29=some ⟨oc_29,od_29,.func (PySem.W.fnOf "__init__" "Board.__init__" (defArgs st_Board____init__) (defBody st_Board____init__) (defScope st_Board____init__) .none (.ref kd_Board____init) dc_29 pm_29 an_29 cd_29 ct_29),sl_29⟩) (c_Board____init:PySem.W.codeIn K cd_29 "Board.__init__" =true) (k_Board____init:PySem.W.keepIn K (.ref f_29)=true)
    (kw_Board____init_0:PySem.W.nsIn K kd_Board____init "up" =some (some (.ref da_Board____init_0)))
    (kt_Board____init_0:K.lookup da_Board____init_0=some ⟨.type "tuple",dd_Board____init_0,.seq #[] dn_Board____init_0,ds_Board____init_0⟩)
    (a_read_board:PySem.W.nsIn K mainGlobals "read_board" =some (some (.ref f_30))) (l_read_board:K.lookup f_30=some ⟨oc_30,od_30,.func (PySem.W.fnOf "read_board" "read_board" (defArgs st_read_board) (defBody st_read_board) (defScope st_read_board) .none kV_30 dc_30 pm_30 an_30 cd_30 ct_30),sl_30⟩) (c_read_board:PySem.W.codeIn K cd_30 "read_board" =true) (k_read_board:PySem.W.keepIn K (.ref f_30)=true)
    (a_law_read:PySem.W.nsIn K mainGlobals "_law_read" =some (some (.ref f_31))) (l_law_read:K.lookup f_31=some ⟨oc_31,od_31,.func (PySem.W.fnOf "_law_read" "_law_read" (defArgs st__law_read) (defBody st__law_read) (defScope st__law_read) .none kV_31 dc_31 pm_31 an_31 cd_31 ct_31),sl_31⟩) (c_law_read:PySem.W.codeIn K cd_31 "_law_read" =true) (k_law_read:PySem.W.keepIn K (.ref f_31)=true)
    (a_law_told:PySem.W.nsIn K mainGlobals "_law_told" =some (some (.ref f_32))) (l_law_told:K.lookup f_32=some ⟨oc_32,od_32,.func (PySem.W.fnOf "_law_told" "_law_told" (defArgs st__law_told) (defBody st__law_told) (defScope st__law_told) .none kV_32 dc_32 pm_32 an_32 cd_32 ct_32),sl_32⟩) (c_law_told:PySem.W.codeIn K cd_32 "_law_told" =true) (k_law_told:PySem.W.keepIn K (.ref f_32)=true)
    (a_law_is_board:PySem.W.nsIn K mainGlobals "_law_is_board" =some (some (.ref f_33))) (l_law_is_board:K.lookup f_33=some ⟨oc_33,od_33,.func (PySem.W.fnOf "_law_is_board" "_law_is_board" (defArgs st__law_is_board) (defBody st__law_is_board) (defScope st__law_is_board) .none kV_33 dc_33 pm_33 an_33 cd_33 ct_33),sl_33⟩) (c_law_is_board:PySem.W.codeIn K cd_33 "_law_is_board" =true) (k_law_is_board:PySem.W.keepIn K (.ref f_33)=true)
    (a_law_are_cells:PySem.W.nsIn K mainGlobals "_law_are_cells" =some (some (.ref f_34))) (l_law_are_cells:K.lookup f_34=some ⟨oc_34,od_34,.func (PySem.W.fnOf "_law_are_cells" "_law_are_cells" (defArgs st__law_are_cells) (defBody st__law_are_cells) (defScope st__law_are_cells) .none kV_34 dc_34 pm_34 an_34 cd_34 ct_34),sl_34⟩) (c_law_are_cells:PySem.W.codeIn K cd_34 "_law_are_cells" =true) (k_law_are_cells:PySem.W.keepIn K (.ref f_34)=true)
    (a_law_own_spots:PySem.W.nsIn K mainGlobals "_law_own_spots" =some (some (.ref f_35))) (l_law_own_spots:K.lookup f_35=some ⟨oc_35,od_35,.func (PySem.W.fnOf "_law_own_spots" "_law_own_spots" (defArgs st__law_own_spots) (defBody st__law_own_spots) (defScope st__law_own_spots) .none kV_35 dc_35 pm_35 an_35 cd_35 ct_35),sl_35⟩) (c_law_own_spots:PySem.W.codeIn K cd_35 "_law_own_spots" =true) (k_law_own_spots:PySem.W.keepIn K (.ref f_35)=true)
    (a_law_is_flip:PySem.W.nsIn K mainGlobals "_law_is_flip" =some (some (.ref f_36))) (l_law_is_flip:K.lookup f_36=some ⟨oc_36,od_36,.func (PySem.W.fnOf "_law_is_flip" "_law_is_flip" (defArgs st__law_is_flip) (defBody st__law_is_flip) (defScope st__law_is_flip) .none kV_36 dc_36 pm_36 an_36 cd_36 ct_36),sl_36⟩) (c_law_is_flip:PySem.W.codeIn K cd_36 "_law_is_flip" =true) (k_law_is_flip:PySem.W.keepIn K (.ref f_36)=true)
    (a_law_due:PySem.W.nsIn K mainGlobals "_law_due" =some (some (.ref f_37))) (l_law_due:K.lookup f_37=some ⟨oc_37,od_37,.func (PySem.W.fnOf "_law_due" "_law_due" (defArgs st__law_due) (defBody st__law_due) (defScope st__law_due) .none kV_37 dc_37 pm_37 an_37 cd_37 ct_37),sl_37⟩) (c_law_due:PySem.W.codeIn K cd_37 "_law_due" =true) (k_law_due:PySem.W.keepIn K (.ref f_37)=true)
    (a_law:PySem.W.nsIn K mainGlobals "law" =some (some (.ref f_38))) (l_law:K.lookup f_38=some ⟨oc_38,od_38,.func (PySem.W.fnOf "law" "law" (defArgs st_law) (defBody st_law) (defScope st_law) .none kV_38 dc_38 pm_38 an_38 cd_38 ct_38),sl_38⟩) (c_law:PySem.W.codeIn K cd_38 "law" =true) (k_law:PySem.W.keepIn K (.ref f_38)=true)
    (pg_Board:PySem.W.plainGet K c_Board Str.empty=true)
    (hd_Board:PySem.W.hasDictIn K c_Board=true)
    (po_Board:PySem.W.plainOver K c_Board=true)
    (sa_Board:PySem.W.findIn K (.ref c_Board) "__setattr__" =some (some (.builtin "object.__setattr__")))
    (mk_Board:PySem.W.makesIn K c_Board=true)
    (ca_Board:PySem.W.findIn K (.ref c_Board) "__class__" =some (some (.builtin "object.__class__")))
    (ob_Board:PySem.W.mroIn K c_Board (.type "object")=some true)
    (kC_Board:PySem.W.keepIn K (.ref c_Board)=true)
    (no_Board_own_size:PySem.W.findIn K (.ref c_Board) "own_size" =some none)
    (no_Board_up_mask:PySem.W.findIn K (.ref c_Board) "up_mask" =some none)
    (pg_Flip:PySem.W.plainGet K c_Flip Str.empty=true)
    (hd_Flip:PySem.W.hasDictIn K c_Flip=true)
    (po_Flip:PySem.W.plainOver K c_Flip=true)
    (sa_Flip:PySem.W.findIn K (.ref c_Flip) "__setattr__" =some (some (.builtin "object.__setattr__")))
    (mk_Flip:PySem.W.makesIn K c_Flip=true)
    (ca_Flip:PySem.W.findIn K (.ref c_Flip) "__class__" =some (some (.builtin "object.__class__")))
    (ob_Flip:PySem.W.mroIn K c_Flip (.type "object")=some true)
    (kC_Flip:PySem.W.keepIn K (.ref c_Flip)=true)
    (no_Flip_test_mask:PySem.W.findIn K (.ref c_Flip) "test_mask" =some none)
    (no_Flip_toggle_mask:PySem.W.findIn K (.ref c_Flip) "toggle_mask" =some none)
    (aC_CellError:PySem.W.nsIn K mainGlobals "CellError" =some (some (.ref c_CellError)))
    (aC_LimitError:PySem.W.nsIn K mainGlobals "LimitError" =some (some (.ref c_LimitError)))
    (aC_NoSize:PySem.W.nsIn K mainGlobals "NoSize" =some (some (.ref c_NoSize)))
    (aC_NoCells:PySem.W.nsIn K mainGlobals "NoCells" =some (some (.ref c_NoCells)))
    (aC_NoFlip:PySem.W.nsIn K mainGlobals "NoFlip" =some (some (.ref c_NoFlip)))
    (aC_NoText:PySem.W.nsIn K mainGlobals "NoText" =some (some (.ref c_NoText)))
    (ga_CellError:PySem.W.findIn K (.ref c_CellError) "__getattribute__" =some (some (.builtin "BaseException.__getattribute__")))
    (gg_CellError:PySem.W.findIn K (.ref c_CellError) "__getattr__" =some none)
    (eC_CellError:PySem.W.subIn K (.ref c_CellError) (.type "BaseException")=some true)
    (hd_CellError:PySem.W.hasDictIn K c_CellError=true)
    (ic_CellError:PySem.W.isClsIn K c_CellError=true)
    (tC_CellError:PySem.W.typeIn K (.ref c_CellError)=some (.type "type"))
    (ca_CellError:PySem.W.findIn K (.ref c_CellError) "__class__" =some (some (.builtin "object.__class__")))
    (ob_CellError:PySem.W.mroIn K c_CellError (.type "object")=some true)
    (me_CellError:PySem.W.subIn K (.ref c_CellError) (.ref c_CellError)=some true)
    (ga_LimitError:PySem.W.findIn K (.ref c_LimitError) "__getattribute__" =some (some (.builtin "BaseException.__getattribute__")))
    (gg_LimitError:PySem.W.findIn K (.ref c_LimitError) "__getattr__" =some none)
    (eC_LimitError:PySem.W.subIn K (.ref c_LimitError) (.type "BaseException")=some true)
    (hd_LimitError:PySem.W.hasDictIn K c_LimitError=true)
    (ic_LimitError:PySem.W.isClsIn K c_LimitError=true)
    (tC_LimitError:PySem.W.typeIn K (.ref c_LimitError)=some (.type "type"))
    (ca_LimitError:PySem.W.findIn K (.ref c_LimitError) "__class__" =some (some (.builtin "object.__class__")))
    (ob_LimitError:PySem.W.mroIn K c_LimitError (.type "object")=some true)
    (me_LimitError:PySem.W.subIn K (.ref c_LimitError) (.ref c_LimitError)=some true)
    (ga_NoSize:PySem.W.findIn K (.ref c_NoSize) "__getattribute__" =some (some (.builtin "BaseException.__getattribute__")))
    (gg_NoSize:PySem.W.findIn K (.ref c_NoSize) "__getattr__" =some none)
    (eC_NoSize:PySem.W.subIn K (.ref c_NoSize) (.type "BaseException")=some true)
    (hd_NoSize:PySem.W.hasDictIn K c_NoSize=true)
    (ic_NoSize:PySem.W.isClsIn K c_NoSize=true)
    (tC_NoSize:PySem.W.typeIn K (.ref c_NoSize)=some (.type "type"))
    (ca_NoSize:PySem.W.findIn K (.ref c_NoSize) "__class__" =some (some (.builtin "object.__class__")))
    (ob_NoSize:PySem.W.mroIn K c_NoSize (.type "object")=some true)
    (me_NoSize:PySem.W.subIn K (.ref c_NoSize) (.ref c_NoSize)=some true)
    (ga_NoCells:PySem.W.findIn K (.ref c_NoCells) "__getattribute__" =some (some (.builtin "BaseException.__getattribute__")))
    (gg_NoCells:PySem.W.findIn K (.ref c_NoCells) "__getattr__" =some none)
    (eC_NoCells:PySem.W.subIn K (.ref c_NoCells) (.type "BaseException")=some true)
    (hd_NoCells:PySem.W.hasDictIn K c_NoCells=true)
    (ic_NoCells:PySem.W.isClsIn K c_NoCells=true)
    (tC_NoCells:PySem.W.typeIn K (.ref c_NoCells)=some (.type "type"))
    (ca_NoCells:PySem.W.findIn K (.ref c_NoCells) "__class__" =some (some (.builtin "object.__class__")))
    (ob_NoCells:PySem.W.mroIn K c_NoCells (.type "object")=some true)
    (me_NoCells:PySem.W.subIn K (.ref c_NoCells) (.ref c_NoCells)=some true)
    (ga_NoFlip:PySem.W.findIn K (.ref c_NoFlip) "__getattribute__" =some (some (.builtin "BaseException.__getattribute__")))
    (gg_NoFlip:PySem.W.findIn K (.ref c_NoFlip) "__getattr__" =some none)
    (eC_NoFlip:PySem.W.subIn K (.ref c_NoFlip) (.type "BaseException")=some true)
    (hd_NoFlip:PySem.W.hasDictIn K c_NoFlip=true)
    (ic_NoFlip:PySem.W.isClsIn K c_NoFlip=true)
    (tC_NoFlip:PySem.W.typeIn K (.ref c_NoFlip)=some (.type "type"))
    (ca_NoFlip:PySem.W.findIn K (.ref c_NoFlip) "__class__" =some (some (.builtin "object.__class__")))
    (ob_NoFlip:PySem.W.mroIn K c_NoFlip (.type "object")=some true)
    (me_NoFlip:PySem.W.subIn K (.ref c_NoFlip) (.ref c_NoFlip)=some true)
    (ga_NoText:PySem.W.findIn K (.ref c_NoText) "__getattribute__" =some (some (.builtin "BaseException.__getattribute__")))
    (gg_NoText:PySem.W.findIn K (.ref c_NoText) "__getattr__" =some none)
    (eC_NoText:PySem.W.subIn K (.ref c_NoText) (.type "BaseException")=some true)
    (hd_NoText:PySem.W.hasDictIn K c_NoText=true)
    (ic_NoText:PySem.W.isClsIn K c_NoText=true)
    (tC_NoText:PySem.W.typeIn K (.ref c_NoText)=some (.type "type"))
    (ca_NoText:PySem.W.findIn K (.ref c_NoText) "__class__" =some (some (.builtin "object.__class__")))
    (ob_NoText:PySem.W.mroIn K c_NoText (.type "object")=some true)
    (me_NoText:PySem.W.subIn K (.ref c_NoText) (.ref c_NoText)=some true)
    (rD_CellError:PySem.W.readsIn K c_CellError (.type "type")=true)
    (gD_CellError:PySem.W.specialIn K (.ref c_CellError) "__getattribute__" =some (some (.builtin "type.__getattribute__")))
    (iD_CellError:PySem.W.findCls K (.ref c_CellError) (.type "type") "__init__" =some (.val (.builtin "ValueError.__init__")))
    (rD_LimitError:PySem.W.readsIn K c_LimitError (.type "type")=true)
    (gD_LimitError:PySem.W.specialIn K (.ref c_LimitError) "__getattribute__" =some (some (.builtin "type.__getattribute__")))
    (iD_LimitError:PySem.W.findCls K (.ref c_LimitError) (.type "type") "__init__" =some (.val (.builtin "ArithmeticError.__init__")))
    (xL_NoSize:K.lookup c_NoSize=some (excClassObj nm_NoSize qn_NoSize c_NoSize N_NoSize bs_NoSize (.ref c_CellError:: [.type "ValueError",.type "Exception",.type "BaseException",.type "object"]) true sn_NoSize sb_NoSize ab_NoSize col_NoSize dd_NoSize m0_NoSize m1_NoSize m2_NoSize m3_NoSize m5_NoSize "ValueError.__new__"))
    (sa_NoSize:PySem.W.findIn K (.ref c_NoSize) "__setattr__" =some (some (.builtin "object.__setattr__")))
    (no_NoSize_0:PySem.W.findIn K (.ref c_NoSize) "value" =some none)
    (iI_NoSize:PySem.W.findIn K (.ref c_NoSize) "__init__" =some (some (.ref fI_NoSize)))
    (tI_NoSize:PySem.W.typeIn K (.ref fI_NoSize)=some (.type "function"))
    (lI_NoSize:K.lookup fI_NoSize=some ⟨oc_NoSize,od_NoSize,.func (PySem.W.fnOf "__init__" "NoSize.__init__" (defArgs st_NoSize) (defBody st_NoSize) (defScope st_NoSize) .none kV_NoSize dc_NoSize pm_NoSize an_NoSize cd_NoSize ct_NoSize),sl_NoSize⟩)
    (cI_NoSize:PySem.W.codeIn K cd_NoSize "NoSize.__init__" =true)
    (kC_NoSize:PySem.W.keepIn K (.ref c_NoSize)=true)
    (xL_NoCells:K.lookup c_NoCells=some (excClassObj nm_NoCells qn_NoCells c_NoCells N_NoCells bs_NoCells (.ref c_CellError:: [.type "ValueError",.type "Exception",.type "BaseException",.type "object"]) true sn_NoCells sb_NoCells ab_NoCells col_NoCells dd_NoCells m0_NoCells m1_NoCells m2_NoCells m3_NoCells m5_NoCells "ValueError.__new__"))
    (sa_NoCells:PySem.W.findIn K (.ref c_NoCells) "__setattr__" =some (some (.builtin "object.__setattr__")))
    (no_NoCells_0:PySem.W.findIn K (.ref c_NoCells) "cells" =some none)
    (iI_NoCells:PySem.W.findIn K (.ref c_NoCells) "__init__" =some (some (.ref fI_NoCells)))
    (tI_NoCells:PySem.W.typeIn K (.ref fI_NoCells)=some (.type "function"))
    (lI_NoCells:K.lookup fI_NoCells=some ⟨oc_NoCells,od_NoCells,.func (PySem.W.fnOf "__init__" "NoCells.__init__" (defArgs st_NoCells) (defBody st_NoCells) (defScope st_NoCells) .none kV_NoCells dc_NoCells pm_NoCells an_NoCells cd_NoCells ct_NoCells),sl_NoCells⟩)
    (cI_NoCells:PySem.W.codeIn K cd_NoCells "NoCells.__init__" =true)
    (kC_NoCells:PySem.W.keepIn K (.ref c_NoCells)=true)
    (xL_NoFlip:K.lookup c_NoFlip=some (excClassObj nm_NoFlip qn_NoFlip c_NoFlip N_NoFlip bs_NoFlip (.ref c_CellError:: [.type "ValueError",.type "Exception",.type "BaseException",.type "object"]) true sn_NoFlip sb_NoFlip ab_NoFlip col_NoFlip dd_NoFlip m0_NoFlip m1_NoFlip m2_NoFlip m3_NoFlip m5_NoFlip "ValueError.__new__"))
    (sa_NoFlip:PySem.W.findIn K (.ref c_NoFlip) "__setattr__" =some (some (.builtin "object.__setattr__")))
    (no_NoFlip_0:PySem.W.findIn K (.ref c_NoFlip) "why" =some none)
    (iI_NoFlip:PySem.W.findIn K (.ref c_NoFlip) "__init__" =some (some (.ref fI_NoFlip)))
    (tI_NoFlip:PySem.W.typeIn K (.ref fI_NoFlip)=some (.type "function"))
    (lI_NoFlip:K.lookup fI_NoFlip=some ⟨oc_NoFlip,od_NoFlip,.func (PySem.W.fnOf "__init__" "NoFlip.__init__" (defArgs st_NoFlip) (defBody st_NoFlip) (defScope st_NoFlip) .none kV_NoFlip dc_NoFlip pm_NoFlip an_NoFlip cd_NoFlip ct_NoFlip),sl_NoFlip⟩)
    (cI_NoFlip:PySem.W.codeIn K cd_NoFlip "NoFlip.__init__" =true)
    (kC_NoFlip:PySem.W.keepIn K (.ref c_NoFlip)=true)
    (xL_NoText:K.lookup c_NoText=some (excClassObj nm_NoText qn_NoText c_NoText N_NoText bs_NoText (.ref c_CellError:: [.type "ValueError",.type "Exception",.type "BaseException",.type "object"]) true sn_NoText sb_NoText ab_NoText col_NoText dd_NoText m0_NoText m1_NoText m2_NoText m3_NoText m5_NoText "ValueError.__new__"))
    (sa_NoText:PySem.W.findIn K (.ref c_NoText) "__setattr__" =some (some (.builtin "object.__setattr__")))
    (no_NoText_0:PySem.W.findIn K (.ref c_NoText) "line" =some none)
    (iI_NoText:PySem.W.findIn K (.ref c_NoText) "__init__" =some (some (.ref fI_NoText)))
    (tI_NoText:PySem.W.typeIn K (.ref fI_NoText)=some (.type "function"))
    (lI_NoText:K.lookup fI_NoText=some ⟨oc_NoText,od_NoText,.func (PySem.W.fnOf "__init__" "NoText.__init__" (defArgs st_NoText) (defBody st_NoText) (defScope st_NoText) .none kV_NoText dc_NoText pm_NoText an_NoText cd_NoText ct_NoText),sl_NoText⟩)
    (cI_NoText:PySem.W.codeIn K cd_NoText "NoText.__init__" =true)
    (kC_NoText:PySem.W.keepIn K (.ref c_NoText)=true)
    (cq1:PySem.W.specialIn K (.builtin "object.__class__") "__get__" =some (some (.builtin "getset_descriptor.__get__")))
    (cq2:PySem.W.takesIn K (.builtin "object.__class__")=some true)
    (s_NoSize_CellError:PySem.W.subIn K (.ref c_NoSize) (.ref c_CellError)=some true)
    (s_NoSize_LimitError:PySem.W.subIn K (.ref c_NoSize) (.ref c_LimitError)=some false)
    (s_NoSize_NoCells:PySem.W.subIn K (.ref c_NoSize) (.ref c_NoCells)=some false)
    (s_NoSize_NoFlip:PySem.W.subIn K (.ref c_NoSize) (.ref c_NoFlip)=some false)
    (s_NoSize_NoSize:PySem.W.subIn K (.ref c_NoSize) (.ref c_NoSize)=some true)
    (s_NoSize_NoText:PySem.W.subIn K (.ref c_NoSize) (.ref c_NoText)=some false)
    (s_NoSize_ValueError:PySem.W.subIn K (.ref c_NoSize) (.type "ValueError")=some true)
    (s_NoCells_CellError:PySem.W.subIn K (.ref c_NoCells) (.ref c_CellError)=some true)
    (s_NoCells_LimitError:PySem.W.subIn K (.ref c_NoCells) (.ref c_LimitError)=some false)
    (s_NoCells_NoCells:PySem.W.subIn K (.ref c_NoCells) (.ref c_NoCells)=some true)
    (s_NoCells_NoFlip:PySem.W.subIn K (.ref c_NoCells) (.ref c_NoFlip)=some false)
    (s_NoCells_NoSize:PySem.W.subIn K (.ref c_NoCells) (.ref c_NoSize)=some false)
    (s_NoCells_NoText:PySem.W.subIn K (.ref c_NoCells) (.ref c_NoText)=some false)
    (s_NoCells_ValueError:PySem.W.subIn K (.ref c_NoCells) (.type "ValueError")=some true)
    (s_NoFlip_CellError:PySem.W.subIn K (.ref c_NoFlip) (.ref c_CellError)=some true)
    (s_NoFlip_LimitError:PySem.W.subIn K (.ref c_NoFlip) (.ref c_LimitError)=some false)
    (s_NoFlip_NoCells:PySem.W.subIn K (.ref c_NoFlip) (.ref c_NoCells)=some false)
    (s_NoFlip_NoFlip:PySem.W.subIn K (.ref c_NoFlip) (.ref c_NoFlip)=some true)
    (s_NoFlip_NoSize:PySem.W.subIn K (.ref c_NoFlip) (.ref c_NoSize)=some false)
    (s_NoFlip_NoText:PySem.W.subIn K (.ref c_NoFlip) (.ref c_NoText)=some false)
    (s_NoFlip_ValueError:PySem.W.subIn K (.ref c_NoFlip) (.type "ValueError")=some true)
    (s_NoText_CellError:PySem.W.subIn K (.ref c_NoText) (.ref c_CellError)=some true)
    (s_NoText_LimitError:PySem.W.subIn K (.ref c_NoText) (.ref c_LimitError)=some false)
    (s_NoText_NoCells:PySem.W.subIn K (.ref c_NoText) (.ref c_NoCells)=some false)
    (s_NoText_NoFlip:PySem.W.subIn K (.ref c_NoText) (.ref c_NoFlip)=some false)
    (s_NoText_NoSize:PySem.W.subIn K (.ref c_NoText) (.ref c_NoSize)=some false)
    (s_NoText_NoText:PySem.W.subIn K (.ref c_NoText) (.ref c_NoText)=some true)
    (s_NoText_ValueError:PySem.W.subIn K (.ref c_NoText) (.type "ValueError")=some true)
    (z_ValueError:PySem.W.nsIn K mainGlobals "ValueError" =some none)
    (z_abs:PySem.W.nsIn K mainGlobals "abs" =some none)
    (z_all:PySem.W.nsIn K mainGlobals "all" =some none)
    (z_bool:PySem.W.nsIn K mainGlobals "bool" =some none)
    (z_divmod:PySem.W.nsIn K mainGlobals "divmod" =some none)
    (z_enumerate:PySem.W.nsIn K mainGlobals "enumerate" =some none)
    (z_int:PySem.W.nsIn K mainGlobals "int" =some none)
    (z_isinstance:PySem.W.nsIn K mainGlobals "isinstance" =some none)
    (z_len:PySem.W.nsIn K mainGlobals "len" =some none)
    (z_list:PySem.W.nsIn K mainGlobals "list" =some none)
    (z_max:PySem.W.nsIn K mainGlobals "max" =some none)
    (z_min:PySem.W.nsIn K mainGlobals "min" =some none)
    (z_range:PySem.W.nsIn K mainGlobals "range" =some none)
    (z_sorted:PySem.W.nsIn K mainGlobals "sorted" =some none)
    (z_str:PySem.W.nsIn K mainGlobals "str" =some none)
    (z_sum:PySem.W.nsIn K mainGlobals "sum" =some none)
    (z_tuple:PySem.W.nsIn K mainGlobals "tuple" =some none)
    (z_zip:PySem.W.nsIn K mainGlobals "zip" =some none)
    (v_BEFORE_TOGGLED:PySem.W.nsIn K mainGlobals "BEFORE_TOGGLED" =some (some (.str ">" t_BEFORE_TOGGLED)))
    (v_BETWEEN:PySem.W.nsIn K mainGlobals "BETWEEN" =some (some (.str "," t_BETWEEN)))
    (v_DIGITS:PySem.W.nsIn K mainGlobals "DIGITS" =some (some (.str "0123456789" t_DIGITS)))
    (v_MOST_CELLS:PySem.W.nsIn K mainGlobals "MOST_CELLS" =some (some (.int 40 t_MOST_CELLS)))
    (v_NO_CELLS:PySem.W.nsIn K mainGlobals "NO_CELLS" =some (some (.str "-" t_NO_CELLS)))
    : ∃fd:FuncData,(∀(s:Shared) (v:Value),BindsTo s fd ⟨[v],[]⟩ [("_law_script",v)])∧ ∀base:Heap,K.In base→base.Ns mainGlobals mg→FnG l.prog w K mg base 10 fa fd ["_law_script"] (sp_top K):=by
  obtain rfl:f_38=fa:=by
    have e:=hfa.symm.trans (PySem.W.mg_of X G a_law)
    cases e
    rfl
  let T:Tx K mg ⟨c_CellError,c_LimitError,c_NoSize,c_NoCells,c_NoFlip,c_NoText,c_Board,c_Flip,da_Board____init_0⟩:=
    { a__law_pot:=f_0
      fd__law_pot:=_
      F__law_pot:=fun_mk (st:=st__law_pot) l_law_pot c_law_pot k_law_pot
      g__law_pot:=PySem.W.mg_of X G a_law_pot
      a__law_draw:=f_1
      fd__law_draw:=_
      F__law_draw:=fun_mk (st:=st__law_draw) l_law_draw c_law_draw k_law_draw
      g__law_draw:=PySem.W.mg_of X G a_law_draw
      a__law_width:=f_2
      fd__law_width:=_
      F__law_width:=fun_mk (st:=st__law_width) l_law_width c_law_width k_law_width
      g__law_width:=PySem.W.mg_of X G a_law_width
      a__law_spots:=f_3
      fd__law_spots:=_
      F__law_spots:=fun_mk (st:=st__law_spots) l_law_spots c_law_spots k_law_spots
      g__law_spots:=PySem.W.mg_of X G a_law_spots
      a__law_pair:=f_4
      fd__law_pair:=_
      F__law_pair:=fun_mk (st:=st__law_pair) l_law_pair c_law_pair k_law_pair
      g__law_pair:=PySem.W.mg_of X G a_law_pair
      a__law_bits_text:=f_5
      fd__law_bits_text:=_
      F__law_bits_text:=fun_mk (st:=st__law_bits_text) l_law_bits_text c_law_bits_text k_law_bits_text
      g__law_bits_text:=PySem.W.mg_of X G a_law_bits_text
      a__law_bits:=f_6
      fd__law_bits:=_
      F__law_bits:=fun_mk (st:=st__law_bits) l_law_bits c_law_bits k_law_bits
      g__law_bits:=PySem.W.mg_of X G a_law_bits
      a__law_text_of:=f_7
      fd__law_text_of:=_
      F__law_text_of:=fun_mk (st:=st__law_text_of) l_law_text_of c_law_text_of k_law_text_of
      g__law_text_of:=PySem.W.mg_of X G a_law_text_of
      a__law_pair_text:=f_8
      fd__law_pair_text:=_
      F__law_pair_text:=fun_mk (st:=st__law_pair_text) l_law_pair_text c_law_pair_text k_law_pair_text
      g__law_pair_text:=PySem.W.mg_of X G a_law_pair_text
      a__law_bent:=f_9
      fd__law_bent:=_
      F__law_bent:=fun_mk (st:=st__law_bent) l_law_bent c_law_bent k_law_bent
      g__law_bent:=PySem.W.mg_of X G a_law_bent
      a_is_integer_in:=f_10
      fd_is_integer_in:=_
      F_is_integer_in:=fun_mk (st:=st_is_integer_in) l_is_integer_in c_is_integer_in k_is_integer_in
      g_is_integer_in:=PySem.W.mg_of X G a_is_integer_in
      a_is_cell:=f_11
      fd_is_cell:=_
      F_is_cell:=fun_mk (st:=st_is_cell) l_is_cell c_is_cell k_is_cell
      g_is_cell:=PySem.W.mg_of X G a_is_cell
      D_is_cell:=funD_of (st:=st_is_cell) l_is_cell c_is_cell k_is_cell (by simpa using ⟨_,kw_is_cell_0,_,rfl⟩)
      a_cell_tuple:=f_12
      fd_cell_tuple:=_
      F_cell_tuple:=fun_mk (st:=st_cell_tuple) l_cell_tuple c_cell_tuple k_cell_tuple
      g_cell_tuple:=PySem.W.mg_of X G a_cell_tuple
      D_cell_tuple:=funD_of (st:=st_cell_tuple) l_cell_tuple c_cell_tuple k_cell_tuple (by simpa using ⟨_,kw_cell_tuple_0,_,rfl⟩)
      a_cells_text:=f_13
      fd_cells_text:=_
      F_cells_text:=fun_mk (st:=st_cells_text) l_cells_text c_cells_text k_cells_text
      g_cells_text:=PySem.W.mg_of X G a_cells_text
      a_number_in:=f_14
      fd_number_in:=_
      F_number_in:=funP_mk (st:=st_number_in) l_number_in c_number_in k_number_in
      g_number_in:=PySem.W.mg_of X G a_number_in
      D_number_in:=funD_ofP (st:=st_number_in) (by simp) l_number_in c_number_in k_number_in kp_number_in (.cons ⟨_,rfl⟩ .nil)
      a_cells_written:=f_15
      fd_cells_written:=_
      F_cells_written:=fun_mk (st:=st_cells_written) l_cells_written c_cells_written k_cells_written
      g_cells_written:=PySem.W.mg_of X G a_cells_written
      a_read_cells:=f_16
      fd_read_cells:=_
      F_read_cells:=fun_mk (st:=st_read_cells) l_read_cells c_read_cells k_read_cells
      g_read_cells:=PySem.W.mg_of X G a_read_cells
      a_cells_in:=f_17
      fd_cells_in:=_
      F_cells_in:=fun_mk (st:=st_cells_in) l_cells_in c_cells_in k_cells_in
      g_cells_in:=PySem.W.mg_of X G a_cells_in
      a_mask_text:=f_18
      fd_mask_text:=_
      F_mask_text:=fun_mk (st:=st_mask_text) l_mask_text c_mask_text k_mask_text
      g_mask_text:=PySem.W.mg_of X G a_mask_text
      a_Flip____str__:=f_19
      fd_Flip____str__:=_
      F_Flip____str__:=fun_mk (st:=st_Flip____str__) l_Flip____str c_Flip____str k_Flip____str
      m_Flip____str__:=⟨a_Flip____str,i_Flip____str,k_Flip____str⟩
      a_flip_text:=f_20
      fd_flip_text:=_
      F_flip_text:=fun_mk (st:=st_flip_text) l_flip_text c_flip_text k_flip_text
      g_flip_text:=PySem.W.mg_of X G a_flip_text
      a_mask_of:=f_21
      fd_mask_of:=_
      F_mask_of:=fun_mk (st:=st_mask_of) l_mask_of c_mask_of k_mask_of
      g_mask_of:=PySem.W.mg_of X G a_mask_of
      a_cell_mask:=f_22
      fd_cell_mask:=_
      F_cell_mask:=fun_mk (st:=st_cell_mask) l_cell_mask c_cell_mask k_cell_mask
      g_cell_mask:=PySem.W.mg_of X G a_cell_mask
      a_is_odd:=f_23
      fd_is_odd:=_
      F_is_odd:=fun_mk (st:=st_is_odd) l_is_odd c_is_odd k_is_odd
      g_is_odd:=PySem.W.mg_of X G a_is_odd
      a_Flip____init__:=f_24
      fd_Flip____init__:=_
      F_Flip____init__:=fun_mk (st:=st_Flip____init__) l_Flip____init c_Flip____init k_Flip____init
      mk_Flip:=⟨mk_Flip,a_Flip____init,i_Flip____init,kC_Flip⟩
      a_read_flip:=f_25
      fd_read_flip:=_
      F_read_flip:=fun_mk (st:=st_read_flip) l_read_flip c_read_flip k_read_flip
      g_read_flip:=PySem.W.mg_of X G a_read_flip
      a_Board____str__:=f_26
      fd_Board____str__:=_
      F_Board____str__:=fun_mk (st:=st_Board____str__) l_Board____str c_Board____str k_Board____str
      m_Board____str__:=⟨a_Board____str,i_Board____str,k_Board____str⟩
      a_board_text:=f_27
      fd_board_text:=_
      F_board_text:=fun_mk (st:=st_board_text) l_board_text c_board_text k_board_text
      g_board_text:=PySem.W.mg_of X G a_board_text
      a_require_size:=f_28
      fd_require_size:=_
      F_require_size:=fun_mk (st:=st_require_size) l_require_size c_require_size k_require_size
      g_require_size:=PySem.W.mg_of X G a_require_size
      a_Board____init__:=f_29
      fd_Board____init__:=_
      F_Board____init__:=fun_mk (st:=st_Board____init__) l_Board____init c_Board____init k_Board____init
      mk_Board:=⟨mk_Board,a_Board____init,i_Board____init,kC_Board⟩
      dt_Board____init___up:= .inr ⟨_,#[],_,kt_Board____init_0,rfl,rfl,Nat.zero_le _,.nil⟩
      D_Board____init__:=funD_of (st:=st_Board____init__) l_Board____init c_Board____init k_Board____init (by simpa using ⟨_,kw_Board____init_0,rfl⟩)
      a_read_board:=f_30
      fd_read_board:=_
      F_read_board:=fun_mk (st:=st_read_board) l_read_board c_read_board k_read_board
      g_read_board:=PySem.W.mg_of X G a_read_board
      a__law_read:=f_31
      fd__law_read:=_
      F__law_read:=fun_mk (st:=st__law_read) l_law_read c_law_read k_law_read
      g__law_read:=PySem.W.mg_of X G a_law_read
      a__law_told:=f_32
      fd__law_told:=_
      F__law_told:=fun_mk (st:=st__law_told) l_law_told c_law_told k_law_told
      g__law_told:=PySem.W.mg_of X G a_law_told
      a__law_is_board:=f_33
      fd__law_is_board:=_
      F__law_is_board:=fun_mk (st:=st__law_is_board) l_law_is_board c_law_is_board k_law_is_board
      g__law_is_board:=PySem.W.mg_of X G a_law_is_board
      a__law_are_cells:=f_34
      fd__law_are_cells:=_
      F__law_are_cells:=fun_mk (st:=st__law_are_cells) l_law_are_cells c_law_are_cells k_law_are_cells
      g__law_are_cells:=PySem.W.mg_of X G a_law_are_cells
      a__law_own_spots:=f_35
      fd__law_own_spots:=_
      F__law_own_spots:=fun_mk (st:=st__law_own_spots) l_law_own_spots c_law_own_spots k_law_own_spots
      g__law_own_spots:=PySem.W.mg_of X G a_law_own_spots
      a__law_is_flip:=f_36
      fd__law_is_flip:=_
      F__law_is_flip:=fun_mk (st:=st__law_is_flip) l_law_is_flip c_law_is_flip k_law_is_flip
      g__law_is_flip:=PySem.W.mg_of X G a_law_is_flip
      a__law_due:=f_37
      fd__law_due:=_
      F__law_due:=fun_mk (st:=st__law_due) l_law_due c_law_due k_law_due
      g__law_due:=PySem.W.mg_of X G a_law_due
      a_law:=f_38
      fd_law:=_
      F_law:=fun_mk (st:=st_law) l_law c_law k_law
      g_law:=PySem.W.mg_of X G a_law
      gc_Board:=PySem.W.mg_of X G aC_Board
      cls_Board:=⟨pg_Board,hd_Board,po_Board,sa_Board⟩
      ty_Board:=⟨ca_Board,ob_Board⟩
      no_Board_own_size:=no_Board_own_size
      no_Board_up_mask:=no_Board_up_mask
      gc_Flip:=PySem.W.mg_of X G aC_Flip
      cls_Flip:=⟨pg_Flip,hd_Flip,po_Flip,sa_Flip⟩
      ty_Flip:=⟨ca_Flip,ob_Flip⟩
      no_Flip_test_mask:=no_Flip_test_mask
      no_Flip_toggle_mask:=no_Flip_toggle_mask
      q_CellError:=⟨ga_CellError,gg_CellError,eC_CellError,hd_CellError,ic_CellError,tC_CellError,ca_CellError,ob_CellError,me_CellError⟩
      q_LimitError:=⟨ga_LimitError,gg_LimitError,eC_LimitError,hd_LimitError,ic_LimitError,tC_LimitError,ca_LimitError,ob_LimitError,me_LimitError⟩
      q_NoSize:=⟨ga_NoSize,gg_NoSize,eC_NoSize,hd_NoSize,ic_NoSize,tC_NoSize,ca_NoSize,ob_NoSize,me_NoSize⟩
      q_NoCells:=⟨ga_NoCells,gg_NoCells,eC_NoCells,hd_NoCells,ic_NoCells,tC_NoCells,ca_NoCells,ob_NoCells,me_NoCells⟩
      q_NoFlip:=⟨ga_NoFlip,gg_NoFlip,eC_NoFlip,hd_NoFlip,ic_NoFlip,tC_NoFlip,ca_NoFlip,ob_NoFlip,me_NoFlip⟩
      q_NoText:=⟨ga_NoText,gg_NoText,eC_NoText,hd_NoText,ic_NoText,tC_NoText,ca_NoText,ob_NoText,me_NoText⟩
      g_CellError:=PySem.W.mg_of X G aC_CellError
      g_LimitError:=PySem.W.mg_of X G aC_LimitError
      f_NoSize:=fI_NoSize
      e_NoSize:= { bb:=eb_value,gC:=PySem.W.mg_of X G aC_NoSize,gD:=PySem.W.mg_of X G aC_CellError,cls:=⟨_,_,_,_,_,_,_,_,_,_,_,_,_,_,xL_NoSize⟩,sa:=sa_NoSize,noF:=by intro y hy;rcases (by simpa using hy:y= "value") with rfl <;> first | exact no_NoSize_0,iC:=iI_NoSize,tI:=tI_NoSize,kC:=kC_NoSize,eC:=eC_NoSize,tC:=tC_NoSize,rD:=rD_CellError,gaD:=gD_CellError,iD:=iD_CellError,fn:=⟨"NoSize.__init__",_,_,_,_,_,_,_,_,_,lI_NoSize,cI_NoSize,d_NoSize⟩ }
      f_NoCells:=fI_NoCells
      e_NoCells:= { bb:=eb_value,gC:=PySem.W.mg_of X G aC_NoCells,gD:=PySem.W.mg_of X G aC_CellError,cls:=⟨_,_,_,_,_,_,_,_,_,_,_,_,_,_,xL_NoCells⟩,sa:=sa_NoCells,noF:=by intro y hy;rcases (by simpa using hy:y= "cells") with rfl <;> first | exact no_NoCells_0,iC:=iI_NoCells,tI:=tI_NoCells,kC:=kC_NoCells,eC:=eC_NoCells,tC:=tC_NoCells,rD:=rD_CellError,gaD:=gD_CellError,iD:=iD_CellError,fn:=⟨"NoCells.__init__",_,_,_,_,_,_,_,_,_,lI_NoCells,cI_NoCells,d_NoCells⟩ }
      f_NoFlip:=fI_NoFlip
      e_NoFlip:= { bb:=eb_value,gC:=PySem.W.mg_of X G aC_NoFlip,gD:=PySem.W.mg_of X G aC_CellError,cls:=⟨_,_,_,_,_,_,_,_,_,_,_,_,_,_,xL_NoFlip⟩,sa:=sa_NoFlip,noF:=by intro y hy;rcases (by simpa using hy:y= "why") with rfl <;> first | exact no_NoFlip_0,iC:=iI_NoFlip,tI:=tI_NoFlip,kC:=kC_NoFlip,eC:=eC_NoFlip,tC:=tC_NoFlip,rD:=rD_CellError,gaD:=gD_CellError,iD:=iD_CellError,fn:=⟨"NoFlip.__init__",_,_,_,_,_,_,_,_,_,lI_NoFlip,cI_NoFlip,d_NoFlip⟩ }
      f_NoText:=fI_NoText
      e_NoText:= { bb:=eb_value,gC:=PySem.W.mg_of X G aC_NoText,gD:=PySem.W.mg_of X G aC_CellError,cls:=⟨_,_,_,_,_,_,_,_,_,_,_,_,_,_,xL_NoText⟩,sa:=sa_NoText,noF:=by intro y hy;rcases (by simpa using hy:y= "line") with rfl <;> first | exact no_NoText_0,iC:=iI_NoText,tI:=tI_NoText,kC:=kC_NoText,eC:=eC_NoText,tC:=tC_NoText,rD:=rD_CellError,gaD:=gD_CellError,iD:=iD_CellError,fn:=⟨"NoText.__init__",_,_,_,_,_,_,_,_,_,lI_NoText,cI_NoText,d_NoText⟩ }
      cq:=⟨cq1,cq2⟩
      s_NoSize_CellError:=s_NoSize_CellError
      s_NoSize_LimitError:=s_NoSize_LimitError
      s_NoSize_NoCells:=s_NoSize_NoCells
      s_NoSize_NoFlip:=s_NoSize_NoFlip
      s_NoSize_NoSize:=s_NoSize_NoSize
      s_NoSize_NoText:=s_NoSize_NoText
      s_NoSize_ValueError:=s_NoSize_ValueError
      s_NoCells_CellError:=s_NoCells_CellError
      s_NoCells_LimitError:=s_NoCells_LimitError
      s_NoCells_NoCells:=s_NoCells_NoCells
      s_NoCells_NoFlip:=s_NoCells_NoFlip
      s_NoCells_NoSize:=s_NoCells_NoSize
      s_NoCells_NoText:=s_NoCells_NoText
      s_NoCells_ValueError:=s_NoCells_ValueError
      s_NoFlip_CellError:=s_NoFlip_CellError
      s_NoFlip_LimitError:=s_NoFlip_LimitError
      s_NoFlip_NoCells:=s_NoFlip_NoCells
      s_NoFlip_NoFlip:=s_NoFlip_NoFlip
      s_NoFlip_NoSize:=s_NoFlip_NoSize
      s_NoFlip_NoText:=s_NoFlip_NoText
      s_NoFlip_ValueError:=s_NoFlip_ValueError
      s_NoText_CellError:=s_NoText_CellError
      s_NoText_LimitError:=s_NoText_LimitError
      s_NoText_NoCells:=s_NoText_NoCells
      s_NoText_NoFlip:=s_NoText_NoFlip
      s_NoText_NoSize:=s_NoText_NoSize
      s_NoText_NoText:=s_NoText_NoText
      s_NoText_ValueError:=s_NoText_ValueError
      z_ValueError:=PySem.W.mg_none_of X G z_ValueError
      z_abs:=PySem.W.mg_none_of X G z_abs
      z_all:=PySem.W.mg_none_of X G z_all
      z_bool:=PySem.W.mg_none_of X G z_bool
      z_divmod:=PySem.W.mg_none_of X G z_divmod
      z_enumerate:=PySem.W.mg_none_of X G z_enumerate
      z_int:=PySem.W.mg_none_of X G z_int
      z_isinstance:=PySem.W.mg_none_of X G z_isinstance
      z_len:=PySem.W.mg_none_of X G z_len
      z_list:=PySem.W.mg_none_of X G z_list
      z_max:=PySem.W.mg_none_of X G z_max
      z_min:=PySem.W.mg_none_of X G z_min
      z_range:=PySem.W.mg_none_of X G z_range
      z_sorted:=PySem.W.mg_none_of X G z_sorted
      z_str:=PySem.W.mg_none_of X G z_str
      z_sum:=PySem.W.mg_none_of X G z_sum
      z_tuple:=PySem.W.mg_none_of X G z_tuple
      z_zip:=PySem.W.mg_none_of X G z_zip
      t_BEFORE_TOGGLED:=t_BEFORE_TOGGLED
      c_BEFORE_TOGGLED:=PySem.W.mg_of X G v_BEFORE_TOGGLED
      t_BETWEEN:=t_BETWEEN
      c_BETWEEN:=PySem.W.mg_of X G v_BETWEEN
      t_DIGITS:=t_DIGITS
      c_DIGITS:=PySem.W.mg_of X G v_DIGITS
      t_MOST_CELLS:=t_MOST_CELLS
      c_MOST_CELLS:=PySem.W.mg_of X G v_MOST_CELLS
      t_NO_CELLS:=t_NO_CELLS
      c_NO_CELLS:=PySem.W.mg_of X G v_NO_CELLS }
  exact⟨T.fd_law,fun s v=> .of_eq rfl,fun base _ _=>(ok_law T).imp fun vs H Q E q=>law_in q (fun ns hn=>law_holds T ns hn)⟩
end PX
open PySem PySem.W PyProof.Rows
set_option maxRecDepth 100000 in
set_option maxHeartbeats 0 in
theorem PySem.Challenge.cw_paritycells_k92_whole_texts_spoilt_holds : PySem.Challenge.rw_paritycells_k92_whole_texts_spoilt.Holds := by
  refine PX.hd_law fun said => ?_
  refine PySem.W.holds_open (q := PX.vwO PX.pO) (loose := PX.loO) (Xt := PX.xtO PX.rrO PX.pO) (XP := XL (PX.vwO PX.pO) PX.lvO) (Yf := Hook.obs (kHook PX.KK PX.KA PX.kA)) (Ya := Hook.val (kHook PX.KK PX.KA PX.kA)) (YP := Hook.says (kHook PX.KK PX.KA PX.kA)) PX.hd_left (Hook.of (kHook PX.KK PX.KA PX.kA)) (Hook.keeps (kHook PX.KK PX.KA PX.kA)) (fun s e => xl_of s (Bool.and_eq_true_iff.mp e).1) XL.keeps (by rfl) (by rfl) (by rfl) (fun s e => recFacts_of (Bool.and_eq_true_iff.mp e).2) (by rfl) said (by decide +kernel) ⟨rfl, rfl, rfl, rfl, rfl, by decide +kernel⟩ ?hw ?hc
  (case hw => w_witness2)
  k_fill
  refine PC.walkG (l := PySem.Challenge.rw_paritycells_k92_whole_texts_spoilt) (n := 63) (k := 10) (x := "_law_script") (sp := fun w => TL.sp_top _) rfl (by decide) rfl ⟨rfl, by decide, by decide⟩ (fun w h Y => PySem.W.kIn_of Y) ?K1 (by first | rfl | decide +kernel) ?F (fun _ _ a ns hl hb h1 hS => ⟨a, ns, rfl, h1, hS, hl, fun _ => rfl⟩)
  case K1 => intro w; first | rfl | k_is | decide +kernel
  case F =>
    intro w mg fa h KX G hmg
    refine' PX.all_mk KX G hmg ?_ ?_ ?_ ?_ ?_ ?_ ?_ ?_ ?_ ?_ ?_ ?_ ?_ ?_ ?_ ?_ ?_ ?_ ?_ ?_ ?_ ?_ ?_ ?_ ?_ ?_ ?_ ?_ ?_ ?_ ?_ ?_ ?_ ?_ ?_ ?_ ?_ ?_ ?_ ?_ ?_ ?_ ?_ ?_ ?_ ?_ ?_ ?_ ?_ ?_ ?_ ?_ ?_ ?_ ?_ ?_ ?_ ?_ ?_ ?_ ?_ ?_ ?_ ?_ ?_ ?_ ?_ ?_ ?_ ?_ ?_ ?_ ?_ ?_ ?_ ?_ ?_ ?_ ?_ ?_ ?_ ?_ ?_ ?_ ?_ ?_ ?_ ?_ ?_ ?_ ?_ ?_ ?_ ?_ ?_ ?_ ?_ ?_ ?_ ?_ ?_ ?_ ?_ ?_ ?_ ?_ ?_ ?_ ?_ ?_ ?_ ?_ ?_ ?_ ?_ ?_ ?_ ?_ ?_ ?_ ?_ ?_ ?_ ?_ ?_ ?_ ?_ ?_ ?_ ?_ ?_ ?_ ?_ ?_ ?_ ?_ ?_ ?_ ?_ ?_ ?_ ?_ ?_ ?_ ?_ ?_ ?_ ?_ ?_ ?_ ?_ ?_ ?_ ?_ ?_ ?_ ?_ ?_ ?_ ?_ ?_ ?_ ?_ ?_ ?_ ?_ ?_ ?_ ?_ ?_ ?_ ?_ ?_ ?_ ?_ ?_ ?_ ?_ ?_ ?_ ?_ ?_ ?_ ?_ ?_ ?_ ?_ ?_ ?_ ?_ ?_ ?_ ?_ ?_ ?_ ?_ ?_ ?_ ?_ ?_ ?_ ?_ ?_ ?_ ?_ ?_ ?_ ?_ ?_ ?_ ?_ ?_ ?_ ?_ ?_ ?_ ?_ ?_ ?_ ?_ ?_ ?_ ?_ ?_ ?_ ?_ ?_ ?_ ?_ ?_ ?_ ?_ ?_ ?_ ?_ ?_ ?_ ?_ ?_ ?_ ?_ ?_ ?_ ?_ ?_ ?_ ?_ ?_ ?_ ?_ ?_ ?_ ?_ ?_ ?_ ?_ ?_ ?_ ?_ ?_ ?_ ?_ ?_ ?_ ?_ ?_ ?_ ?_ ?_ ?_ ?_ ?_ ?_ ?_ ?_ ?_ ?_ ?_ ?_ ?_ ?_ ?_ ?_ ?_ ?_ ?_ ?_ ?_ ?_ ?_ ?_ ?_ ?_ ?_ ?_ ?_ ?_ ?_ ?_ ?_ ?_ ?_ ?_ ?_ ?_ ?_ ?_ ?_ ?_ ?_ ?_ ?_ ?_ ?_ ?_ ?_ ?_ ?_ ?_ ?_ ?_ ?_ ?_ ?_ ?_ ?_ ?_ ?_ ?_ ?_ ?_ ?_ ?_ ?_ ?_ ?_ ?_ ?_
    all_goals try k_is
