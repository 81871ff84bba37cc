import PyProof.Rows.All
import Wide.All
import OpenK.AllK
import Wide.FinOn
import HandS.ForMost
import HandS.ForExc
import HandS.IsInst
import HandS.EndBits
import HandS.Wide
import HandS.Walk
import KE.KIsAll
import KE.KTryMore
import KE.KExcIs
import KE.KExcInit
import HandS.Exc
import HandS.ExcField
import HandS.ExcOwn
import HandS.CallSlots
import HandS.Defaults
import HandS.MakeKwOnly
import HandS.SortInts
import HandS.Zip
import HandS.Conv
import HandS.More
import KE.KCallOwn
import KE.KFmtOwn
import HandS.WideBits
import KE.IntBitsLaws
import KE.BitLaws
import HandS.FStr
import HandS.TryMany
import PyProof.InstNe
import PyProof.Rows.InDataRows
import HandS.EndTab
import HandS.Style
import HandS.OwnEq
import HandS.WordsDict
import PyProof.NeKinds
import KE.KDictZip
import HandS.NoneIn
import HandS.Comp
import PyProof.EqKinds
import PyProof.FactsAll.dict_1
import KE.KNest
import KE.DataCmp
import KE.SortData
import KE.SortLaws
import HandS.TupLen
import KE.GoesMore
import KE.KIntText
import HandS.RaiseFrom
import PySem.Challenge.RW_paritycells_k29_table_values
set_option Elab.async false
set_option linter.all false
set_option maxRecDepth 100000
set_option maxHeartbeats 2000000
namespace PC
open PySem PySem.Spec PyProof.Rows L2

def GOkA (K:PySem.W.Frag) (A:Around) (base:Heap):Prop:=
  ∃gs,A.guards=some gs∧ ∀id v rest kw,Code.builtin id ⟨v::rest,kw⟩∈gs→ ∃g o,v= .ref g∧base.get? g=some o∧K.lookup g=none
abbrev GOk (X:Cx):Prop:=GOkA X.K X.A X.base
theorem GOkA.nil {K:PySem.W.Frag} {A:Around} {base:Heap} (h:A.guards=some []):GOkA K A base:=⟨[],h,fun _ _ _ _ m=>nomatch m⟩
structure FnG (P:Program) (w:World) (K:PySem.W.Frag) (mg:Str→Option Value) (base:Heap)
    (k:Nat) (f:Addr) (fd:FuncData) (ps:List Str) (sp:Sp):Prop where
  len: ∀vs H Q E,sp vs H Q E→vs.length=ps.length
  run: ∀(A:Around) (outer:List Env) (s:Shared) (H:Hp) (args:Args)
      (us:List Value) (vs:List V) (Q:VK) (E:XK),
    GOkA K A base→Room k A→Env0 P w K mg base A outer s H→
    BindsTo s fd args (ps.zip us)→Vals vs us→sp vs H Q E→
    codeAny (model P w) A (.call (.ref f) args) (CR (L2.CX P w) outer P w H s Q E) s

section
variable {P : Program} {w : World} {K : PySem.W.Frag} {mg : Str → Option Value} {base : Heap}

theorem FnG.mono {j k:Nat} {f:Addr} {fd:FuncData} {ps:List Str} {sp:Sp}
    (F:FnG P w K mg base j f fd ps sp) (h:j≤k):FnG P w K mg base k f fd ps sp:=
  ⟨F.len,fun A o s H a us vs Q E g r=>F.run A o s H a us vs Q E g (r.mono h)⟩
theorem FnG.imp {k:Nat} {f:Addr} {fd:FuncData} {ps:List Str} {sp sp':Sp}
    (F:FnG P w K mg base k f fd ps sp) (h: ∀vs H Q E,sp' vs H Q E→sp vs H Q E):FnG P w K mg base k f fd ps sp':=
  ⟨fun vs H Q E q=>F.len vs H Q E (h _ _ _ _ q),
    fun A o s H a us vs Q E g r e0 b rv q=>F.run A o s H a us vs Q E g r e0 b rv (h _ _ _ _ q)⟩

abbrev cxg (P:Program) (w:World) (K:PySem.W.Frag) (mg:Str→Option Value) (base:Heap) (N:List Str) (qual:Str)
    (st:Stmt) (f:Addr) (cdv:Value) (A:Around) (outer:List Env) (s:Shared) (H:Hp) (E:XK):Cx:=
  cxOf (L2.CX P w) P w K mg base N qual (defScope st) f cdv A outer s H E

theorem FnG.okX {x qual:Str} {st:Stmt} {f:Addr} {fd:FuncData} {N ps:List Str} {k:Nat} {sp:Sp}
    (F:Fun K x qual st f fd) (S:FnScope N ps (defScope st))
    (len: ∀vs H Q E,sp vs H Q E→vs.length=ps.length)
    (body: ∀(cdv:Value) (A:Around) (outer:List Env) (s:Shared) (H:Hp) (vs:List V) (Q:VK) (E:XK),
      GOkA K A base→Room k (A.deeper (envOfC qual (defScope st) s.heap.objs.size f cdv))→sp vs H Q E→
      ∃t,PSs (cxg P w K mg base N qual st f cdv A outer s H E) (defBody st) t∧
        t { nx:=fun _ H'=>Q .non H',rt:=Q } (start N vs) H):
    FnG P w K mg base (k+1) f fd ps sp:=by
  obtain⟨oc,od,kV,doc,pm,an,cdv,ct,osl,rfl,lk,hcd⟩:=F.ex
  refine⟨len,fun A outer s H args us vs Q E hg hr e0 hb rv hsp=> ?_⟩
  have bk: ∀b o,base.get? b=some o→s.heap.get? b=some o:=fun b o e=>(e0.bs b o e).1
  have cells: ∀y∈ps.zip us,(defScope st).names.lookup y.1=some .local∨
      ((defScope st).names.lookup y.1=some .cell∧
        ((cellsFrom (s.heap.objs.size+1) (defScope st).names []).lookup y.1).isSome=true):=by
    rintro ⟨n,v⟩ hy
    rcases S.par n (List.of_mem_zip hy).1 with z | z
    · exact .inl z
    · exact .inr ⟨z,PySem.W.cellsFrom_some _ _ _ (.inl z)⟩
  refine codeAny_call_function hr.depth ((e0.mod.kin.keeps bk) _ _ lk) rfl S.co S.gen rfl
    (PySem.W.codeRec_of (e0.mod.kin.keeps bk) hcd) (hb _ _ _ _ ?_)
  refine wpAny_newFunctionEnv_cells S.kind cells fun env he s1 x=> ?_
  subst he
  refine⟨(e0.mod.nolimit.keeps bk).keeps x.toInCall.keep,codeAny_func ?_⟩
  obtain⟨t,ht,hq⟩:=body cdv A outer s H vs Q E hg (hr.deeper _) hsp
  refine wpAny_mono (ht.run [] s1 (start N vs) H _
    (inv_start S hr.hd e0 (len _ _ _ _ hsp) rv x) hq) (fun fl s' hs=> ?_) fun e s' hs=>hs
  cases fl with
  | ret u=>
    obtain⟨v,_,H',J,r,q⟩:=hs
    exact⟨v,H',J.os,J.bare,J.base,J.hok,r,q⟩
  | next=>
    obtain⟨_,H',J,q⟩:=hs
    exact⟨V.non,H',J.os,J.bare,J.base,J.hok,rfl,q⟩
  | brk=>obtain⟨_,_,_,q⟩:=hs;exact q.elim
  | cont=>obtain⟨_,_,_,q⟩:=hs;exact q.elim

theorem FnG.ok {x qual:Str} {st:Stmt} {f:Addr} {fd:FuncData} {N ps:List Str} {k:Nat} {sp:Sp}
    (F:Fun K x qual st f fd) (S:FnScope N ps (defScope st))
    (len: ∀vs H Q E,sp vs H Q E→vs.length=ps.length)
    (body: ∀(cdv:Value) (A:Around) (outer:List Env) (s:Shared) (H:Hp) (vs:List V) (Q:VK) (E:XK),
      GOkA K A base→Room k (A.deeper (envOfC qual (defScope st) s.heap.objs.size f cdv))→sp vs H Q E→
      ∃t,PSs (cxg P w K mg base N qual st f cdv A outer s H E).nox (defBody st) t∧
        t { nx:=fun _ H'=>Q .non H',rt:=Q } (start N vs) H):
    FnG P w K mg base (k+1) f fd ps sp:=
  FnG.okX F S len fun cdv A outer s H vs Q E g r h=>
    let ⟨t,ht,q⟩:=body cdv A outer s H vs Q E g r h
    ⟨t,ht.nox,q⟩
end

theorem passN {X:Cx}:Passes (L2.CX X.prog X.w) X E0:=by
  rintro pins σ H s e s' I ⟨a,B,H',cls,d,h1,h2,h3,h4,h5,h6,h7,h8⟩
  exact h8.elim

section
variable {X : Cx} {k : Nat} {f : Addr} {fd : FuncData} {ps ks : List Str} {sp : Sp} {dvs : List V} {ds : List Value} {E : XK}
theorem FnG.at (F:FnG X.prog X.w X.K X.mg X.base k f fd ps sp) (hg:GOk X) (hr:Room k X.A)
    (hb:Binds X.K fd ps ds) (hd:Vals dvs ds) (hx:Passes (L2.CX X.prog X.w) X E):
    CallR X (.ref f) (fun vs H Q=>sp (vs++dvs) H Q E):=by
  intro pins s σ H vs us Q I rv h
  have r2:Vals (vs++dvs) (us++ds):=rv.append hd
  have hl:(us++ds).length=ps.length:=by rw[← r2.length];exact F.len _ _ _ _ h
  refine wpAny_call (codeAny_mono (F.run X.A X.stack s H ⟨us,[]⟩ (us++ds) (vs++dvs) Q E hg hr I.env0
    (hb s us I.kIn hl) r2 h) fun r s' hq=> ?_)
  match r,hq with
  | .error e,hq=>exact hx pins σ H s e s' I hq
  | .ok (.ret u),hq=>exact I.after hq
  | .ok .next,hq=>exact hq.elim
  | .ok .brk,hq=>exact hq.elim
  | .ok .cont,hq=>exact hq.elim

def CallKR (X:Cx) (f:Value) (ks:List Str) (r:List V→List V→Hp→VK→Prop):Prop:=
  ∀(pins:List (Addr×Obj)) (s:Shared) (σ:L2.St) (H:Hp) (xs zs:List V) (us ws:List Value) (Q:VK),
    Inv X pins σ H s→Vals xs us→Vals zs ws→r xs zs H Q→
    wpAny (model X.prog X.w) X.A (call f us (ks.zip ws)) (EP X pins σ Q) X.xe s
variable {x : Str} {p pos : Pos} {e : Expr} {es : List Expr} {kws : List Keyword} {t tk : TA}
    {r : List V → Hp → VK → Prop} {rk : List V → List V → Hp → VK → Prop}
def tCK (r:List V→List V→Hp→VK→Prop) (t tk:TA):TE:=
  fun σ H Q=>t σ H fun vs H1=>tk σ H1 fun zs H2=>r vs zs H2 Q
end

structure ShowsG (prog:Program) (w:World) (h₀:Heap) (a:Addr) (d:PyData) (T idr:String):Prop where
  slot:SlotG T "__repr__" idr
  ty: ∀s:Shared,(∀b o,h₀.get? b=some o→s.heap.get? b=some o)→s.TypeIs (.ref a) T
  run: ∀(A:Around) (gs:List Code) (E:Value→Shared→Prop) (s:Shared) (Q:Value→Shared→Prop),A.guards=some gs→(∀b o,h₀.get? b=some o→Clear gs b)→A.units+d.depth<cLine→
    (∀b o,h₀.get? b=some o→s.heap.get? b=some o)→
    (∀h' u tk,(∀b o,s.heap.get? b=some o→h'.get? b=some o)→Q (.str d.shown u) { s with heap:=h',toks:=tk })→wpAny (model prog w) A (call (.builtin idr) [.ref a]) Q E s
theorem atMost_there {h₀:Heap} {n:Nat} {bs:List Addr} (h:ReadAtMost h₀ n bs) {b:Addr} (m:b∈bs): ∃o,h₀.get? b=some o:=by
  obtain⟨d,as,r,_⟩:=h b m
  cases r with
  | list e=>exact⟨_,e⟩
  | tuple e=>exact⟨_,e⟩
  | dict e=>exact⟨_,e⟩
section
variable {prog : Program} {w : World} {h₀ : Heap} {a : Addr} {d : PyData} {as : List Addr}
theorem showsG_of (r:Reads h₀ (.ref a) d as) (hs:d.showable=true) (ns:sysModules ∉ as) (hz:d.shown.length≤sizeLine): ∃T idr,ShowsG prog w h₀ a d T idr:=by
  have clr: ∀ {gs:List Code} {o:Obj} {bs:List Addr} {n:Nat},(∀b o,h₀.get? b=some o→Clear gs b)→h₀.get? a=some o→ReadAtMost h₀ n bs→ ∀b∈a::bs,Clear gs b:=fun hc ho hb b m=>by
    rcases List.mem_cons.mp m with e | m
    · exact hc b _ (e ▸ ho)
    · obtain⟨o',e⟩:=atMost_there hb m
      exact hc b o' e
  cases r with
  | @list _ o vs n xs bs₀ e1 e2 e3 e4=>
    have hz':(listText (PyData.shownAll xs)).length≤sizeLine:=by simpa only[PyData.shown] using hz
    obtain⟨bs,hb,hk⟩:=ReprAllK.of_readsAll (prog:=prog) (w:=w) e4 (by simpa [PyData.showable] using hs) (fun _ hm=>ns (List.mem_cons_of_mem _ hm)) (fun t ht=>Nat.le_trans (listText_mem_le ht) hz')
    have out:a ∉ bs:=not_mem_of_deeper (.list e1 e2 e3 e4) (by simp only[PyData.depth];omega) hb
    refine⟨"list","list.__repr__",F.slot_list_repr.toG,fun s k=>⟨o,k _ _ e1,e2⟩,fun A gs E s Q hg hc hu k hQ=> ?_⟩
    simp only[PyData.depth] at hu
    simp only[PyData.shown] at hQ
    obtain⟨l⟩:=vs
    match l,e3,e4,hk with
    | [],e3,e4,hk=>
      have z:ReadsAll h₀ [] xs _:=e4
      cases z
      simp only[PyData.shownAll,listText_nil] at hQ
      exact call_list_repr_empty ⟨o,k _ _ e1,e2⟩ (k _ _ e1) e3 (hQ s.heap _ _ fun _ _ e=>e)
    | x::l,e3,e4,hk=>
      exact call_list_reprK e1 e2 e3 out (by simpa using hk.length_eq) (fun i y e=>hk.item i y (by simpa using e)) hg (clr hc e1 hb) hu k hQ hz'
  | @tuple _ o vs n xs as e1 e2 e3 e4=>
    have hz':(tupleText (PyData.shownAll xs)).length≤sizeLine:=by simpa only[PyData.shown] using hz
    obtain⟨bs,hb,hk⟩:=ReprAllK.of_readsAll (prog:=prog) (w:=w) e4 (by simpa [PyData.showable] using hs) (fun _=>ns) (fun t ht=>Nat.le_trans (tupleText_mem_le ht) hz')
    have out:a ∉ bs:=not_mem_of_deeper (.tuple e1 e2 e3 e4) (by simp only[PyData.depth];omega) hb
    refine⟨"tuple","tuple.__repr__",F.slot_tuple_repr,fun s k=>⟨o,k _ _ e1,e2⟩,fun A gs E s Q hg hc hu k hQ=> ?_⟩
    simp only[PyData.depth] at hu
    simp only[PyData.shown] at hQ
    exact call_tuple_reprK e1 e2 e3 out hk hg (clr hc e1 hb) hu k hQ hz'
  | @dict _ o es n kvs as₁ bs₁ e1 e2 e3 e4 e5=>
    have hz':(dictText (PyData.shownKv kvs)).length≤sizeLine:=by simpa only[PyData.shown] using hz
    obtain⟨hs1,hs2⟩:=PyData.showableKv_split kvs (by simpa [PyData.showable] using hs)
    obtain⟨b1,hb1,k1⟩:=ReprAllK.of_readsAll (prog:=prog) (w:=w) e4 hs1 (fun _ hm=>ns (List.mem_cons_of_mem _ (List.mem_append_left _ hm))) (fun t ht=>let ⟨p,hp,hl⟩:=PyData.shownKv_key_le kvs t ht;Nat.le_trans hl (Nat.le_trans (dictText_mem_le hp) hz'))
    obtain⟨b2,hb2,k2⟩:=ReprAllK.of_readsAll (prog:=prog) (w:=w) e5 hs2 (fun _ hm=>ns (List.mem_cons_of_mem _ (List.mem_append_right _ hm))) (fun t ht=>let ⟨p,hp,hl⟩:=PyData.shownKv_val_le kvs t ht;Nat.le_trans hl (Nat.le_trans (dictText_mem_le hp) hz'))
    have hb:ReadAtMost h₀ (PyData.depthKv kvs) (b1++b2):=(hb1.mono (PyData.depthAll_keys_le kvs)).append (hb2.mono (PyData.depthAll_vals_le kvs))
    have out:a ∉ b1++b2:=not_mem_of_deeper (.dict e1 e2 e3 e4 e5) (by simp only[PyData.depth];omega) hb
    have hsys:(a == sysModules)=false:=beq_eq_false_iff_ne.mpr fun e=>ns (e ▸ List.mem_cons_self ..)
    refine⟨"dict","dict.__repr__",F.slot_dict_repr,fun s k=>⟨o,k _ _ e1,e2⟩,fun A gs E s Q hg hc hu k hQ=> ?_⟩
    simp only[PyData.depth] at hu
    simp only[PyData.shown,PyData.shownKv_eq] at hQ
    have pairs:=ReprEntriesK.of_two es.toList _ _ (k1.more_le (fun b hb=>List.mem_append_left b2 hb) (PyData.depthAll_keys_le kvs)) (k2.more_le (fun b hb=>List.mem_append_right b1 hb) (PyData.depthAll_vals_le kvs))
    exact call_dict_reprK e1 e2 e3 hsys out pairs hg (clr hc e1 hb) hu k hQ (by rw[← PyData.shownKv_eq];exact hz')
end
section
variable {X : Cx}
theorem gok_clear {pins:List (Addr×Obj)} {σ:L2.St} {H:Hp} {s:Shared} (I:Inv X pins σ H s) {gs:List Code} (hg: ∀id v rest kw,Code.builtin id ⟨v::rest,kw⟩∈gs→ ∃g o,v= .ref g∧X.base.get? g=some o∧X.K.lookup g=none)
    {b:Addr} (hb:H b=none→X.K.lookup b=none→False):Clear gs b:=fun id v rest kw m z=>by
  obtain⟨g,o,e1,e2,e3⟩:=hg id v rest kw m
  rw[z] at e1
  cases e1
  exact hb (I.bs _ _ e2).2 e3
theorem repr_ref (hg:GOk X) {pins:List (Addr×Obj)} {σ:L2.St} {H:Hp} {s:Shared} {h₀:Heap} {a:Addr} {d:PyData} {as:List Addr} {Q:VK}
    (I:Inv X pins σ H s) (k: ∀b o,h₀.get? b=some o→s.heap.get? b=some o) (nk: ∀b,H b=none→X.K.lookup b=none→h₀.get? b=none) (r:Reads h₀ (.ref a) d as) (hs:d.showable=true) (ns:sysModules ∉ as)
    (hu:X.A.units+(d.depth+1)<cLine) (hz:d.shown.length≤sizeLine) (q:Q (.str d.shown) H):
    wpAny (model X.prog X.w) X.A (call (.builtin "repr") [.ref a]) (EP X pins σ Q) X.xe s:=by
  obtain⟨T,idr,S⟩:=showsG_of (prog:=X.prog) (w:=X.w) r hs ns hz
  obtain⟨gs,hg,hgs⟩:=hg
  refine call_repr_slot (by omega) (S.ty s k) S.slot (S.run X.A.in1 gs X.xe s _ hg (fun b o e=>gok_clear I hgs fun h1 h2=>by rw[nk b h1 h2] at e;cases e) (by show X.A.units+1+d.depth<cLine;omega) k fun h' u tk kp=>⟨_,_,rfl,?_⟩)
  exact⟨.str d.shown,H,I.kept kp,⟨u,rfl⟩,q⟩
theorem reprObj_ref (hg:GOk X) {pins:List (Addr×Obj)} {σ:L2.St} {H:Hp} {s:Shared} {h₀:Heap} {a:Addr} {d:PyData} {as:List Addr} {Q:Value→Shared→Prop} {E:Value→Shared→Prop}
    (I:Inv X pins σ H s) (k: ∀b o,h₀.get? b=some o→s.heap.get? b=some o) (nk: ∀b,H b=none→X.K.lookup b=none→h₀.get? b=none) (r:Reads h₀ (.ref a) d as) (hs:d.showable=true) (ns:sysModules ∉ as)
    (hu:X.A.units+d.depth<cLine) (hz:d.shown.length≤sizeLine) (q: ∀h' u tk,(∀b o,s.heap.get? b=some o→h'.get? b=some o)→Q (.str d.shown u) { s with heap:=h',toks:=tk }):
    wpAny (model X.prog X.w) X.A (pyReprObj (.ref a)) Q E s:=by
  obtain⟨T,idr,S⟩:=showsG_of (prog:=X.prog) (w:=X.w) r hs ns hz
  obtain⟨gs,hg,hgs⟩:=hg
  exact wpAny_pyReprObj_slot (by omega) (S.ty s k) S.slot (S.run X.A gs E s _ hg (fun b o e=>gok_clear I hgs fun h1 h2=>by rw[nk b h1 h2] at e;cases e) hu k fun h' u tk kp=>⟨_,_,rfl,q h' u tk kp⟩)
end

def One (H:Hp):Prop:= ∃o a,H sysModules=some (.frz o (.own a))
section
variable {P : Program} {w : World} {K : PySem.W.Frag} {mg mb : Str → Option Value} {k : Nat} {fa a : Addr} {fd : FuncData}
  {x : Str} {sp : Sp} {s₁ : Shared} {vs : List Value} {ns : List Int}
structure Root (K:PySem.W.Frag) (P:Program) (w:World) (a:Addr) (ns:List Int) (s₁:Shared) (H:Hp):Prop where
  only: ∀b,H b=none∨ ∃o u,H b=some (.frz o u)
  list:SqL K H a (ns.map V.int)
  hok:HOk P w H s₁.heap
  two: ∀b,H b≠none→b=sysModules∨(b=a∧K.lookup a=none)
  one:One H
theorem root_of (KX:K.In s₁.heap) (k1:K.lookup sysModules=none) (ha1:a≠sysModules) (hs: ∃o,s₁.heap.get? sysModules=some o)
    (ha:s₁.heap.get? a=some { cls:= .type "list",data:= .seq vs.toArray })
    (hi:IntsAre vs ns) (hl:ns.length≤sizeLine): ∃H,Root K P w a ns s₁ H:=by
  have rv:=vals_ints hi
  have lv:=hi.length
  obtain⟨o1,e1⟩:=hs
  cases hk:K.lookup a with
  | some o=>
    have e:=(KX a o hk).symm.trans ha
    cases e
    refine⟨fun b=>if b=sysModules then some (.frz o1 (.own 0)) else none,?_,
      .inr ⟨_,vs.toArray,_,hk,rfl,rfl,rfl,by rw[List.size_toArray,lv];exact hl,by simpa using rv⟩,?_,?_,⟨o1,0,if_pos rfl⟩⟩
    · intro b
      by_cases hb:b=sysModules
      · exact .inr ⟨o1,_,if_pos hb⟩
      · exact .inl (if_neg hb)
    · intro b u z
      by_cases hb:b=sysModules
      · have z':=(if_pos hb).symm.trans z
        cases z'
        subst hb
        exact⟨e1,⟨o1,e1⟩⟩
      · have z':=(if_neg hb).symm.trans z
        cases z'
    · intro b z
      by_cases hb:b=sysModules
      · exact .inl hb
      · exact absurd (if_neg hb) z
  | none=>
    let so:Obj:= { cls:= .type "list",data:= .seq vs.toArray }
    refine⟨fun b=>if b=sysModules then some (.frz o1 (.own 0)) else if b=a then some (.frz so (.lst (ns.map V.int))) else none,
      ?_,.inl (.inr ⟨so,(if_neg ha1).trans (if_pos rfl)⟩),?_,?_,⟨o1,0,if_pos rfl⟩⟩
    · intro b
      by_cases hb:b=sysModules
      · exact .inr ⟨o1,_,if_pos hb⟩
      · by_cases hb2:b=a
        · exact .inr ⟨so,_,(if_neg hb).trans (if_pos hb2)⟩
        · exact .inl ((if_neg hb).trans (if_neg hb2))
    · intro b u z
      by_cases hb:b=sysModules
      · have z':=(if_pos hb).symm.trans z
        cases z'
        subst hb
        exact⟨e1,⟨o1,e1⟩⟩
      · by_cases hb2:b=a
        · have z':=((if_neg hb).trans (if_pos hb2)).symm.trans z
          cases z'
          subst hb2
          exact⟨ha,by rw[List.length_map];exact hl,vs,_,rv,ha⟩
        · have z':=((if_neg hb).trans (if_neg hb2)).symm.trans z
          cases z'
    · intro b z
      by_cases hb:b=sysModules
      · exact .inl hb
      · by_cases hb2:b=a
        · exact .inr ⟨hb2,hk⟩
        · exact absurd ((if_neg hb).trans (if_neg hb2)) z
theorem lawG (KX:K.In s₁.heap) (k1:K.lookup sysModules=none) (ha1:a≠sysModules) (hs: ∃o,s₁.heap.get? sysModules=some o)
    (hns:s₁.heap.Ns mainGlobals mg) (hb:s₁.heap.Ns builtinsNs mb)
    (hbb: ∀x:Str,x≠ "__name__" →mb x=bootBuiltins x) (hlim:s₁.heap.NoLimit) (hg:s₁.gens= #[])
    (ha:s₁.heap.get? a=some { cls:= .type "list",data:= .seq vs.toArray }) (hi:IntsAre vs ns)
    (hl:ns.length≤sizeLine) (hr:Room k callerA)
    (F: ∀base:Heap,K.In base→base.Ns mainGlobals mg→FnG P w K mg base k fa fd [x] sp)
    (hbind: ∀(s:Shared) (u:Value),BindsTo s fd ⟨[u],[]⟩ [(x,u)])
    (hsp: ∀H:Hp,One H→SqL K H a (ns.map V.int)→sp [.ref a] H (fun v _=>v= .bl true) E0):
    codeAny (model P w) callerA (.call (.ref fa) ⟨[.ref a],[]⟩)
      (fun r s'=>r= .ok (.ret (.bool true))∧OldK s₁.heap s'.heap∧s'.os=s₁.os∧AllBare s'.gens) s₁:=by
  obtain⟨H,R⟩:=root_of (P:=P) (w:=w) KX k1 ha1 hs ha hi hl
  have gone: ∀ {b:Addr} {o:Obj},s₁.heap.get? b=some o→b≠sysModules→
      (b=a→K.lookup a=some o∨ ∃es ep,o.data= .dict es ep)→H b=none:=by
    intro b o e hs h
    cases q:H b with
    | none=>rfl
    | some u=>
      rcases R.two b (by rw[q];simp) with z | ⟨eb,kn⟩
      · exact absurd z hs
      rcases h eb with z | ⟨es,ep,z⟩
      · rw[kn] at z
        cases z
      · subst eb
        rw[ha] at e
        cases e
        cases z
  have nsK: ∀ {b:Addr} {m:Str→Option Value},b≠sysModules→s₁.heap.Ns b m→(hidT s₁.heap H).Ns b m:=by
    rintro b m hs ⟨o,es,ep,e,d,r⟩
    exact⟨o,es,ep,hidT_get e (gone e hs fun _=> .inr ⟨es,ep,d⟩),d,r⟩
  have kb:K.In (hidT s₁.heap H):=fun b o e=>
    hidT_get (KX b o e) (gone (KX b o e) (fun z=>by rw[z,k1] at e;cases e) fun q=> .inl (q ▸ e))
  obtain⟨mc,l1,l2⟩:=hlim
  have M:Mod K mg (hidT s₁.heap H):=
    ⟨kb,nsK (by decide) hns,⟨mb,nsK (by decide) hb,hbb⟩,⟨mc,nsK (by decide) l1,l2⟩⟩
  have nofr: ∀b∈frs ([]:List Env),H b=none:=by
    intro b hb
    cases (show b∈([]:List Addr) from hb)
  have e0:Env0 P w K mg (hidT s₁.heap H) callerA [] s₁ H:=
    ⟨rfl,M,fun b o e=>of_hidT e,Nat.le_of_eq (hidT_size _ _),trivial,nofr,R.hok,.of_eq hg⟩
  refine codeAny_mono ((F _ kb (nsK (by decide) hns)).run callerA [] s₁ H ⟨[.ref a],[]⟩ [.ref a] [.ref a] _ _ (.nil rfl) hr e0
    (hbind s₁ (.ref a)) (.cons rfl .nil) (hsp H R.one R.list)) fun r s' h=> ?_
  match r,h with
  | .error e,h=>
    obtain⟨_,_,_,_,_,_,_,_,_,_,_,_,z⟩:=h
    exact z.elim
  | .ok .next,h=>exact h.elim
  | .ok .brk,h=>exact h.elim
  | .ok .cont,h=>exact h.elim
  | .ok (.ret u),h=>
    obtain⟨v,H',os,bare,un,hok',r',q⟩:=h
    obtain rfl:v= .bl true:=q
    obtain rfl:u=Value.bool true:=r'
    refine⟨rfl,OldK.of_keep fun b o e=> ?_,os,bare⟩
    rcases R.only b with z | ⟨ob,xs,z⟩
    · exact un.keep b o e z (fun hb=>by cases (show b∈([]:List Addr) from hb)) (by simp)
    · obtain⟨e1,_⟩:=R.hok b _ z
      obtain⟨e2,_⟩:=hok' b _ (un.frzs b ob _ z)
      rw[e] at e1
      cases e1
      exact e2
end
theorem script_at {r:PySem.W.WRecords} {cl:Str→Option Addr} {h:Heap} {a:Addr} {d:List PySem.W.WData} {as:List Addr}
    (x:PySem.W.ReadsAllW r cl h [Value.ref a] [PySem.W.WData.list d] as):a∈as:=by
  cases x with
  | cons r1 r2=>
    cases r1 with
    | list=>exact List.mem_append_left _ List.mem_cons_self
theorem walkG {l:PySem.W.OpenLaw} {n k:Nat} {q:Program} {loose:List Str} {XP:(Str→Option Value)→Heap→Prop}
    {YP:World→Heap→Prop} {d:DefRec} {K:Params→PySem.W.Frag} {sp:World→Sp} {x:Str}
    (hn:l.most=some n) (hn2:n≤sizeLine) (hdf:d.params.defaults= []) (hr:Room k callerA)
    (hY: ∀(w:World) (h:Heap),YP w h→(K w.params).In h)
    (hK: ∀w:World,(K w.params).lookup sysModules=none) (him:importsNone q=true)
    (F: ∀(w:World) (mg:Str→Option Value) (fa:Addr) (h:Heap),(K w.params).In h→h.Ns mainGlobals mg→
      mg d.name=some (.ref fa)→ ∃fd:FuncData,(∀(s:Shared) (u:Value),BindsTo s fd ⟨[u],[]⟩ [(x,u)])∧
        ∀base:Heap,(K w.params).In base→base.Ns mainGlobals mg→FnG l.prog w (K w.params) mg base k fa fd [x] (sp w))
    (hsp: ∀(w:World) (H:Hp) (a:Addr) (ns:List Int),ns.length≤n→(∀z∈ns,Builtin.Int.intBits z≤1048576)→
      One H→SqL (K w.params) H a (ns.map V.int)→sp w [.ref a] H (fun v _=>v= .bl true) E0):
    PySem.W.WalkO q loose XP YP l.row.toRowW d [] (fun f vs=>PySem.call f vs):=by
  intro w s₀ s₁ mg mb G Y fa o pm cd doc dV kV ho hd hcd hD hmg hg args vals as hpre hlay hrd hwl hlo
  obtain rfl:dV= .none:=PySem.W.Dflts.none hD hdf
  obtain rfl:kV= .none:=PySem.W.Dflts.noKw hD
  obtain⟨a,vs,ns,rfl,rfl,hobj,hints,hlen⟩:=Att.script_of hn hpre hwl
  obtain⟨fd,hb,hF⟩:=F w mg fa _ (hY w _ Y) G.T.g hmg
  have key:=lawG (hY w _ Y) (hK w) (fun z=>by have:=hlo a (script_at hrd);rw[z] at this;cases this)
    (let ⟨_,⟨o,_,_,e,_⟩,_⟩:=(G.T.seer him).mods;⟨o,e⟩) G.T.g G.T.b G.T.builtins G.T.nolimit hg hobj hints
    (Nat.le_trans hlen hn2) hr hF hb fun H h1 hS=>hsp w H a ns hlen (Att.script_bits hlay) h1 hS
  refine PySem.W.enter_call (codeAny_mono key fun r s' hq=> ?_)
  obtain⟨rfl,h2,h3,h4⟩:=hq
  exact⟨.inl ⟨.bool true,.bool true,[],rfl,fun _=>rfl,.bool true,Att.post_true l _,
    fun _=>⟨List.Pairwise.nil,fun _ hm=>(nomatch hm)⟩⟩,h2,h3,h4⟩
end PC

set_option Elab.async false
set_option linter.all false
set_option maxRecDepth 100000
set_option maxHeartbeats 2000000
namespace PC
open PySem PySem.Spec PyProof.Rows L2

def Pot (p:Addr) (H:Hp):Prop:= ∃a b:Int,H p=some (.lst [.int a,.int b])∧0≤a∧0≤b∧b<2147483647
structure R (p:Addr) (H H':Hp):Prop where
  keep: ∀b o,b≠p→H b=some o→H' b=some o
  frz: ∀b o u,H b=some (.frz o u)→H' b=some (.frz o u)
  occ:H p≠none→H' p≠none
  pot:Pot p H→Pot p H'
  stay: ∀b o,(∀xs,o≠ .lst xs)→(∀kvs,o≠ .dK kvs)→H b=some o→H' b=some o
theorem R.refl (p:Addr) (H:Hp):R p H H:=⟨fun _ _ _ h=>h,fun _ _ _ h=>h,fun h=>h,fun h=>h,fun _ _ _ _ h=>h⟩
theorem R.trans {p:Addr} {H H1 H2:Hp} (a:R p H H1) (b:R p H1 H2):R p H H2:=
  ⟨fun c o n h=>b.keep c o n (a.keep c o n h),fun c o u h=>b.frz c o u (a.frz c o u h),fun h=>b.occ (a.occ h),fun h=>b.pot (a.pot h),
   fun c o n m h=>b.stay c o n m (a.stay c o n m h)⟩
theorem R.of_same {p:Addr} {H H':Hp} (h:Same H H'):R p H H':=
  ⟨fun b o _ e=>h b o e,fun b o u e=>h b _ e,fun z w=>z (h.free w),fun⟨a,b,e,r⟩=>⟨a,b,h _ _ e,r⟩,fun b o _ _ e=>h b o e⟩
theorem same_new {n:Addr} {H:Hp} {o:HO} (h:H n=none):Same H (upd H n o):=fun b u e=>by
  rw[upd_ne (ne_of_none e h)];exact e
theorem R.new {p n:Addr} {H:Hp} {o:HO} (h:H n=none):R p H (upd H n o):= .of_same (same_new h)
theorem R.draw {p:Addr} {H:Hp} {a b:Int} {l:List V} (h:H p=some (.lst l)) (ho: ∀x u,(HO.lst l)≠ .frz x u) (ha:0≤a) (hb:0≤b) (hb2:b<2147483647):
    R p H (upd H p (.lst [.int a,.int b])):=by
  have far: ∀c u,(∀xs,u≠ .lst xs)→H c=some u→upd H p (.lst [.int a,.int b]) c=some u:=fun c u n e=>by
    by_cases z:c=p
    · subst z
      rw[h] at e
      exact absurd (Option.some.inj e).symm (n l)
    · rw[upd_ne z]
      exact e
  exact⟨fun c u n e=>(by rw[upd_ne n];exact e),fun c x u e=>far c _ (fun xs z=>nomatch z) e,
    fun _=>(by rw[upd_same];exact fun w=>nomatch w),fun _=>⟨a,b,upd_same,ha,hb,hb2⟩,fun c u n _=>far c u n⟩
theorem R.over {p D:Addr} {H H':Hp} {o:HO} (r:R p H H') (hD:H D=none) (hp:D≠p):R p H (upd H' D o):=
  ⟨fun b u n e=>by rw[upd_ne (ne_of_none e hD)];exact r.keep b u n e,fun b x u e=>by rw[upd_ne (ne_of_none e hD)];exact r.frz b x u e,
   fun z=>by rw[upd_ne hp.symm];exact r.occ z,fun z=>by
    obtain⟨a,b,e,q⟩:=r.pot z
    exact⟨a,b,by rw[upd_ne hp.symm];exact e,q⟩,fun b u n m e=>by rw[upd_ne (ne_of_none e hD)];exact r.stay b u n m e⟩
theorem R.one {p:Addr} {H H':Hp} (r:R p H H') (h:One H):One H':=by
  obtain⟨o,u,e⟩:=h
  exact⟨o,u,r.frz _ _ _ e⟩
theorem R.free {p a:Addr} {H H':Hp} (r:R p H H') (n:a≠p) (h:H' a=none):H a=none:=by
  cases e:H a with
  | none=>rfl
  | some o=>rw[r.keep a o n e] at h;cases h
def keyD:Key→PyData
  | .inl i=> .int i
  | .inr x=> .str x
mutual
/-- v shows the data d; none of its own objects stands at a place of Z -/
def Dat (K:PySem.W.Frag) (Z:List Addr) (H:Hp):PyData→V→Prop
  | .none,v=>v= .non
  | .bool b,v=>v= .bl b
  | .int i,v=>v= .int i
  | .str x,v=>v= .str x
  | .list ds,v=> ∃a xs,v= .ref a∧a ∉ Z∧Rd H a (.lst xs)∧DatL K Z H ds xs
  | .tuple ds,v=> ∃a xs,v= .ref a∧(a ∉ Z∨SqT K (fun _=>none) a xs)∧SqT K H a xs∧DatL K Z H ds xs
  | .dict kvs,v=> ∃a es,v= .ref a∧a ∉ Z∧H a=some (.dK es)∧DatK K Z H kvs es
def DatL (K:PySem.W.Frag) (Z:List Addr) (H:Hp):List PyData→List V→Prop
  | [],vs=>vs= []
  | d::ds,vs=> ∃v r,vs=v::r∧Dat K Z H d v∧DatL K Z H ds r
def DatK (K:PySem.W.Frag) (Z:List Addr) (H:Hp):List (PyData×PyData)→List (Key×V)→Prop
  | [],es=>es= []
  | (k,d)::r,es=> ∃kk v t,es=(kk,v)::t∧keyD kk=k∧Dat K Z H d v∧DatK K Z H r t
end
section
variable {K : PySem.W.Frag} {p : Addr} {Z Z' : List Addr} {H H' : Hp}
theorem _root_.L2.Rd.up {a:Addr} {u:HO} (r:R p H H') (n:a≠p) (h:Rd H a u):Rd H' a u:=by
  rcases h with h | ⟨o,h⟩
  · exact .inl (r.keep _ _ n h)
  · exact .inr ⟨o,r.frz _ _ _ h⟩
theorem SqL.up {a:Addr} {xs:List V} (r:R p H H') (n:a≠p) (h:SqL K H a xs):SqL K H' a xs:=by
  rcases h with h | h
  · exact .inl (Rd.up r n h)
  · exact .inr h
theorem SqT.up {a:Addr} {xs:List V} (r:R p H H') (hp:p∈Z) (n:a ∉ Z∨SqT K (fun _=>none) a xs) (h:SqT K H a xs):SqT K H' a xs:=by
  rcases h with h | h
  · rcases n with n | n
    · exact .inl (Rd.up r (fun z=>n (z ▸ hp)) h)
    · rcases n with (n | ⟨o,n⟩) | n
      · cases n
      · cases n
      · exact .inr n
  · exact .inr h
mutual
theorem Dat.up (r:R p H H') (hp:p∈Z): ∀(d:PyData) (v:V),Dat K Z H d v→Dat K Z H' d v
  | .none,v,h=>h
  | .bool _,v,h=>h
  | .int _,v,h=>h
  | .str _,v,h=>h
  | .list ds,v,h=>by
    simp only[Dat] at h ⊢
    obtain⟨a,xs,e,n,s,l⟩:=h
    exact⟨a,xs,e,n,s.up r (fun z=>n (z ▸ hp)),DatL.up r hp ds xs l⟩
  | .tuple ds,v,h=>by
    simp only[Dat] at h ⊢
    obtain⟨a,xs,e,n,s,l⟩:=h
    exact⟨a,xs,e,n,SqT.up r hp n s,DatL.up r hp ds xs l⟩
  | .dict kvs,v,h=>by
    simp only[Dat] at h ⊢
    obtain⟨a,es,e,n,s,l⟩:=h
    exact⟨a,es,e,n,r.keep _ _ (fun z=>n (z ▸ hp)) s,DatK.up r hp kvs es l⟩
theorem DatL.up (r:R p H H') (hp:p∈Z): ∀(ds:List PyData) (vs:List V),DatL K Z H ds vs→DatL K Z H' ds vs
  | [],vs,h=>h
  | d::ds,vs,h=>by
    simp only[DatL] at h ⊢
    obtain⟨v,q,e,h1,h2⟩:=h
    exact⟨v,q,e,Dat.up r hp d v h1,DatL.up r hp ds q h2⟩
theorem DatK.up (r:R p H H') (hp:p∈Z): ∀(ds:List (PyData×PyData)) (es:List (Key×V)),DatK K Z H ds es→DatK K Z H' ds es
  | [],vs,h=>h
  | (k,d)::ds,vs,h=>by
    simp only[DatK] at h ⊢
    obtain⟨kk,v,q,e,hk,h1,h2⟩:=h
    exact⟨kk,v,q,e,hk,Dat.up r hp d v h1,DatK.up r hp ds q h2⟩
end
mutual
/-- one place more -/
theorem Dat.more {D:Addr} (hD:H D=none): ∀(d:PyData) (v:V),Dat K Z H d v→Dat K (D::Z) H d v
  | .none,v,h=>h
  | .bool _,v,h=>h
  | .int _,v,h=>h
  | .str _,v,h=>h
  | .list ds,v,h=>by
    simp only[Dat] at h ⊢
    obtain⟨a,xs,e,n,s,l⟩:=h
    refine⟨a,xs,e,fun z=> ?_,s,DatL.more hD ds xs l⟩
    rcases List.mem_cons.mp z with z | z
    · subst z
      rcases s with s | ⟨o,s⟩ <;> (rw[hD] at s;cases s)
    · exact n z
  | .tuple ds,v,h=>by
    simp only[Dat] at h ⊢
    obtain⟨a,xs,e,n,s,l⟩:=h
    refine⟨a,xs,e,?_,s,DatL.more hD ds xs l⟩
    by_cases z:a=D
    · subst z
      rcases s with (s | ⟨o,s⟩) | s
      · rw[hD] at s;cases s
      · rw[hD] at s;cases s
      · exact .inr (.inr s)
    · rcases n with n | n
      · exact .inl fun q=>(List.mem_cons.mp q).elim z n
      · exact .inr n
  | .dict kvs,v,h=>by
    simp only[Dat] at h ⊢
    obtain⟨a,es,e,n,s,l⟩:=h
    refine⟨a,es,e,fun z=> ?_,s,DatK.more hD kvs es l⟩
    rcases List.mem_cons.mp z with z | z
    · subst z
      rw[hD] at s;cases s
    · exact n z
theorem DatL.more {D:Addr} (hD:H D=none): ∀(ds:List PyData) (vs:List V),DatL K Z H ds vs→DatL K (D::Z) H ds vs
  | [],vs,h=>h
  | d::ds,vs,h=>by
    simp only[DatL] at h ⊢
    obtain⟨v,q,e,h1,h2⟩:=h
    exact⟨v,q,e,Dat.more hD d v h1,DatL.more hD ds q h2⟩
theorem DatK.more {D:Addr} (hD:H D=none): ∀(ds:List (PyData×PyData)) (es:List (Key×V)),DatK K Z H ds es→DatK K (D::Z) H ds es
  | [],vs,h=>h
  | (k,d)::ds,vs,h=>by
    simp only[DatK] at h ⊢
    obtain⟨kk,v,q,e,hk,h1,h2⟩:=h
    exact⟨kk,v,q,e,hk,Dat.more hD d v h1,DatK.more hD ds q h2⟩
end
mutual
/-- fewer places -/
theorem Dat.less (hz: ∀a,a∈Z'→a∈Z): ∀(d:PyData) (v:V),Dat K Z H d v→Dat K Z' H d v
  | .none,v,h=>h
  | .bool _,v,h=>h
  | .int _,v,h=>h
  | .str _,v,h=>h
  | .list ds,v,h=>by
    simp only[Dat] at h ⊢
    obtain⟨a,xs,e,n,s,l⟩:=h
    exact⟨a,xs,e,fun z=>n (hz _ z),s,DatL.less hz ds xs l⟩
  | .tuple ds,v,h=>by
    simp only[Dat] at h ⊢
    obtain⟨a,xs,e,n,s,l⟩:=h
    exact⟨a,xs,e,n.imp (fun n z=>n (hz _ z)) id,s,DatL.less hz ds xs l⟩
  | .dict kvs,v,h=>by
    simp only[Dat] at h ⊢
    obtain⟨a,es,e,n,s,l⟩:=h
    exact⟨a,es,e,fun z=>n (hz _ z),s,DatK.less hz kvs es l⟩
theorem DatL.less (hz: ∀a,a∈Z'→a∈Z): ∀(ds:List PyData) (vs:List V),DatL K Z H ds vs→DatL K Z' H ds vs
  | [],vs,h=>h
  | d::ds,vs,h=>by
    simp only[DatL] at h ⊢
    obtain⟨v,q,e,h1,h2⟩:=h
    exact⟨v,q,e,Dat.less hz d v h1,DatL.less hz ds q h2⟩
theorem DatK.less (hz: ∀a,a∈Z'→a∈Z): ∀(ds:List (PyData×PyData)) (es:List (Key×V)),DatK K Z H ds es→DatK K Z' H ds es
  | [],vs,h=>h
  | (k,d)::ds,vs,h=>by
    simp only[DatK] at h ⊢
    obtain⟨kk,v,q,e,hk,h1,h2⟩:=h
    exact⟨kk,v,q,e,hk,Dat.less hz d v h1,DatK.less hz ds q h2⟩
end
mutual
/-- a place that is no data's, changed -/
theorem Dat.put {D:Addr} {o:HO} (hd:D∈Z): ∀(d:PyData) (v:V),Dat K Z H d v→Dat K Z (upd H D o) d v
  | .none,v,h=>h
  | .bool _,v,h=>h
  | .int _,v,h=>h
  | .str _,v,h=>h
  | .list ds,v,h=>by
    simp only[Dat] at h ⊢
    obtain⟨a,xs,e,n,s,l⟩:=h
    have nz:a≠D:=fun z=>n (z ▸ hd)
    refine⟨a,xs,e,n,?_,DatL.put hd ds xs l⟩
    rcases s with s | ⟨u,s⟩
    · exact .inl (by rw[upd_ne nz];exact s)
    · exact .inr ⟨u,by rw[upd_ne nz];exact s⟩
  | .tuple ds,v,h=>by
    simp only[Dat] at h ⊢
    obtain⟨a,xs,e,n,s,l⟩:=h
    refine⟨a,xs,e,n,?_,DatL.put hd ds xs l⟩
    rcases n with n | ((n | ⟨u,n⟩) | n)
    · have nz:a≠D:=fun z=>n (z ▸ hd)
      rcases s with (s | ⟨u,s⟩) | s
      · exact .inl (.inl (by rw[upd_ne nz];exact s))
      · exact .inl (.inr ⟨u,by rw[upd_ne nz];exact s⟩)
      · exact .inr s
    · cases n
    · cases n
    · exact .inr n
  | .dict kvs,v,h=>by
    simp only[Dat] at h ⊢
    obtain⟨a,es,e,n,s,l⟩:=h
    have nz:a≠D:=fun z=>n (z ▸ hd)
    exact⟨a,es,e,n,by rw[upd_ne nz];exact s,DatK.put hd kvs es l⟩
theorem DatL.put {D:Addr} {o:HO} (hd:D∈Z): ∀(ds:List PyData) (vs:List V),DatL K Z H ds vs→DatL K Z (upd H D o) ds vs
  | [],vs,h=>h
  | d::ds,vs,h=>by
    simp only[DatL] at h ⊢
    obtain⟨v,q,e,h1,h2⟩:=h
    exact⟨v,q,e,Dat.put hd d v h1,DatL.put hd ds q h2⟩
theorem DatK.put {D:Addr} {o:HO} (hd:D∈Z): ∀(ds:List (PyData×PyData)) (es:List (Key×V)),DatK K Z H ds es→DatK K Z (upd H D o) ds es
  | [],vs,h=>h
  | (k,d)::ds,vs,h=>by
    simp only[DatK] at h ⊢
    obtain⟨kk,v,q,e,hk,h1,h2⟩:=h
    exact⟨kk,v,q,e,hk,Dat.put hd d v h1,DatK.put hd ds q h2⟩
end
theorem Dat.lst {v:V} {ds:List PyData} (h:Dat K Z H (.list ds) v): ∃a xs,v= .ref a∧a ∉ Z∧Rd H a (.lst xs)∧DatL K Z H ds xs:=by
  simpa only[Dat] using h
theorem Dat.tup {v:V} {ds:List PyData} (h:Dat K Z H (.tuple ds) v): ∃a xs,v= .ref a∧(a ∉ Z∨SqT K (fun _=>none) a xs)∧SqT K H a xs∧DatL K Z H ds xs:=by
  simpa only[Dat] using h
theorem Dat.dct {v:V} {ds:List (PyData×PyData)} (h:Dat K Z H (.dict ds) v): ∃a es,v= .ref a∧a ∉ Z∧H a=some (.dK es)∧DatK K Z H ds es:=by
  simpa only[Dat] using h
theorem DatL.cons_inv {d:PyData} {ds:List PyData} {vs:List V} (h:DatL K Z H (d::ds) vs): ∃v r,vs=v::r∧Dat K Z H d v∧DatL K Z H ds r:=by
  simpa only[DatL] using h
theorem DatL.nil_inv {vs:List V} (h:DatL K Z H [] vs):vs= []:=by simpa only[DatL] using h
theorem datL_nil:DatL K Z H [] []:=by simp only[DatL]
theorem datL_cons {d:PyData} {ds:List PyData} {v:V} {vs:List V} (h:Dat K Z H d v) (l:DatL K Z H ds vs):DatL K Z H (d::ds) (v::vs):=by
  simp only[DatL];exact⟨v,vs,rfl,h,l⟩
theorem DatL.length: ∀ {ds:List PyData} {vs:List V},DatL K Z H ds vs→vs.length=ds.length
  | [],vs,h=>by rw[h.nil_inv];rfl
  | d::ds,vs,h=>by
    obtain⟨v,q,e,h1,h2⟩:=h.cons_inv
    rw[e,List.length_cons,List.length_cons,DatL.length h2]
theorem DatL.get: ∀ {ds:List PyData} {vs:List V} {i:Nat} {d:PyData},DatL K Z H ds vs→ds[i]?=some d→ ∃v,vs[i]?=some v∧Dat K Z H d v
  | [],_,_,_,_,e=>by simp at e
  | d::ds,vs,i,x,h,e=>by
    obtain⟨v,q,rfl,h1,h2⟩:=h.cons_inv
    cases i with
    | zero=>simp at e;subst e;exact⟨v,rfl,h1⟩
    | succ i=>exact DatL.get (i:=i) h2 (by simpa using e)
theorem DatL.append: ∀ {ds es:List PyData} {vs ws:List V},DatL K Z H ds vs→DatL K Z H es ws→DatL K Z H (ds++es) (vs++ws)
  | [],es,vs,ws,h,g=>by
    have e:=h.nil_inv
    subst e;exact g
  | d::ds,es,vs,ws,h,g=>by
    obtain⟨v,q,rfl,h1,h2⟩:=h.cons_inv
    exact datL_cons h1 (DatL.append h2 g)
theorem DatL.drop: ∀ {ds:List PyData} {vs:List V} (n:Nat),DatL K Z H ds vs→DatL K Z H (ds.drop n) (vs.drop n)
  | _,_,0,h=>h
  | [],vs,n+1,h=>by
    have e:=h.nil_inv
    subst e;exact datL_nil
  | d::ds,vs,n+1,h=>by
    obtain⟨v,q,rfl,h1,h2⟩:=h.cons_inv
    exact DatL.drop n h2
theorem DatL.take: ∀ {ds:List PyData} {vs:List V} (n:Nat),DatL K Z H ds vs→DatL K Z H (ds.take n) (vs.take n)
  | _,_,0,h=>by rw[List.take_zero,List.take_zero];exact datL_nil
  | [],vs,n+1,h=>by
    have e:=h.nil_inv
    subst e;exact datL_nil
  | d::ds,vs,n+1,h=>by
    obtain⟨v,q,rfl,h1,h2⟩:=h.cons_inv
    exact datL_cons h1 (DatL.take n h2)
theorem DatL.ints: ∀ {ns:List Int} {vs:List V},DatL K Z H (ns.map .int) vs→vs=ns.map .int
  | [],vs,h=>h.nil_inv
  | n::ns,vs,h=>by
    obtain⟨v,q,rfl,h1,h2⟩:=DatL.cons_inv (d:= .int n) (ds:=ns.map .int) h
    simp only[Dat] at h1
    rw[h1,DatL.ints h2];rfl
theorem DatL.bls: ∀ {ns:List Bool} {vs:List V},DatL K Z H (ns.map .bool) vs→vs=ns.map .bl
  | [],vs,h=>h.nil_inv
  | n::ns,vs,h=>by
    obtain⟨v,q,rfl,h1,h2⟩:=DatL.cons_inv (d:= .bool n) (ds:=ns.map .bool) h
    simp only[Dat] at h1
    rw[h1,DatL.bls h2];rfl
end

section
variable {X : Cx} {pins : List (Addr × Obj)} {σ : L2.St} {H : Hp} {s : Shared} {Z : List Addr}
theorem keyD_reads {k:Key} {u:Value} {h:Heap} (e:keyIs k u=true):Reads h u (keyD k) []:=by
  rcases keyIs_shape e with ⟨i,t,rfl,rfl⟩ | ⟨x,t,rfl,rfl⟩
  · exact .int i t
  · exact .str x t
theorem notSys {a:Addr} {xs:List V} (I:Inv X pins σ H s) (o1:One H) (h:SqL X.K H a xs):a≠sysModules:=by
  obtain⟨o,u,e⟩:=o1
  intro z
  subst z
  rcases h with (h | ⟨o',h⟩) | ⟨o',_,_,h,_⟩
  · rw[e] at h;cases h
  · rw[e] at h;cases h
  · have q:=(I.bs _ _ (I.mod.kin _ _ h)).2
    rw[e] at q;cases q
theorem sqL_tr {a:Addr} {xs:List V} (h:SqL X.K H a xs):H a≠none∨X.K.lookup a≠none:=by
  rcases h with (h | ⟨_,h⟩) | ⟨_,_,_,h,_⟩
  · exact .inl (by rw[h];exact fun z=>nomatch z)
  · exact .inl (by rw[h];exact fun z=>nomatch z)
  · exact .inr (by rw[h];exact fun z=>nomatch z)
theorem sqT_tr {a:Addr} {xs:List V} (h:SqT X.K H a xs):H a≠none∨X.K.lookup a≠none:=by
  rcases h with (h | ⟨_,h⟩) | ⟨_,_,_,h,_⟩
  · exact .inl (by rw[h];exact fun z=>nomatch z)
  · exact .inl (by rw[h];exact fun z=>nomatch z)
  · exact .inr (by rw[h];exact fun z=>nomatch z)
mutual
theorem Dat.readsIn (I:Inv X pins σ H s) (o1:One H) {hp:Heap} (hk: ∀b o,s.heap.get? b=some o→(H b≠none∨X.K.lookup b≠none)→hp.get? b=some o): ∀(d:PyData) (v:V) (u:Value),Dat X.K Z H d v→RelV v u→
    ∃as,Reads hp u d as∧sysModules ∉ as
  | .none,_,_,h,r=>by
    simp only[Dat] at h
    subst h
    cases (show _=Value.none from r)
    exact⟨_,.none,by simp⟩
  | .bool b,_,_,h,r=>by
    simp only[Dat] at h
    subst h
    cases (show _=Value.bool b from r)
    exact⟨_,.bool b,by simp⟩
  | .int i,_,_,h,r=>by
    simp only[Dat] at h
    subst h
    obtain⟨t,rfl⟩:=(show ∃t,_=Value.int i t from r)
    exact⟨_,.int i t,by simp⟩
  | .str x,_,_,h,r=>by
    simp only[Dat] at h
    subst h
    obtain⟨t,rfl⟩:=(show ∃t,_=Value.str x t from r)
    exact⟨_,.str x t,by simp⟩
  | .list ds,_,_,h,r=>by
    obtain⟨a,xs,rfl,n,hs,hl⟩:=h.lst
    cases (show _=Value.ref a from r)
    obtain⟨its,rv,⟨o,k,ho,hc,_,hd⟩,_⟩:=I.list (.inl hs)
    obtain⟨as,hr,ns⟩:=DatL.readsIn I o1 hk ds xs its hl rv
    refine⟨_,.list (hk _ _ ho (sqL_tr (.inl hs))) hc hd hr,fun z=> ?_⟩
    rcases List.mem_cons.mp z with z | z
    · exact notSys I o1 (.inl hs) z.symm
    · exact ns z
  | .tuple ds,_,_,h,r=>by
    obtain⟨a,xs,rfl,n,hs,hl⟩:=h.tup
    cases (show _=Value.ref a from r)
    obtain⟨its,rv,⟨o,ho,hc,k,hd⟩,_⟩:=I.tuple hs
    obtain⟨as,hr,ns⟩:=DatL.readsIn I o1 hk ds xs its hl rv
    exact⟨_,.tuple (hk _ _ ho (sqT_tr hs)) hc hd hr,ns⟩
  | .dict kvs,_,_,h,r=>by
    obtain⟨a,es,rfl,n,hs,hl⟩:=h.dct
    cases (show _=Value.ref a from r)
    obtain⟨_,hsys,vs,rel,o,en,ep,ho,hx,hd,_,hp,_⟩:=(show ObjOk X.prog X.w H s.heap a (.dK es) from I.hok a _ hs)
    obtain⟨as,bs,r1,r2,n1,n2⟩:=DatK.readsIn I o1 hk kvs es vs en.toList hl rel hp
    refine⟨_,.dict (hk _ _ ho (.inl (by rw[hs];exact fun z=>nomatch z))) hx.1 hd r1 r2,fun z=> ?_⟩
    rcases List.mem_append.mp z with z | z
    · rcases List.mem_cons.mp z with z | z
      · rw[← z] at hsys;simp at hsys
      · exact n1 z
    · exact n2 z
theorem DatL.readsIn (I:Inv X pins σ H s) (o1:One H) {hp:Heap} (hk: ∀b o,s.heap.get? b=some o→(H b≠none∨X.K.lookup b≠none)→hp.get? b=some o): ∀(ds:List PyData) (vs:List V) (us:List Value),DatL X.K Z H ds vs→Vals vs us→
    ∃as,ReadsAll hp us ds as∧sysModules ∉ as
  | [],vs,us,h,r=>by
    simp only[DatL] at h
    subst h
    cases r
    exact⟨_,.nil,by simp⟩
  | d::ds,vs,us,h,r=>by
    simp only[DatL] at h
    obtain⟨v,q,rfl,h1,h2⟩:=h
    cases r with
    | cons r1 r2=>
      obtain⟨as,q1,n1⟩:=Dat.readsIn I o1 hk d v _ h1 r1
      obtain⟨bs,q2,n2⟩:=DatL.readsIn I o1 hk ds q _ h2 r2
      exact⟨_,.cons q1 q2,fun z=>(List.mem_append.mp z).elim n1 n2⟩
theorem DatK.readsIn (I:Inv X pins σ H s) (o1:One H) {hp:Heap} (hk: ∀b o,s.heap.get? b=some o→(H b≠none∨X.K.lookup b≠none)→hp.get? b=some o): ∀(ds:List (PyData×PyData)) (es:List (Key×V)) (vs:List (Key×Value)) (en:List DictEntry),
    DatK X.K Z H ds es→KV es vs→Pairs (mixKind X.prog X.w) en vs→
    ∃as bs,ReadsAll hp (en.map (·.key)) (ds.map (·.1)) as∧ReadsAll hp (en.map (·.val)) (ds.map (·.2)) bs∧sysModules ∉ as∧sysModules ∉ bs
  | [],es,vs,en,h,r,pr=>by
    simp only[DatK] at h
    subst h
    cases r
    cases pr
    exact⟨_,_,.nil,.nil,by simp,by simp⟩
  | (k,d)::ds,es,vs,en,h,r,pr=>by
    simp only[DatK] at h
    obtain⟨kk,v,q,rfl,hkk,h1,h2⟩:=h
    cases r with
    | cons r1 r2=>
      obtain⟨e1,e2⟩:=r1
      cases pr with
      | cons p1 p2 p3=>
        obtain⟨as,q1,n1⟩:=Dat.readsIn I o1 hk d v _ h1 e2
        obtain⟨bs,cs,q2,q3,n2,n3⟩:=DatK.readsIn I o1 hk ds q _ _ h2 r2 p3
        have kr:Reads hp _ (keyD _) []:=keyD_reads (h:=hp) p1
        rw[show keyD _=k from (congrArg keyD e1.symm).trans hkk] at kr
        rw[← p2] at q1
        exact⟨_,_,.cons kr q2,.cons q1 q3,fun z=>n2 (by simpa using z),fun z=>(List.mem_append.mp z).elim n1 n3⟩
end
theorem Dat.reads (I:Inv X pins σ H s) (o1:One H) (d:PyData) (v:V) (u:Value) (h:Dat X.K Z H d v) (r:RelV v u): ∃as,Reads s.heap u d as∧sysModules ∉ as:=Dat.readsIn I o1 (fun _ _ e _=>e) d v u h r
theorem ground_of (X:Cx) (H:Hp) (s:Shared): ∃hp:Heap,(∀b o,s.heap.get? b=some o→(H b≠none∨X.K.lookup b≠none)→hp.get? b=some o)∧(∀b o,hp.get? b=some o→s.heap.get? b=some o)∧ ∀b,H b=none→X.K.lookup b=none→hp.get? b=none:=by
  obtain⟨G,g1,g2⟩:=restrict s.heap fun b=>(H b).isSome || (X.K.lookup b).isSome
  refine⟨G,fun b o e t=> ?_,fun b o e=> ?_,fun b h1 h2=>g2 b (by rw[h1,h2];rfl)⟩
  · rw[g1 b (by
      rcases t with t | t
      · cases q:H b with
        | none=>exact absurd q t
        | some x=>rfl
      · cases q:X.K.lookup b with
        | none=>exact absurd q t
        | some x=>simp)]
    exact e
  · cases q:((H b).isSome || (X.K.lookup b).isSome) with
    | false=>rw[g2 b q] at e;cases e
    | true=>rw[← g1 b q];exact e
end

mutual
/-- its texts are made of code points -/
def lay:PyData→Bool
  | .none=>true
  | .bool _=>true
  | .int _=>true
  | .str x=>PyData.strOk x
  | .list xs=>layL xs
  | .tuple xs=>layL xs
  | .dict kvs=>layK kvs
def layL:List PyData→Bool
  | []=>true
  | x::xs=>lay x && layL xs
def layK:List (PyData×PyData)→Bool
  | []=>true
  | (k,v)::xs=>lay k && lay v && layK xs
end
mutual
theorem canLay_of: ∀d:PyData,lay d=true→d.hasDict=false→d.canLay0=true
  | .none,_,_=>rfl
  | .bool _,_,_=>rfl
  | .int _,_,_=>rfl
  | .str x,h,_=>by simpa only[lay,PyData.canLay0] using h
  | .list xs,h,g=>by
    simp only[lay] at h
    simp only[PyData.hasDict] at g
    simp only[PyData.canLay0]
    exact canLayAll_of xs h g
  | .tuple xs,h,g=>by
    simp only[lay] at h
    simp only[PyData.hasDict] at g
    simp only[PyData.canLay0]
    exact canLayAll_of xs h g
  | .dict kvs,_,g=>by simp only[PyData.hasDict] at g;cases g
theorem canLayAll_of: ∀d:List PyData,layL d=true→PyData.hasDictAll d=false→PyData.canLayAll0 d=true
  | [],_,_=>rfl
  | x::xs,h,g=>by
    simp only[layL,Bool.and_eq_true] at h
    simp only[PyData.hasDictAll,Bool.or_eq_false_iff] at g
    simp only[PyData.canLayAll0,canLay_of x h.1 g.1,canLayAll_of xs h.2 g.2,Bool.and_self]
end
structure Tame (d:PyData) (k n:Nat):Prop where
  show_:d.showable=true
  short:d.leavesShort 300=true
  lay:lay d=true
  depth:d.depth≤k
  bulk:d.bulk≤n
structure TameL (d:List PyData) (k n:Nat):Prop where
  show_:PyData.showableAll d=true
  short:PyData.leavesShortAll 300 d=true
  lay:layL d=true
  depth:PyData.depthAll d≤k
  bulk:PyData.bulkAll d≤n
section
variable {k n j m : Nat} {d : PyData} {ds : List PyData}
theorem Tame.mono (h:Tame d k n) (a:k≤j) (l:n≤m):Tame d j m:=⟨h.1,h.2,h.3,Nat.le_trans h.4 a,Nat.le_trans h.5 l⟩
theorem TameL.mono (h:TameL ds k n) (a:k≤j) (l:n≤m):TameL ds j m:=⟨h.1,h.2,h.3,Nat.le_trans h.4 a,Nat.le_trans h.5 l⟩
theorem Tame.len (h:Tame d k n) (hn:n≤50000):d.shown.length≤sizeLine:=by
  have:=PyData.shown_le_bulk 300 (by decide) d h.short
  have:=h.bulk
  rw[sizeLine_eq]
  omega
theorem tame_bool {b:Bool}:Tame (.bool b) 1 0:=⟨rfl,rfl,rfl,by simp[PyData.depth],by simp[PyData.bulk]⟩
theorem log2_small {i:Int} {k:Nat} (hk:0<k) (h:i.natAbs<2 ^ k):i.natAbs.log2<k:=by
  by_cases z:i.natAbs=0
  · rw[z];simpa using hk
  · exact (Nat.log2_lt z).mpr h
theorem tame_int {i:Int} (h:i.natAbs<2 ^ 250):Tame (.int i) 1 0:=by
  have hl:=log2_small (by decide) h
  refine⟨?_,?_,rfl,by simp[PyData.depth],by simp[PyData.bulk]⟩
  · simp only[PyData.showable,decide_eq_true_eq]
    omega
  · simp only[PyData.leavesShort,decide_eq_true_eq,PyData.shown]
    have e:=int_text_length_le (a:=i) (k:=250) (by decide) hl
    have e2:=PySem.ofString_length (toString i)
    exact decide_eq_true (by omega)
theorem tame_str {x:Str} (h:x.length≤n) (hc:PyData.strOk x=true):Tame (.str x) 1 n:=by
  refine⟨rfl,?_,by simpa only[lay] using hc,by simp[PyData.depth],by simpa only[PyData.bulk] using (show x.cps.size≤n from h)⟩
  simp only[PyData.leavesShort,List.all_eq_true,decide_eq_true_eq]
  intro c hm
  have z:c<1114112:=by
    unfold PyData.strOk at hc
    rw[← Array.all_toList,List.all_eq_true] at hc
    exact of_decide_eq_true (hc c hm)
  exact Nat.lt_trans z (by decide)
theorem tameL_nil:TameL [] 0 0:=⟨rfl,rfl,rfl,by simp[PyData.depthAll],by simp[PyData.bulkAll]⟩
theorem tameL_cons (h:Tame d k m) (l:TameL ds k n):TameL (d::ds) k (m+n+1):=by
  refine⟨?_,?_,?_,?_,?_⟩
  · simp only[PyData.showableAll,h.1,l.1,Bool.and_self]
  · simp only[PyData.leavesShortAll,h.2,l.2,Bool.and_self]
  · simp only[layL,h.3,l.3,Bool.and_self]
  · have:=h.4;have:=l.4
    simp only[PyData.depthAll]
    omega
  · have:=h.5;have:=l.5
    simp only[PyData.bulkAll]
    omega
theorem tame_lst (l:TameL ds k n):Tame (.list ds) (k+1) n:=by
  have:=l.4;have:=l.5
  refine⟨by simpa only[PyData.showable] using l.1,by simpa only[PyData.leavesShort] using l.2,by simpa only[PC.lay] using l.3,?_,?_⟩
  · simp only[PyData.depth];omega
  · simp only[PyData.bulk];omega
theorem tame_tup (l:TameL ds k n):Tame (.tuple ds) (k+1) n:=by
  have:=l.4;have:=l.5
  refine⟨by simpa only[PyData.showable] using l.1,by simpa only[PyData.leavesShort] using l.2,by simpa only[PC.lay] using l.3,?_,?_⟩
  · simp only[PyData.depth];omega
  · simp only[PyData.bulk];omega
theorem TameL.get (l:TameL ds k n) (h:d∈ds):Tame d k n:=by
  obtain⟨a,b,f,c,e⟩:=l
  induction ds with
  | nil=>cases h
  | cons x r ih=>
    simp only[PyData.showableAll,PyData.leavesShortAll,layL,Bool.and_eq_true] at a b f
    simp only[PyData.depthAll,PyData.bulkAll] at c e
    rcases List.mem_cons.mp h with z | z
    · subst z
      exact⟨a.1,b.1,f.1,by omega,by omega⟩
    · exact ih z a.2 b.2 f.2 (by omega) (by omega)
theorem Tame.shaped (t:Tame d k n) (hk:k≤64) (h:d.hasDict=false):SeqAt.shaped d=true:=by
  have:=t.depth
  unfold SeqAt.shaped
  rw[canLay_of d t.lay h,decide_eq_true (by omega)]
  rfl
theorem tameL_of: ∀ {ds:List PyData},(∀d∈ds,Tame d k m)→TameL ds k (ds.length * (m+1))
  | [],h=>tameL_nil.mono (by omega) (by omega)
  | d::ds,h=>by
    have z:=tameL_cons (h d (List.mem_cons_self ..)) (tameL_of fun x hx=>h x (List.mem_cons_of_mem _ hx))
    refine z.mono (Nat.le_refl _) ?_
    rw[List.length_cons,Nat.add_mul,Nat.one_mul]
    omega
end

section
variable {X : Cx}
def rRepr (K:PySem.W.Frag):List V→Hp→VK→Prop:=fun xs H Q=>
  ∃Z v d,xs= [v]∧One H∧Dat K Z H d v∧Tame d 40 50000∧Q (.str d.shown) H
theorem call_reprU (hg:GOk X) (hu:X.A.units+64<cLine):CallR X (.builtin "repr") (rRepr X.K):=by
  intro pins s σ H xs us Q I r h
  obtain⟨Z,v,d,rfl,o1,hd,t,q⟩:=h
  obtain⟨u,rfl,rv⟩:=vals1 r
  obtain⟨hp,k1,k2,k3⟩:=ground_of X H s
  obtain⟨as,hr',ns⟩:=Dat.readsIn I o1 k1 d v u hd rv
  have hd':=t.depth
  cases d with
  | none=>
    simp only[Dat] at hd
    subst hd
    cases (show _=Value.none from rv)
    exact P.repr_of_none ⟨.str _,H,I.tok _,⟨_,rfl⟩,q⟩
  | bool b=>
    simp only[Dat] at hd
    subst hd
    cases (show _=Value.bool b from rv)
    refine P.repr_of_bool ?_
    cases b with
    | true=>exact⟨.str _,H,I.tok _,⟨_,rfl⟩,q⟩
    | false=>exact⟨.str _,H,I.tok _,⟨_,rfl⟩,q⟩
  | int i=>
    simp only[Dat] at hd
    subst hd
    obtain⟨tk,rfl⟩:=(show ∃t,_=Value.int i t from rv)
    have sh:i.natAbs.log2<1920:=by simpa only[PyData.showable,decide_eq_true_eq] using t.show_
    exact P.repr_of_int sh ⟨.str _,H,I.tok _,⟨_,rfl⟩,q⟩
  | str x=>
    simp only[Dat] at hd
    subst hd
    obtain⟨tk,rfl⟩:=(show ∃t,_=Value.str x t from rv)
    exact P.repr_of_str ⟨.str _,H,I.tok _,⟨_,rfl⟩,q⟩ (by simpa only[PyData.shown] using t.len (by decide))
  | list ds=>
    obtain⟨a,ys,rfl,_⟩:=hd.lst
    cases (show _=Value.ref a from rv)
    exact repr_ref hg I k2 k3 hr' t.show_ ns (by omega) (t.len (by decide)) q
  | tuple ds=>
    obtain⟨a,ys,rfl,_⟩:=hd.tup
    cases (show _=Value.ref a from rv)
    exact repr_ref hg I k2 k3 hr' t.show_ ns (by omega) (t.len (by decide)) q
  | dict ds=>
    obtain⟨a,ys,rfl,_⟩:=hd.dct
    cases (show _=Value.ref a from rv)
    exact repr_ref hg I k2 k3 hr' t.show_ ns (by omega) (t.len (by decide)) q
theorem call_repr {k:Nat} (hg:GOk X) (hr:Room k X.A):CallR X (.builtin "repr") (rRepr X.K):=call_reprU hg hr.units
end
end PC

set_option Elab.async false
set_option linter.all false
set_option maxRecDepth 100000
set_option maxHeartbeats 2000000
namespace PC
open PySem PySem.Spec PyProof.Rows L2

section
variable {X : Cx}
theorem call_divmodW:CallR X (.builtin "divmod") (fun xs H Q=> ∃i j,xs= [.int i,.int j]∧CDivW i j∧
    ∀p,H p=none→Q (.ref p) (upd H p (.tup [.int (i / j),.int (i % j)]))):=by
  intro pins s σ H xs us Q I r h
  obtain⟨i,j,rfl,⟨h1,h2⟩,q⟩:=h
  obtain⟨u,w',rfl,⟨t,rfl⟩,⟨t',rfl⟩⟩:=vals2 r
  refine divmod_int (by omega) ?_ (.inl (PyProof.noPylong_of_log2 h2))
  have e1:i.fdiv j=i / j:=Int.fdiv_eq_ediv_of_nonneg i (by omega)
  have e2:i.fmod j=i % j:=Int.fmod_eq_emod_of_nonneg i (by omega)
  rw[e1,e2]
  refine⟨.ref s.heap.objs.size,_,I.laid (o:= .tup [.int (i / j),.int (i % j)]) (fun b o e=>Heap.get?_push_of_some _ e) (Nat.le_refl _)
    ⟨by rw[sizeLine_eq];simp,[.int (i / j) s.toks,.int (i % j) (s.toks+1)],.cons ⟨_,rfl⟩ (.cons ⟨_,rfl⟩ .nil),?_⟩,
    rfl,q _ (I.hok.fresh (Nat.le_refl _))⟩
  exact⟨_,Heap.get?_push_size s.heap rfl,rfl,0,rfl⟩

theorem rd_lst {pins:List (Addr×Obj)} {σ:L2.St} {H:Hp} {s:Shared} {a:Addr} {xs:List V} (I:Inv X pins σ H s) (h:Rd H a (.lst xs)):
    ∃(its:List Value) (n:Nat),Vals xs its∧xs.length≤sizeLine∧
      s.heap.get? a=some { cls:= .type "list",data:= .seq its.toArray n }:=by
  obtain⟨z,its,n,r,e⟩:=(show ObjOk X.prog X.w H s.heap a (.lst xs) from h.ok I.hok)
  exact⟨its,n,r,z,e⟩
def rCatL:R2:=fun x y H Q=> ∃l b xs zs,x= .ref l∧y= .ref b∧Rd H l (.lst xs)∧Rd H b (.lst zs)∧
  xs.length+zs.length≤sizeLine∧ ∀p,H p=none→Q (.ref p) (upd H p (.lst (xs++zs)))
theorem op_catL:OpR X (binaryOp .Add) rCatL:=by
  intro pins s σ H x y v u Q I rx ry h
  obtain⟨l,b,xs,zs,rfl,rfl,hH,hB,hz,q⟩:=h
  cases (show v=Value.ref l from rx)
  cases (show u=Value.ref b from ry)
  obtain⟨its,n,r,hl,e⟩:=rd_lst I hH
  obtain⟨its2,n2,r2,hl2,e2⟩:=rd_lst I hB
  have le1:=r.length
  have le2:=r2.length
  refine PySem.P.add_list e e2 ?_ (by rw[List.size_toArray,List.size_toArray];omega)
  have ea:its.toArray++its2.toArray=(its++its2).toArray:=by simp
  rw[ea]
  exact⟨.ref _,_,I.lnew (t':=s.toks) (r.append r2) (by rw[List.length_append];omega),rfl,q _ I.fresh⟩
def rCatT0 (K:PySem.W.Frag):R2:=fun x y H Q=> ∃a b ys,x= .ref a∧y= .ref b∧SqT K H a []∧SqT K H b ys∧Q (.ref b) H
theorem op_catT0:OpR X (binaryOp .Add) (rCatT0 X.K):=by
  intro pins s σ H x y v u Q I rx ry h
  obtain⟨a,b,ys,rfl,rfl,ha,hb,q⟩:=h
  cases (show v=Value.ref a from rx)
  cases (show u=Value.ref b from ry)
  obtain⟨its,r1,p1,_⟩:=I.tuple ha
  obtain⟨its2,r2,p2,_⟩:=I.tuple hb
  obtain⟨⟨cls,dd,data,sl⟩,ho,hc,n,hd⟩:=id p1
  obtain⟨⟨cls2,dd2,data2,sl2⟩,ho2,hc2,n2,hd2⟩:=id p2
  simp only at hc hd hc2 hd2
  subst hc hd hc2 hd2
  cases r1
  exact concat_meets ⟨_,ho,rfl⟩ ⟨_,ho2,rfl⟩ noFill_tuple_add seq_tuple_add PySem.F.slot_tuple_add PySem.F.entry_tuple_add
    (PySem.F.args_tuple_add_2 _ _) (tuple_addW0 a b _ _ n n2 dd dd2 sl sl2 rfl) ⟨ho,ho2,⟨.ref b,H,I,rfl,q⟩⟩
def rAddI:R2:=rI0 fun i j=> .int (i+j)
def rAddS:R2:=fun x y H Q=> ∃i j,x= .str i∧y= .str j∧i.length+j.length≤sizeLine∧Q (.str (i++j)) H
def rAdd (K:PySem.W.Frag):R2:=fun x y H Q=>rAddI x y H Q∨rAddS x y H Q∨rCatL x y H Q∨rCatT0 K x y H Q∨rCatT K x y H Q
theorem op_addA:OpR X (binaryOp .Add) (rAdd X.K):=OpR.or op_add (OpR.or op_add_str (OpR.or op_catL (OpR.or op_catT0 op_catT)))

theorem getItem_whole {prog:Program} {w:World} {A:Around} {E:Value→Shared→Prop} {s:Shared} {t sl:Addr} {items:Array Value} {vl vu:Value}
    {lo hi:Option Int} {Q:Value→Shared→Prop} (ht:IsTup s.heap t items) (hs:s.heap.IsSliceOf sl vl vu .none)
    (pl:IsPart vl lo) (pu:IsPart vu hi) (hw:HT.sIx items.size 0 lo=0∧HT.sIx items.size items.size hi=items.size)
    (h:Q (.ref t) s) (hsz:items.size≤sizeLine):wpAny (model prog w) A (getItem (.ref t) (.ref sl)) Q E s:=by
  obtain⟨os,hos,hcs,hds⟩:=id hs
  have hTs:s.TypeIs (.ref sl) "slice" :=⟨os,hos,hcs⟩
  unfold getItem
  try with_reducible refine wpAny_holding ?_
  first | refine wpAny_bind (wpAny_pure ?_) | skip
  refine wpAny_bind (wpAny_sequenceKey ht.typeIs (by decide) ?_)
  refine wpAny_bind (wpAny_callSpecial?_slot (name:=Str.ofString "__getitem__") ht.typeIs PyProof.Rows.slot_tuple_getitem
    (wpAny_call_entry PyProof.Rows.slot_tuple_getitem ht.typeIs entry_tuple_getitem ?_ (args_tuple_getitem _ _)))
  show wpAny _ _ (Builtin.Tuple.tupleItemsOf (.ref t) >>= _) _ _ s
  refine wpAny_bind (tupleItemsOf_ ht ?_)
  refine wpAny_bind (wpAny_typeOf hTs ?_)
  rw[if_pos (by decide)]
  refine wpAny_bind (HT.sliceApplied_gen hs pl pu ?_)
  have hyes:((((HT.sIx items.size 0 lo:Nat):Int) == 0 && (1:Int) == 1 &&
      (HT.sIx items.size items.size hi - HT.sIx items.size 0 lo) == items.size)=true):=by
    rw[hw.1,hw.2];simp
  show wpAny _ _ (if (((HT.sIx items.size 0 lo:Nat):Int) == 0 && (1:Int) == 1 &&
      (HT.sIx items.size items.size hi - HT.sIx items.size 0 lo) == items.size)=true then _ else _) _ _ s
  rw[if_pos hyes]
  show wpAny _ _ (Builtin.Tuple.tupleIsExact (.ref t) >>= _) _ _ s
  unfold Builtin.Tuple.tupleIsExact
  refine wpAny_bind (wpAny_bind (wpAny_typeOf ht.typeIs (wpAny_pure ?_)))
  rw[if_pos (by decide)]
  first
    | exact⟨_,rfl,wpAny_pure h⟩
    | exact wpAny_bind (wpAny_pure ⟨_,rfl,wpAny_pure h⟩)
    | exact wpAny_pure ⟨_,rfl,wpAny_pure h⟩
    | (wp_walk;exact⟨_,rfl,wpAny_pure h⟩)
def rSlT0 (K:PySem.W.Frag):V→Option Int→Option Int→Hp→VK→Prop:=fun x lo hi H Q=> ∃a xs,x= .ref a∧SqT K H a xs∧
  (HT.sIx xs.length 0 lo=0∧HT.sIx xs.length xs.length hi=xs.length)∧Q (.ref a) H
theorem sl_tup0:SlR X (rSlT0 X.K):=by
  intro pins s σ H x v vl vu lo hi sl Q I rx hs pl pu h
  obtain⟨a,xs,rfl,hx,hw,q⟩:=h
  cases (show v=Value.ref a from rx)
  obtain⟨its,r,ht,hz⟩:=I.tuple hx
  have hlen:its.toArray.size=xs.length:=by rw[List.size_toArray];exact r.length.symm
  exact⟨"tuple",_,PyProof.Rows.slot_tuple_getitem.lookup,ht.typeIs,
    getItem_whole ht hs pl pu (by rw[hlen];exact hw) ⟨.ref a,H,I,rfl,q⟩ (by rw[hlen];exact hz)⟩
def rSl (K:PySem.W.Frag):V→Option Int→Option Int→Hp→VK→Prop:=fun x lo hi H Q=>
  rSlL K x lo hi H Q∨rSlT0 K x lo hi H Q∨rSlT K x lo hi H Q∨rSlS x lo hi H Q
theorem sl_any:SlR X (rSl X.K):=SlR.or sl_list (SlR.or sl_tup0 (SlR.or sl_tup sl_str))

def rLen (K:PySem.W.Frag):List V→Hp→VK→Prop:=fun xs H Q=>
  (∃p ys,xs= [.ref p]∧(SqL K H p ys∨SqT K H p ys)∧Q (.int ys.length) H)∨(∃z,xs= [.str z]∧z.length≤sizeLine∧Q (.int z.length) H)
theorem call_lenA:CallR X (.builtin "len") (rLen X.K):=CallR.or call_len_seq call_len_str
def rList (K:PySem.W.Frag):List V→Hp→VK→Prop:=fun xs H Q=> ∃p ys,xs= [.ref p]∧(SqL K H p ys∨SqT K H p ys)∧ ∀l,H l=none→Q (.ref l) (upd H l (.lst ys))
theorem call_listA:CallR X (.type "list") (rList X.K):=call_list_of
def rTuple (K:PySem.W.Frag):List V→Hp→VK→Prop:=fun xs H Q=> ∃p ys,xs= [.ref p]∧
  ((SqL K H p ys∧ ∀l,H l=none→Q (.ref l) (upd H l (.tup ys)))∨(SqT K H p ys∧Q (.ref p) H))
theorem call_tupleA:CallR X (.type "tuple") (rTuple X.K):=call_tuple_of
def rEqDat (K:PySem.W.Frag):R2:=fun x y H Q=> ∃Z d e,One H∧Dat K Z H d x∧Dat K Z H e y∧SeqAt.shaped d=true∧SeqAt.shaped e=true∧Q (.bl (PyData.eqv d e)) H
theorem op_eqDatU (hu:X.A.units+64<cLine):OpR X (compareOp .Eq) (rEqDat X.K):=by
  intro pins s σ H x y v u Q I rx ry h
  obtain⟨Z,d,e,o1,hd,he,sd,se,q⟩:=h
  obtain⟨as,r1,_⟩:=Dat.reads I o1 d x v hd rx
  obtain⟨bs,r2,_⟩:=Dat.reads I o1 e y u he ry
  exact SeqAt.compareEq_shaped r1 r2 sd se hu ⟨.bl _,H,I,rfl,q⟩
def rNeDat (K:PySem.W.Frag):R2:=fun x y H Q=> ∃Z d e,One H∧Dat K Z H d x∧Dat K Z H e y∧SeqAt.shaped d=true∧SeqAt.shaped e=true∧Q (.bl (!PyData.eqv d e)) H
theorem op_neDatU (hu:X.A.units+64<cLine):OpR X (compareOp .NotEq) (rNeDat X.K):=by
  intro pins s σ H x y v u Q I rx ry h
  obtain⟨Z,d,e,o1,hd,he,sd,se,q⟩:=h
  obtain⟨as,r1,_⟩:=Dat.reads I o1 d x v hd rx
  obtain⟨bs,r2,_⟩:=Dat.reads I o1 e y u he ry
  exact SeqAt.compareNe_shaped r1 r2 sd se hu ⟨.bl _,H,I,rfl,q⟩
def rEqA (K:PySem.W.Frag):R2:=fun x y H Q=>rEq x y H Q∨rEqDat K x y H Q
def rNeA (K:PySem.W.Frag):R2:=fun x y H Q=>rNe x y H Q∨rNeDat K x y H Q
theorem op_eqAU (hu:X.A.units+64<cLine):OpR X (compareOp .Eq) (rEqA X.K):=OpR.or op_eq (op_eqDatU hu)
theorem op_eqA {k:Nat} (hr:Room k X.A):OpR X (compareOp .Eq) (rEqA X.K):=op_eqAU hr.units
theorem op_neAU (hu:X.A.units+64<cLine):OpR X (compareOp .NotEq) (rNeA X.K):=OpR.or op_ne (op_neDatU hu)
theorem op_neA {k:Nat} (hr:Room k X.A):OpR X (compareOp .NotEq) (rNeA X.K):=op_neAU hr.units
def rInC:R2:=fun x y H Q=> ∃(c:Nat) (z:Str),x= .str ⟨#[c]⟩∧y= .str z∧Q (.bl (decide (c∈z.cps.toList))) H
def rNotInC:R2:=fun x y H Q=> ∃(c:Nat) (z:Str),x= .str ⟨#[c]⟩∧y= .str z∧Q (.bl (!decide (c∈z.cps.toList))) H
def rInA (K:PySem.W.Frag):R2:=fun x y H Q=>rInC x y H Q∨rIn K false x y H Q
def rNotInA (K:PySem.W.Frag):R2:=fun x y H Q=>rNotInC x y H Q∨rIn K true x y H Q
theorem op_inA:OpR X (compareOp .In) (rInA X.K):=OpR.or op_in_sign op_in_seq
theorem op_notInA:OpR X (compareOp .NotIn) (rNotInA X.K):=OpR.or op_notIn_sign op_notIn_seq
end

section
variable {K : PySem.W.Frag} {p : Addr} {Z : List Addr} {H H' : Hp} {Q : VK} {x y : V} {d e : PyData} {ds es : List PyData}
structure Wd (p:Addr) (Z:List Addr) (H:Hp):Prop where
  one:One H
  occ: ∀b∈Z,H b≠none
  mem:p∈Z
theorem Wd.ne {n:Addr} (h:Wd p Z H) (hn:H n=none):n ∉ Z:=fun z=>h.occ n z hn
theorem Wd.up (h:Wd p Z H) (r:R p H H'):Wd p Z H':=by
  refine⟨r.one h.one,fun b hb=> ?_,h.mem⟩
  by_cases z:b=p
  · subst z
    exact r.occ (h.occ _ hb)
  · cases e:H b with
    | none=>exact absurd e (h.occ b hb)
    | some o=>
      rw[r.keep b o z e]
      exact fun w=>nomatch w
theorem Dat.to {v:V} (h:Dat K Z H d v) (w:Wd p Z H) (r:R p H H'):Dat K Z H' d v:=Dat.up r w.mem d v h
theorem DatL.to {v:List V} (h:DatL K Z H ds v) (w:Wd p Z H) (r:R p H H'):DatL K Z H' ds v:=DatL.up r w.mem ds v h
theorem s_add_int {i j:Int} (q:Q (.int (i+j)) H):rAdd K (.int i) (.int j) H Q:= .inl ⟨i,j,rfl,rfl,q⟩
theorem s_add_str {i j:Str} (h:i.length+j.length≤sizeLine) (q:Q (.str (i++j)) H):rAdd K (.str i) (.str j) H Q:= .inr (.inl ⟨i,j,rfl,rfl,h,q⟩)
def sliD (xs:List PyData) (lo hi:Option Int):List PyData:=(xs.drop (HT.sIx xs.length 0 lo)).take (HT.sIx xs.length xs.length hi - HT.sIx xs.length 0 lo)
theorem DatL.cut {vs:List V} {lo hi:Option Int} (l:DatL K Z H ds vs):DatL K Z H (sliD ds lo hi) (cutV vs lo hi):=by
  unfold sliD cutV
  rw[l.length]
  exact (l.drop _).take _
def tyD:PyData→String
  | .none=> "NoneType" | .bool _=> "bool" | .int _=> "int" | .str _=> "str" | .list _=> "list" | .tuple _=> "tuple" | .dict _=> "dict"
theorem Dat.ty (h:Dat K Z H d x):TyX K H x (.type (tyD d)):=by
  cases d with
  | none=>simp only[Dat] at h;subst h;exact .base .non
  | bool b=>simp only[Dat] at h;subst h;exact .base (.bl b)
  | int b=>simp only[Dat] at h;subst h;exact .base (.int b)
  | str b=>simp only[Dat] at h;subst h;exact .base (.str b)
  | list ds=>
    obtain⟨a,xs,rfl,_,h,_⟩:=h.lst
    rcases h with h | ⟨o,h⟩
    · exact .base (.lst h)
    · exact .base (.frz h)
  | tuple ds=>
    obtain⟨a,xs,rfl,_,h,_⟩:=h.tup
    rcases h with (h | ⟨o,h⟩) | ⟨o,_,_,h,c,_⟩
    · exact .base (.tup h)
    · exact .fTuple h
    · exact .kTuple h c
  | dict ds=>
    obtain⟨a,xs,rfl,_,h,_⟩:=h.dct
    exact .base (.dK h)
def isD (d:PyData) (T:String):Bool:=tyD d == T || (T == "int" && tyD d == "bool")
theorem kit_table: ∀a∈ ["NoneType","bool","int","str","list","tuple","dict"],∀T∈ ["int","bool","str","list","tuple","dict"],
    kitB a T=some (a == T || (T == "int" && a == "bool")):=by decide +kernel
theorem kit_isD (d:PyData) {T:String} (hT:T= "int" ∨T= "bool" ∨T= "str" ∨T= "list" ∨T= "tuple" ∨T= "dict"):kitB (tyD d) T=some (isD d T):=by
  refine kit_table _ ?_ T ?_
  · cases d <;> simp[tyD]
  · rcases hT with rfl | rfl | rfl | rfl | rfl | rfl <;> simp
theorem s_isi {T:String} (hx:Dat K Z H d x) (hT:T= "int" ∨T= "bool" ∨T= "str" ∨T= "list" ∨T= "tuple" ∨T= "dict") (q:Q (.bl (isD d T)) H):rIsi K [x,.ty T] H Q:=
  ⟨x,.ty T,_,_,isD d T,rfl,.ty T,hx.ty,kit_ty (kit_isD d hT),q⟩
theorem s_eq_int {i j:Int} (q:Q (.bl (decide (i=j))) H):rEqA K (.int i) (.int j) H Q:= .inl ⟨rfl,by
  have e:decide (V.int i=V.int j)=decide (i=j):=by simp
  rw[e];exact q⟩
theorem s_ne_int {i j:Int} (q:Q (.bl (!decide (i=j))) H):rNeA K (.int i) (.int j) H Q:= .inl ⟨rfl,by
  have e:decide (V.int i=V.int j)=decide (i=j):=by simp
  rw[e];exact q⟩
theorem s_eq_str {i j:Str} (q:Q (.bl (decide (i=j))) H):rEqA K (.str i) (.str j) H Q:= .inl ⟨rfl,by
  have e:decide (V.str i=V.str j)=decide (i=j):=by simp
  rw[e];exact q⟩
theorem s_ne_str {i j:Str} (q:Q (.bl (!decide (i=j))) H):rNeA K (.str i) (.str j) H Q:= .inl ⟨rfl,by
  have e:decide (V.str i=V.str j)=decide (i=j):=by simp
  rw[e];exact q⟩
theorem s_in_c {c:Nat} {z:Str} (q:Q (.bl (decide (c∈z.cps.toList))) H):rInA K (.str ⟨#[c]⟩) (.str z) H Q:= .inl ⟨c,z,rfl,rfl,q⟩
theorem s_notIn_c {c:Nat} {z:Str} (q:Q (.bl (!decide (c∈z.cps.toList))) H):rNotInA K (.str ⟨#[c]⟩) (.str z) H Q:= .inl ⟨c,z,rfl,rfl,q⟩
end
end PC

set_option Elab.async false
set_option linter.all false
set_option maxRecDepth 100000
set_option maxHeartbeats 2000000
namespace PC
open PySem PySem.Spec PyProof.Rows L2

def LcG (J:It) (g:TG) (tt:TT) (te:TE) (vs:List Nat) (σ:L2.St) (H1:Hp) (Q:VK):Prop:=
  ∀ D, H1 D = none → ∃ W : Nat → Nat → Hp → Prop, (∃ m, W 0 m (upd H1 D (.lst []))) ∧ ∀ i m H, W i m H →
        (J.stop i H∧Q (.ref D) H)∨(J.go i H∧ ∃Nx:Hp→Prop,(∀H',Nx H'→ ∃m',m'<m∧W (i+1) m' H')∧
          ∀x H',J.yld i H x H'→g x (wipe σ vs) H' fun σ2 H2=>wipe σ2 vs=wipe σ vs∧tt σ2 H2 fun b H3=>
            if b=true then te σ2 H3 fun y H4=> ∃acc,H4 D=some (.lst acc)∧acc.length<sizeLine∧Nx (upd H4 D (.lst (acc++ [y]))) else Nx H3)
def ForG (J:It) (g:TG) (tb:TS) (D:Ends) (σ:L2.St) (H1:Hp):Prop:= ∃W:Nat→Nat→L2.St→Hp→Prop,(∃m,W 0 m σ H1)∧ ∀i m σ H,W i m σ H→
    (J.stop i H∧D.nx σ H)∨(J.go i H∧ ∃N:L2.St→Hp→Prop,(∀σ' H',N σ' H'→ ∃m',m'<m∧W (i+1) m' σ' H')∧
      ∀x H',J.yld i H x H'→g x σ H' fun σ2 H2=>tb { D with nx:=N,ct:=N,bk:=D.nx } σ2 H2)
def NewL (xs:List V) (H:Hp) (Q:VK):Prop:=xs.length≤sizeLine∧ ∀p,H p=none→Q (.ref p) (upd H p (.lst xs))
def NewT (xs:List V) (H:Hp) (Q:VK):Prop:=xs.length≤sizeLine∧ ∀p,H p=none→Q (.ref p) (upd H p (.tup xs))
section
variable {σ : L2.St} {H : Hp} {Q : VK} {D : Ends} {v : V} {te ta tb tc : TE} {t u : TS} {tt t1 t2 : TT} {tr : TA} {QA : List V → Hp → Prop} {QT : Bool → Hp → Prop}
theorem s_var {i:Nat} (h:σ[i]?=some (some v)) (q:Q v H):tVar i σ H Q:=⟨v,h,q⟩
theorem s_c (q:Q v H):tC v σ H Q:=q
theorem s_op {r:R2} (q:ta σ H fun x H1=>tb σ H1 fun y H2=>r x y H2 Q):tOp r ta tb σ H Q:=q
theorem s_un {r:V→Hp→VK→Prop} (q:ta σ H fun x H1=>r x H1 Q):tUn r ta σ H Q:=q
theorem s_rI0 {g:Int→Int→V} {i j:Int} (q:Q (g i j) H):rI0 g (.int i) (.int j) H Q:=⟨i,j,rfl,rfl,q⟩
theorem s_rI {C:Int→Int→Prop} {g:Int→Int→V} {i j:Int} (c:C i j) (q:Q (g i j) H):rI C g (.int i) (.int j) H Q:=⟨i,j,rfl,rfl,c,q⟩
theorem s_rU {g:Int→V} {i:Int} (q:Q (g i) H):rU g (.int i) H Q:=⟨i,rfl,q⟩
theorem s_nil (q:QA [] H):tNil σ H QA:=q
theorem s_cons (q:te σ H fun x H1=>tr σ H1 fun xs H2=>QA (x::xs) H2):tCons te tr σ H QA:=q
theorem s_cb {r:List V→Hp→VK→Prop} (q:tr σ H fun vs H1=>r vs H1 Q):tCB r tr σ H Q:=q
theorem s_ck {r:List V→List V→Hp→VK→Prop} {tk:TA} (q:tr σ H fun vs H1=>tk σ H1 fun zs H2=>r vs zs H2 Q):tCK r tr tk σ H Q:=q
theorem s_if (q:tt σ H fun c H1=>if c=true then ta σ H1 Q else tb σ H1 Q):tIf tt ta tb σ H Q:=q
theorem s_andV (q:ta σ H fun x H1=> ∃c,x= .bl c∧if c=true then tb σ H1 Q else Q (.bl false) H1):tAndV ta tb σ H Q:=q
theorem s_orV (q:ta σ H fun x H1=> ∃c,x= .bl c∧if c=true then Q (.bl true) H1 else tb σ H1 Q):tOrV ta tb σ H Q:=q
theorem s_notV (q:ta σ H fun x H1=> ∃c,x= .bl c∧Q (.bl (!c)) H1):tNotV ta σ H Q:=q
theorem s_chain {r r':R2} (q:ta σ H fun x H1=>tb σ H1 fun y H2=>r x y H2 fun z H3=> ∃k,z= .bl k∧
    (if k=true then tc σ H3 fun w' H4=>r' y w' H4 Q else Q (.bl false) H3)):tChain r r' ta tb tc σ H Q:=q
theorem s_lst (q:tr σ H fun xs H1=>NewL xs H1 Q):tLst tr σ H Q:=q
theorem s_tup (q:tr σ H fun xs H1=>NewT xs H1 Q):tTup tr σ H Q:=q
theorem s_slice {r:V→Option Int→Option Int→Hp→VK→Prop} {tl th:TO} (q:te σ H fun x H1=>tl σ H1 fun l H2=>th σ H2 fun u H3=>r x l u H3 Q):tSl r te tl th σ H Q:=q
theorem s_part {Qo:Option Int→Hp→Prop} (q:te σ H fun x H1=> ∃i,x= .int i∧Qo (some i) H1):tPart te σ H Qo:=q
theorem s_noPart {Qo:Option Int→Hp→Prop} (q:Qo none H):tNoPart σ H Qo:=q
theorem s_test (q:te σ H fun x H'=> ∃k,x= .bl k∧QT k H'):tTest te σ H QT:=q
theorem s_tB (q:te σ H fun x H'=> ∃k,x= .bl k∧QT k H'):tB te σ H QT:=q
theorem s_not (q:tt σ H fun c H1=>QT (!c) H1):tNot tt σ H QT:=q
theorem s_and (q:t1 σ H fun c H1=>if c=true then t2 σ H1 QT else QT false H1):tAnd t1 t2 σ H QT:=q
theorem s_or (q:t1 σ H fun c H1=>if c=true then QT true H1 else t2 σ H1 QT):tOr t1 t2 σ H QT:=q
theorem s_seq (q:t { D with nx:=u D } σ H):tSeq t u D σ H:=q
theorem s_next (q:D.nx σ H):tNext D σ H:=q
theorem s_ret (q:te σ H D.rt):tRet te D σ H:=q
theorem s_retN (q:D.rt .non H):tRetN D σ H:=q
theorem s_drop (q:te σ H fun _ H1=>D.nx σ H1):tDrop te D σ H:=q
theorem s_ifS (q:tt σ H fun b H1=>if b=true then t D σ H1 else u D σ H1):tIfS tt t u D σ H:=q
theorem s_asg {g:TG} (q:te σ H fun x H1=>g x σ H1 D.nx):tAsg te g D σ H:=q
theorem s_par {i j:Nat} (q:tr σ H fun vs H1=> ∃v w,vs= [v,w]∧D.nx ((σ.set i (some v)).set j (some w)) H1):tPar i j tr D σ H:=q
theorem s_gname {i:Nat} {N:L2.St→Hp→Prop} (q:N (σ.set i (some v)) H):gName i v σ H N:=q
end

section
variable {J : It} {n : Nat} {G : Hp → Prop} {Y : Nat → Hp → V → Hp → Prop} {K : PySem.W.Frag} {p : Addr} {Z : List Addr}
theorem Wd.more {D:Addr} {H:Hp} (w:Wd p Z H) (hD:H D≠none):Wd p (D::Z) H:=
  ⟨w.one,fun b hb=>(List.mem_cons.mp hb).elim (fun z=>z ▸ hD) (w.occ b),List.mem_cons_of_mem _ w.mem⟩
theorem R.wd {D:Addr} {H H':Hp} (r:R p H H') (hD:H D≠none) (hp:D≠p):H' D=H D:=by
  cases e:H D with
  | none=>exact absurd e hD
  | some o=>exact r.keep D o hp e
end

theorem bt_max:bootBuiltins "max" =some (.builtin "max"):=by decide +kernel
theorem bt_min:bootBuiltins "min" =some (.builtin "min"):=by decide +kernel
theorem bt_abs:bootBuiltins "abs" =some (.builtin "abs"):=by decide +kernel
theorem bt_divmod:bootBuiltins "divmod" =some (.builtin "divmod"):=by decide +kernel
theorem bt_len:bootBuiltins "len" =some (.builtin "len"):=by decide +kernel
theorem bt_isinstance:bootBuiltins "isinstance" =some (.builtin "isinstance"):=by decide +kernel
theorem bt_repr:bootBuiltins "repr" =some (.builtin "repr"):=by decide +kernel
theorem bt_sum:bootBuiltins "sum" =some (.builtin "sum"):=by decide +kernel
theorem bt_all:bootBuiltins "all" =some (.builtin "all"):=by decide +kernel
theorem bt_any:bootBuiltins "any" =some (.builtin "any"):=by decide +kernel
theorem bt_sorted:bootBuiltins "sorted" =some (.builtin "sorted"):=by decide +kernel
theorem bt_int:bootBuiltins "int" =some (.type "int"):=by decide +kernel
theorem bt_bool:bootBuiltins "bool" =some (.type "bool"):=by decide +kernel
theorem bt_list:bootBuiltins "list" =some (.type "list"):=by decide +kernel
theorem bt_tuple:bootBuiltins "tuple" =some (.type "tuple"):=by decide +kernel
theorem ite_b {b:Bool} {A B:Prop} (h1:b=true→A) (h0:b=false→B):if b=true then A else B:=by
  cases b with
  | true=>exact iteT (h1 rfl)
  | false=>exact iteF (h0 rfl)
theorem ite_d {c A B:Prop} [Decidable c] (h1:c→A) (h0: ¬ c→B):if decide c=true then A else B:=
  ite_b (fun h=>h1 (of_decide_eq_true h)) (fun h=>h0 (of_decide_eq_false h))
section
variable {X : Cx}
theorem ix_any:IxR X (rIx X.K):=ix_seq
theorem op_modA:OpR X (binaryOp .Mod) (rI (fun _ j=>0<j) fun i j=> .int (i % j)):=op_mod
theorem op_fdivA:OpR X (binaryOp .FloorDiv) (rI CDivW fun i j=> .int (i / j)):=op_fdivW
end
section
variable {K : PySem.W.Frag} {σ : L2.St} {H : Hp} {N : L2.St → Hp → Prop} {Q : VK} {p : Addr} {x y v : V} {a b : Int} {Z : List Addr}
theorem s_gcons {t:TG} {u:TGs} {r:List V} (q:t v σ H fun σ' H'=>u r σ' H' N):gCons t u (v::r) σ H N:=⟨v,r,rfl,q⟩
theorem s_gnil (q:N σ H):gNil [] σ H N:=⟨rfl,q⟩
theorem s_gsub {to ti:TE} {t:TSet} (q:to σ H fun o H1=>ti σ H1 fun i H2=>t o i v H2 fun H3=>N σ H3):gSub to ti t v σ H N:=q
theorem s_gtup {n:Nat} {t:TGs} {xs:List V} (h:SqT K H p xs) (hl:xs.length=n) (q:t xs σ H N):gTup K n t (.ref p) σ H N:=⟨p,xs,rfl,h,hl,q⟩
theorem s_pot0 (e:H p=some (.lst [x,y])) (q:Q x H):rIx K (.ref p) (.int 0) H Q:= .inl ⟨p,[x,y],0,x,rfl,rfl,.inl (.inl e),atI_nat (j:=0) rfl,q⟩
theorem s_pot1 (e:H p=some (.lst [x,y])) (q:Q y H):rIx K (.ref p) (.int 1) H Q:= .inl ⟨p,[x,y],1,y,rfl,rfl,.inl (.inl e),atI_nat (j:=1) rfl,q⟩
theorem s_pset0 {N:Hp→Prop} (e:H p=some (.lst [x,y])) (q:N (upd H p (.lst [v,y]))):rSetL (.ref p) (.int 0) v H N:=⟨p,[x,y],0,0,rfl,rfl,e,rfl,q⟩
theorem s_pset1 {N:Hp→Prop} (e:H p=some (.lst [x,y])) (q:N (upd H p (.lst [x,v]))):rSetL (.ref p) (.int 1) v H N:=⟨p,[x,y],1,1,rfl,rfl,e,rfl,q⟩
theorem s_script {ns:List Int} {i:Nat} (h:SqL K H p (ns.map V.int)) (hi:i<ns.length) (q: ∀z,ns[i]?=some z→Q (.int z) H):rIx K (.ref p) (.int i) H Q:=by
  refine .inl ⟨p,_,i,.int ns[i],rfl,rfl,h,atI_nat (j:=i) (by rw[List.getElem?_map,List.getElem?_eq_getElem hi];rfl),q _ (List.getElem?_eq_getElem hi)⟩
end
section
variable {K : PySem.W.Frag} {α β : Type}
def pick (perm:List Nat) (xs:List α):List α:=perm.filterMap (xs[·]?)
def kwg (a b:Nat) (perm:List Nat) (us ws:List α):List α:=if us.length=a∧ws.length=b then pick perm (us++ws) else []
theorem pick_vals {xs:List V} {us:List Value} (r:Vals xs us): ∀perm:List Nat,Vals (pick perm xs) (pick perm us)
  | []=> .nil
  | i::perm=>by
    have ih:=pick_vals r perm
    unfold pick at ih ⊢
    rw[List.filterMap_cons,List.filterMap_cons]
    cases e:xs[i]? with
    | none=>rw[r.none_of e];exact ih
    | some x=>
      obtain⟨u,hu,ru⟩:=r.get e
      rw[hu]
      exact .cons ru ih
theorem kb_of {x qual:Str} {st:Stmt} {f:Addr} {fd:FuncData} {ps ks:List Str} {a b:Nat} {perm:List Nat} (F:Fun K x qual st f fd) (h0:ps≠ [])
    (h: ∀(kV doc pm:Value) (an:Option Addr) (cdv ct:Value) (us ws:List Value),us.length=a→ws.length=b→
      bindArgs (PySem.W.fnOf x qual (defArgs st) (defBody st) (defScope st) .none kV doc pm an cdv ct) ⟨us,ks.zip ws⟩=pure (ps.zip (pick perm (us++ws)))):
    KBinds K fd ps ks (kwg a b perm) (kwg a b perm):=by
  obtain⟨oc,od,kV,doc,pm,an,cdv,ct,osl,rfl,lk,hcd⟩:=F.ex
  refine⟨fun s us ws _ hl=> ?_,fun {vs us zs ws} r z=> ?_⟩
  · by_cases c:us.length=a∧ws.length=b
    · unfold kwg
      rw[if_pos c]
      exact .of_eq (h kV doc pm an cdv ct us ws c.1 c.2)
    · unfold kwg at hl
      rw[if_neg c] at hl
      exact absurd (List.length_eq_zero_iff.mp hl.symm) h0
  · unfold kwg
    by_cases c:us.length=a∧ws.length=b
    · rw[if_pos c,if_pos ⟨by rw[r.length];exact c.1,by rw[z.length];exact c.2⟩]
      exact pick_vals (r.append z) perm
    · rw[if_neg c,if_neg (fun q=>c ⟨by rw[← r.length];exact q.1,by rw[← z.length];exact q.2⟩)]
      exact .nil
end

theorem cmul_r {i j:Int} (h: -18446744073709551616<j) (h':j<18446744073709551616):CMul i j:= .inr ⟨h,h'⟩
theorem cmul_l {i j:Int} (h: -18446744073709551616<i) (h':i<18446744073709551616):CMul i j:= .inl ⟨h,h'⟩
theorem cdw {i j:Int} (h:0<j) (h':j<18446744073709551616):CDivW i j:=wide_div h (b:=64) (by omega) (by decide) (by decide)
theorem cpow {i j:Int} (h:0≤j) (h':j≤1000000) (h'':i.natAbs<18446744073709551616):CPow i j:=⟨h,h',h''⟩
section
variable {K : PySem.W.Frag} {H : Hp} {Q : VK}
end

section
variable {J : It} {n : Nat} {G : Hp → Prop} {Y : Nat → Hp → V → Hp → Prop} {K : PySem.W.Frag} {p : Addr} {Z : List Addr} {gi : Nat} {te : TE} {vs : List Nat} {σ : L2.St} {H1 : Hp} {Q : VK}
theorem s_yes {σ:L2.St} {H:Hp} {QT:Bool→Hp→Prop} (q:QT true H):tYes σ H QT:=q
end
section
variable {K : PySem.W.Frag} {p : Addr} {Z : List Addr} {H : Hp} {Q : VK} {x : V} {d : PyData}
theorem Dat.str {z:Str} (h:Dat K Z H (.str z) x):x= .str z:=by simpa only[Dat] using h
theorem Dat.int {z:Int} (h:Dat K Z H (.int z) x):x= .int z:=by simpa only[Dat] using h
theorem Dat.bool {z:Bool} (h:Dat K Z H (.bool z) x):x= .bl z:=by simpa only[Dat] using h
end
theorem sl_of {n:Nat} (h:n≤50000):n≤sizeLine:=by rw[sizeLine_eq];omega
theorem sl_lt {n:Nat} (h:n≤50000):n<sizeLine:=by rw[sizeLine_eq];omega

section
variable {X : Cx} {K : PySem.W.Frag} {k : Nat}
theorem kx_add (h:X.K=K):OpR X (binaryOp .Add) (rAdd K):=by subst h;exact op_addA
theorem kx_ix (h:X.K=K):IxR X (rIx K):=by subst h;exact ix_any
theorem kx_sl (h:X.K=K):SlR X (rSl K):=by subst h;exact sl_any
theorem kx_len (h:X.K=K):CallR X (.builtin "len") (rLen K):=by subst h;exact call_lenA
theorem kx_list (h:X.K=K):CallR X (.type "list") (rList K):=by subst h;exact call_listA
theorem kx_tuple (h:X.K=K):CallR X (.type "tuple") (rTuple K):=by subst h;exact call_tupleA
theorem kx_eq (h:X.K=K) (hr:Room k X.A):OpR X (compareOp .Eq) (rEqA K):=by subst h;exact op_eqA hr
theorem kx_ne (h:X.K=K) (hr:Room k X.A):OpR X (compareOp .NotEq) (rNeA K):=by subst h;exact op_neA hr
theorem kx_in (h:X.K=K):OpR X (compareOp .In) (rInA K):=by subst h;exact op_inA
theorem kx_notIn (h:X.K=K):OpR X (compareOp .NotIn) (rNotInA K):=by subst h;exact op_notInA
theorem kx_repr (h:X.K=K) (hg:GOk X) (hr:Room k X.A):CallR X (.builtin "repr") (rRepr K):=by subst h;exact call_repr hg hr
theorem kx_isi (h:X.K=K):CallR X (.builtin "isinstance") (rIsi K):=by subst h;exact call_isi
theorem kx_isiT (h:X.K=K):CallR X (.builtin "isinstance") (rIsiT K):=by subst h;exact call_isiT
theorem kx_all (h:X.K=K) (hc:X.calm=true):CallR X (.builtin "all") (rAll K):=by subst h;exact cr_all hc
theorem kx_any (h:X.K=K) (hc:X.calm=true):CallR X (.builtin "any") (rAny K):=by subst h;exact cr_any hc
theorem kx_sum (h:X.K=K) (hc:X.calm=true):CallR X (.builtin "sum") (rSum K):=by subst h;exact cr_sum hc
end

theorem ite_nf {A B:Prop} (h:A):if (!false)=true then A else B:=iteT h
theorem ite_nt {A B:Prop} (h:B):if (!true)=true then A else B:=iteF h
section
variable {σ : L2.St} {H : Hp} {Q : VK} {D : Ends} {g : TG} {tt : TT} {te : TE} {ta : TA} {vs : List Nat} {K : PySem.W.Frag} {RI : It → Hp → Prop} {tb : TS} {wi : TI}
theorem s_tlc (q:wi σ H fun J H1=>LcG J g tt te vs σ H1 Q):tLc wi g tt te vs σ H Q:=q
theorem s_iStr (q:te σ H fun v H1=> ∃x,v= .str x∧RI (Its x) H1):iStr te σ H RI:=q
theorem s_iList (q:te σ H fun x H1=> ∃a,x= .ref a∧(∃xs,SqL K H1 a xs)∧RI (Itl K a) H1):iList K te σ H RI:=q
theorem s_iTup (q:te σ H fun x H1=> ∃a,x= .ref a∧(∃xs,SqT K H1 a xs)∧RI (Itt K a) H1):iTup K te σ H RI:=q
theorem s_iRng1 (q:ta σ H fun vs H1=> ∃j:Int,vs= [.int j]∧ -(2 ^ 62)≤j∧j<2 ^ 62∧RI (Itr 0 j.toNat) H1):iRng1 ta σ H RI:=q
theorem s_iRng2 (q:ta σ H fun vs H1=> ∃i j:Int,vs= [.int i,.int j]∧(-(2 ^ 62)≤i∧i<2 ^ 62∧ -(2 ^ 62)≤j∧j<2 ^ 62)∧RI (Itr i (j - i).toNat) H1):iRng2 ta σ H RI:=q
theorem s_for (q:wi σ H fun J H1=>ForG J g tb D σ H1):tFor wi g tb D σ H:=q
section
variable {p : Addr} {Z : List Addr} {ds : List PyData} {xs : List V}
end
end

section
variable {K : PySem.W.Frag} {p : Addr} {Z : List Addr} {H : Hp} {Q : VK} {x : V} {d : PyData} {ds : List PyData} {σ : L2.St}
theorem s_m1 {r:V→List V→Hp→VK→Prop} {to te:TE} (q:to σ H fun x H1=>(∃a,x= .str a)∧te σ H1 fun y H2=>r x [y] H2 Q):tM1 r to te σ H Q:=q
end
theorem cps_app (a b:Str):(a++b).cps.toList=a.cps.toList++b.cps.toList:=by
  show (a.cps++b.cps).toList=_
  simp
theorem ok_iff {x:Str}:PyData.strOk x=true↔ ∀c∈x.cps.toList,c<1114112:=by
  unfold PyData.strOk
  rw[← Array.all_toList,List.all_eq_true]
  constructor
  · intro h c hc;exact of_decide_eq_true (h c hc)
  · intro h c hc;exact decide_eq_true (h c hc)
theorem ok_app {a b:Str} (h:PyData.strOk a=true) (g:PyData.strOk b=true):PyData.strOk (a++b)=true:=by
  rw[ok_iff] at *
  intro c hc
  rw[cps_app] at hc
  exact (List.mem_append.mp hc).elim (h c) (g c)
theorem char_lt (c:Char):c.toNat<1114112:=by
  have h:=c.valid
  show c.val.toNat<1114112
  rcases h with h | ⟨_,h⟩
  · have:c.val.toNat<0xd800:=h
    omega
  · exact h
theorem ok_ofString (s:String):PyData.strOk (Str.ofString s)=true:=by
  rw[ok_iff,signs_ofString]
  intro c hc
  obtain⟨ch,_,rfl⟩:=List.mem_map.mp hc
  exact char_lt ch
theorem reprChar_lt {q c x:Nat} (hq:c<1114112) (h:x∈Builtin.Str.reprChar q c):x<1114112:=by
  have hx: ∀w:Nat,x∈List.replicate (w - ((Nat.toDigits 16 c).map Char.toNat).length) 48++(Nat.toDigits 16 c).map Char.toNat→x<1114112:=by
    intro w h
    rcases List.mem_append.mp h with h | h
    · rw[List.eq_of_mem_replicate h];decide
    · obtain⟨ch,_,rfl⟩:=List.mem_map.mp h
      exact char_lt ch
  unfold Builtin.Str.reprChar at h
  simp only at h
  repeat' split at h
  all_goals first
    | (simp only[List.mem_cons,List.not_mem_nil,or_false] at h;omega)
    | (rcases List.mem_append.mp h with h | h
       · simp only[List.mem_cons,List.not_mem_nil,or_false] at h;omega
       · exact hx _ h)
theorem mem_fold (f:Nat→List Nat) (x:Nat): ∀(l:List Nat) (acc:Array Nat),x∈(l.foldl (fun out c=>out++(f c).toArray) acc).toList→x∈acc.toList∨ ∃c∈l,x∈f c
  | [],acc,h=> .inl h
  | c::l,acc,h=>by
    rcases mem_fold f x l _ h with h | ⟨d,hd,h⟩
    · have h':x∈acc.toList++f c:=by simpa using h
      rcases List.mem_append.mp h' with h | h
      · exact .inl h
      · exact .inr ⟨c,by simp,h⟩
    · exact .inr ⟨d,List.mem_cons_of_mem _ hd,h⟩
theorem quote_lt (x:Str):reprQuote x<1114112:=by
  unfold reprQuote
  split <;> decide
theorem ok_reprText {x:Str} (h:PyData.strOk x=true):PyData.strOk (reprText x)=true:=by
  rw[ok_iff] at *
  intro c hc
  unfold reprText at hc
  rw[Array.toList_push] at hc
  rcases List.mem_append.mp hc with hc | hc
  · rw[← Array.foldl_toList] at hc
    rcases mem_fold (Builtin.Str.reprChar (reprQuote x)) c _ _ hc with hc | ⟨d,hd,hc⟩
    · have:c=reprQuote x:=by simpa using hc
      rw[this];exact quote_lt x
    · exact reprChar_lt (h d hd) hc
  · rw[List.mem_singleton.mp hc];exact quote_lt x
theorem ok_sjoin (sep:Str) (hs:PyData.strOk sep=true) (ts:List Str) (h: ∀t∈ts,PyData.strOk t=true):PyData.strOk (Str.join sep ts)=true:=by
  rw[ok_iff]
  intro c hc
  rcases (mem_join sep c ts).mp hc with ⟨t,ht,hc⟩ | ⟨_,hc⟩
  · exact ok_iff.mp (h t ht) c hc
  · exact ok_iff.mp hs c hc
theorem ok_textFrom: ∀(ts:List Str) (k:Nat) (acc:Str),PyData.strOk acc=true→(∀t∈ts,PyData.strOk t=true)→PyData.strOk (textFrom k acc ts)=true
  | [],k,acc,h,_=>h
  | t::r,k,acc,h,g=>by
    show PyData.strOk (textFrom (k+1) _ r)=true
    exact ok_textFrom r (k+1) _ (ok_app (ok_app h (ok_ofString _)) (g t (by simp))) fun u hu=>g u (List.mem_cons_of_mem _ hu)
mutual
theorem ok_shown: ∀d:PyData,lay d=true→PyData.strOk d.shown=true
  | .none,_=>ok_ofString _
  | .bool b,_=>by cases b <;> exact ok_ofString _
  | .int i,_=>ok_ofString _
  | .str x,h=>by
    simp only[PyData.shown]
    exact ok_reprText (by simpa only[lay] using h)
  | .list xs,h=>by
    simp only[PyData.shown]
    exact ok_app (ok_textFrom _ _ _ (ok_ofString _) (ok_shownAll xs (by simpa only[lay] using h))) (ok_ofString _)
  | .tuple xs,h=>by
    simp only[PyData.shown]
    exact ok_app (ok_app (ok_ofString _) (ok_sjoin _ (ok_ofString _) _ (ok_shownAll xs (by simpa only[lay] using h)))) (ok_ofString _)
  | .dict kvs,h=>by
    simp only[PyData.shown]
    exact ok_app (ok_app (ok_ofString _) (ok_sjoin _ (ok_ofString _) _ (ok_shownKv kvs (by simpa only[lay] using h)))) (ok_ofString _)
theorem ok_shownAll: ∀xs:List PyData,layL xs=true→ ∀t∈PyData.shownAll xs,PyData.strOk t=true
  | [],_,t,ht=>by simp[PyData.shownAll] at ht
  | x::xs,h,t,ht=>by
    simp only[layL,Bool.and_eq_true] at h
    simp only[PyData.shownAll,List.mem_cons] at ht
    rcases ht with rfl | ht
    · exact ok_shown x h.1
    · exact ok_shownAll xs h.2 t ht
theorem ok_shownKv: ∀xs:List (PyData×PyData),layK xs=true→ ∀t∈PyData.shownKv xs,PyData.strOk t=true
  | [],_,t,ht=>by simp[PyData.shownKv] at ht
  | (k,v)::xs,h,t,ht=>by
    simp only[layK,Bool.and_eq_true] at h
    simp only[PyData.shownKv,List.mem_cons] at ht
    rcases ht with rfl | ht
    · exact ok_app (ok_app (ok_shown k h.1.1) (ok_ofString _)) (ok_shown v h.1.2)
    · exact ok_shownKv xs h.2 t ht
end
theorem Tame.text {d:PyData} {k n:Nat} (t:Tame d k n):Tame (.str d.shown) 1 (302 * n+300):=by
  have:=PyData.shown_le_bulk 300 (by decide) d t.short
  have:=t.bulk
  exact tame_str (by omega) (ok_shown d t.lay)
end PC

set_option Elab.async false
set_option linter.all false
set_option maxRecDepth 100000
set_option maxHeartbeats 2000000
namespace PC
open PySem PySem.Spec PySem.W PySem.Calls PyProof.Rows L2
open Builtin Builtin.ObjectAttr

structure ErrBase (B newId initId:String) (tl:List Value):Prop where
  f:ExcBaseFacts B newId initId tl
  pass: ∀x,refuseLoop x "__setattr__" tl=pure ()
  obj:tl.contains (.type "object")=true
  hand:handedIn (.builtin initId)=true
theorem eb_value:ErrBase "ValueError" "ValueError.__new__" "ValueError.__init__" [.type "ValueError",.type "Exception",.type "BaseException",.type "object"]:=
  ⟨F.excBase_ValueError,F.store_ValueError.passes,by decide +kernel,by first | rfl | decide +kernel⟩
theorem eb_arith:ErrBase "ArithmeticError" "ArithmeticError.__new__" "ArithmeticError.__init__" [.type "ArithmeticError",.type "Exception",.type "BaseException",.type "object"]:=
  ⟨F.excBase_ArithmeticError,F.store_ArithmeticError.passes,by decide +kernel,by first | rfl | decide +kernel⟩

theorem mro_has {C D:Addr} {tl:List Value} (T:String):(Value.ref C:: .ref D::tl).contains (.type T)=tl.contains (.type T):=by
  rw[List.contains_cons,List.contains_cons]
  rfl
theorem mro_has1 {D:Addr} {tl:List Value} (T:String):(Value.ref D::tl).contains (.type T)=tl.contains (.type T):=by
  rw[List.contains_cons]
  rfl

section
variable {prog : Program} {w : World} {A : Around} {R : Result → Shared → Prop}
  {u : Heap} {g : Array GenState} {dr : Drawn} {n : Nat} {os : OsState}
  {B newId initId : String} {tl : List Value}
theorem err_set {K:W.Frag} {f:Str} {tk:Tok} {v:Value} {x C D:Addr} {ox:Obj} {od:Option Obj} {cd:ClassData}
    (BB:ErrBase B newId initId tl) (X:K.In u) (J:W.InstAt u x ox C od)
    (hcd:W.clsIn K C=some cd) (hm:cd.mro= .ref C:: .ref D::tl) (hf:W.findIn K (.ref C) f=some none)
    (hq:wpAny (model prog w) A.in1 (storeInOwnDict (.ref x) (.ref C) (.str f tk) f v false)
      (fun fin s'=>match fin with
        | .done y=>R (.ok y) s'
        | .again c'=>c'.quiet=true∧codeAny (model prog w) A c' R s') (fun e s'=>R (.error e) s') ⟨u,g,dr,n,os⟩):
    codeAny (model prog w) A (.call (.builtin "object.__setattr__") ⟨[.ref x,.str f tk,v],[]⟩) R ⟨u,g,dr,n,os⟩:=by
  have S:=F.store_object
  have h1:cd.mro.contains (.type "object")=true:=by
    rw[hm,mro_has]
    exact BB.obj
  have h2:W.mroIn K C (.type "object")=some true:=by
    unfold W.mroIn
    rw[hcd,Option.bind_some,h1,hm]
    rfl
  have h3:W.Looks (model prog w) u (isInstance (.ref x) (.type "object")) true:=J.type.andThen (W.looks_mroIn X h2)
  have h4:W.Looks (model prog w) u (mroOf (.ref C)) cd.mro:=(W.looks_clsIn X hcd).andThen .now
  have h5:W.Looks (model prog w) u (storeTaker? none) none:= .now
  have h6:refuseLoop (.ref x) "__setattr__" cd.mro=pure ():=by
    rw[hm,refuseLoop_ref,refuseLoop_ref]
    exact BB.pass _
  refine codeAny_call_builtin S.slot.plain S.entry
    (@W.check_slot (model prog w) _ _ ⟨u,g,dr,n,os⟩ "object.__setattr__" "object" "__setattr__" (.ref x) [.str f tk,v] [] _
      S.kind S.split h3 (S.args (.ref x) (.str f tk) v) ?_)
  rw[W.osa_eq,refuse_eq]
  refine wpAny_bind (wpAny_bind (J.type.at (wpAny_bind (h4.at ?_))))
  rw[h6]
  exact wpAny_pure (wpAny_bind (J.type.at (wpAny_bind ((W.looks_findIn X hf).at (wpAny_bind (h5.at hq))))))
theorem err_set0 {K:W.Frag} {f:Str} {tk:Tok} {v:Value} {x C D:Addr} {fv:Array Value} {cd:ClassData}
    (BB:ErrBase B newId initId tl) (X:K.In u) (hx:u.get? x=some { cls:= .ref C,data:= .fields fv })
    (hcd:W.clsIn K C=some cd) (hm:cd.mro= .ref C:: .ref D::tl) (hd:cd.hasDict=true) (hf:W.findIn K (.ref C) f=some none)
    (hq: ∀u' n' dx,(∀b o,b≠x→u.get? b=some o→u'.get? b=some o)→u.objs.size≤dx→dx≠x→
      u'.get? x=some { cls:= .ref C,dict:=some dx,data:= .fields fv }→
      u'.Ns1 dx (fun y=>if y=f then some v else none)→R (.ok (.ret .none)) ⟨u',g,dr,n',os⟩):
    codeAny (model prog w) A (.call (.builtin "object.__setattr__") ⟨[.ref x,.str f tk,v],[]⟩) R ⟨u,g,dr,n,os⟩:=by
  have J:W.InstAt u x { cls:= .ref C,data:= .fields fv } C none:=⟨hx,rfl,rfl,trivial⟩
  have lt:x≠u.objs.size:=Nat.ne_of_lt (Heap.lt_size hx)
  refine err_set BB X J hcd hm hf ?_
  have hc:W.Looks (model prog w) u (classData C) cd:=W.looks_clsIn X hcd
  obtain⟨c1,c2,c3,c4,c5,c6,c7,c8,c9,c10,c11⟩:=cd
  dsimp only at hd
  subst hd
  unfold storeInOwnDict ownDictForStores
  repeat (first
    | with_reducible refine HandSPX.store_in_new ?_ ?_
    | with_reducible refine wpAny_loadPart_at hx ?_
    | with_reducible refine hc.at ?_
    | wp_step)
  · exact⟨_,#[],_,(Heap.get?_update_ne _ _ _ _ lt.symm).trans (Heap.get?_push_at rfl rfl),rfl,
      fun e he=>absurd he (by simp),fun _=>rfl⟩
  · intro u' n' hn hs
    have hx':(u.push { cls:= .type "dict",data:= .dict #[] }).get? x=some { cls:= .ref C,data:= .fields fv }:=
      Heap.get?_push_of_some _ hx
    refine hq u' n' u.objs.size (fun b o hb ho=> ?_) (Nat.le_refl _) lt.symm ?_ hn
    · exact (hs.2 b (Nat.ne_of_lt (Heap.lt_size ho))).trans
        ((Heap.get?_update_ne _ _ _ _ hb).trans (Heap.get?_push_of_some _ ho))
    · exact (hs.2 x lt).trans (Heap.get?_update_self _ hx' rfl)
theorem put_in {M:Model} {A:Around} {E:Value→Shared→Prop} {dx:Addr} {f:Str} {tk:Tok} {v:Value}
    {m0:Str→Option Value} {ns:List Str} {Q:Fin→Shared→Prop} (hn:u.Ns1 dx m0) (hw:Within m0 ns) (hz:ns.length≤1000)
    (hq: ∀u' n',u'.Ns1 dx (fun y=>if y=f then some v else m0 y)→Heap.SameBut dx u u'→Q (.done (.ret .none)) ⟨u',g,dr,n',os⟩):
    wpAny M A (storeInDict dx (.str f tk) f v) Q E ⟨u,g,dr,n,os⟩:=by
  unfold storeInDict newKeyGuard
  refine wpAny_bind (wpAny_pure (wpAny_bind (wpAny_nsSet1 hn fun u' hn' hs=> ?_)))
  obtain⟨o1,e1,p1,ho1,hd1,hc1⟩:=hn'.count (Within.cons f v hw)
  have few:e1.size≤sizeLine:=by
    refine Nat.le_trans hc1 ?_
    rw[List.length_cons,sizeLine_eq]
    omega
  refine wpAny_bind (wpAny_lookBehind ho1 (by rw[hd1];exact pastItsLine_dict (Nat.le_succ_of_le few)) ?_)
  wp_walk
  exact hq u' _ hn' hs
theorem err_set1 {K:W.Frag} {f:Str} {tk:Tok} {v:Value} {x C D dx:Addr} {fv:Array Value} {cd:ClassData}
    {m0:Str→Option Value} {ns:List Str}
    (BB:ErrBase B newId initId tl) (X:K.In u) (hx:u.get? x=some { cls:= .ref C,dict:=some dx,data:= .fields fv })
    (hn:u.Ns1 dx m0) (hw:Within m0 ns) (hz:ns.length≤1000)
    (hcd:W.clsIn K C=some cd) (hm:cd.mro= .ref C:: .ref D::tl) (hd:cd.hasDict=true) (hf:W.findIn K (.ref C) f=some none)
    (hq: ∀u' n',(∀b o,b≠dx→u.get? b=some o→u'.get? b=some o)→
      u'.Ns1 dx (fun y=>if y=f then some v else m0 y)→R (.ok (.ret .none)) ⟨u',g,dr,n',os⟩):
    codeAny (model prog w) A (.call (.builtin "object.__setattr__") ⟨[.ref x,.str f tk,v],[]⟩) R ⟨u,g,dr,n,os⟩:=by
  obtain⟨o1,e1,p1,ho1,hd1,hc1⟩:=hn.count hw
  have J:W.InstAt u x { cls:= .ref C,dict:=some dx,data:= .fields fv } C (some o1):=⟨hx,rfl,rfl,ho1⟩
  refine err_set BB X J hcd hm hf ?_
  have hc:W.Looks (model prog w) u (classData C) cd:=W.looks_clsIn X hcd
  obtain⟨c1,c2,c3,c4,c5,c6,c7,c8,c9,c10,c11⟩:=cd
  dsimp only at hd
  subst hd
  unfold storeInOwnDict ownDictForStores
  repeat (first
    | with_reducible refine put_in hn hw hz ?_
    | with_reducible refine wpAny_loadPart_at hx ?_
    | with_reducible refine hc.at ?_
    | wp_step)
  intro u' n' hn' hs
  exact hq u' n' (fun b o hb ho=>(hs.2 b hb).trans ho) hn'
end

abbrev P4:=Pos×Pos×Pos×Pos
def erSt (f:Str) (p:P4):Stmt:= .Assign [.Attribute (.Name "self" p.1) f p.2.1] (.Name f p.2.2.1) p.2.2.2
structure ErDef (st:Stmt) (qual base:Str) (f:Str) (fs:List Str):Prop where
  bind: ∀(kV doc pm:Value) (an:Option Addr) (cdv ct:Value) (us:List Value),us.length=(f::fs).length+1→
    bindArgs (fnOf "__init__" qual (defArgs st) (defBody st) (defScope st) .none kV doc pm an cdv ct) ⟨us,[]⟩=pure ((("self" :Str)::f::fs).zip us)
  co:(defScope st).isCoroutine=false
  gen:(defScope st).isGenerator=false
  kind:(defScope st).kind= .function
  loc: ∀y∈(("self" :Str)::f::fs),(defScope st).names.lookup y=some .local
  glo:(defScope st).names.lookup base=some .globalImplicit
  nd:(("self" :Str)::f::fs).Nodup
  few:fs.length≤100
  ndb:((f == ("__debug__" :Str))=false)∧(∀y∈fs,(y == ("__debug__" :Str))=false)∧(base == ("__debug__" :Str))=false
  hi: ∀(L a:Addr) (cd:Value),interactive (envOfC qual (defScope st) L a cd)=false
  body: ∃(text:Str) (j:Nat) (q1 q2 q3 q4 q5 q6:Pos) (r:P4) (rs:List P4) (pl:Addr→Addr→Value→Sem Bool),rs.length=fs.length∧
    (∀(L a:Addr) (cd:Value),eval (.Call (.Attribute (.Name base q1) "__init__" q2) [.Name "self" q3,.Constant (.str text) j q4] [] q5) (envOfC qual (defScope st) L a cd)=(do
      let ov ← eval (.Name base q1) (envOfC qual (defScope st) L a cd)
      standAt q2.atName
      let (m,first) ← holding [ov] (getMethod ov "__init__" (pl L a cd))
      callWith q5 m first (backTo q5 (starEach [.Name "self" q3,.Constant (.str text) j q4] (envOfC qual (defScope st) L a cd)))
        (backToKw q5 (keywordEach [] (envOfC qual (defScope st) L a cd)))))∧
    defBody st= .Expr (.Call (.Attribute (.Name base q1) "__init__" q2) [.Name "self" q3,.Constant (.str text) j q4] [] q5) q6::
      erSt f r::(fs.zip rs).map fun y=>erSt y.1 y.2
structure ErrT (K:Frag) (mg:Str→Option Value) (nm base:Str) (B newId initId:String) (tl:List Value) (f:Str) (fs:List Str)
    (C D fI:Addr) (st:Stmt):Prop where
  bb:ErrBase B newId initId tl
  gC:mg nm=some (.ref C)
  gD:mg base=some (.ref D)
  cls: ∃n1 q N bs sn sub ab col dd k0 k1 k2 k3 k5,
    K.lookup C=some (excClassObj n1 q C N bs (.ref D::tl) true sn sub ab col dd k0 k1 k2 k3 k5 newId)
  sa:findIn K (.ref C) "__setattr__" =some (some (.builtin "object.__setattr__"))
  noF: ∀y∈f::fs,findIn K (.ref C) y=some none
  iC:findIn K (.ref C) "__init__" =some (some (.ref fI))
  tI:typeIn K (.ref fI)=some (.type "function")
  kC:keepIn K (.ref C)=true
  eC:subIn K (.ref C) (.type "BaseException")=some true
  tC:typeIn K (.ref C)=some (.type "type")
  rD:readsIn K D (.type "type")=true
  gaD:specialIn K (.ref D) "__getattribute__" =some (some (.builtin "type.__getattribute__"))
  iD:findCls K (.ref D) (.type "type") "__init__" =some (.val (.builtin initId))
  fn: ∃(qual:Str) (oc:Value) (od:Option Addr) (kV doc pm:Value) (an:Option Addr) (cdv ct:Value) (osl:Array (Option Value)),
    K.lookup fI=some ⟨oc,od,.func (fnOf "__init__" qual (defArgs st) (defBody st) (defScope st) .none kV doc pm an cdv ct),osl⟩∧
    codeIn K cdv qual=true∧ErDef st qual base f fs

theorem bindL_get {k:Str→Option NameKind}: ∀(r:List (Str×Value)) (m:Str→Option Value),(∀y∈r,k y.1=some .local)→
    (r.map (·.1)).Nodup→ ∀n,(n ∉ r.map (·.1)→bindL k r m n=m n)∧ ∀v,(n,v)∈r→bindL k r m n=some v:=by
  intro r
  induction r with
  | nil=>exact fun m _ _ n=>⟨fun _=>rfl,fun v h=>by cases h⟩
  | cons y r ih=>
    obtain⟨x,u⟩:=y
    intro m hk hn n
    rw[List.map_cons,List.nodup_cons] at hn
    have hx:k x=some .local:=hk (x,u) List.mem_cons_self
    obtain⟨i1,i2⟩:=ih (fun y=>if y=x then some u else m y) (fun y hy=>hk y (List.mem_cons_of_mem _ hy)) hn.2 n
    have e:bindL k ((x,u)::r) m=bindL k r (fun y=>if y=x then some u else m y):=by
      show bindL k r (if k x=some .local then _ else m)=_
      rw[if_pos hx]
    rw[e]
    refine⟨fun h=> ?_,fun v h=> ?_⟩
    · rw[List.map_cons,List.mem_cons,not_or] at h
      rw[i1 h.2,if_neg h.1]
    · rcases List.mem_cons.mp h with q | q
      · cases q
        rw[i1 hn.1,if_pos rfl]
      · exact i2 v q
theorem ns1_put {u:Heap} {dx:Addr} {f:Str} {v:Value} {acc:List (Str×Value)}
    (h:u.Ns1 dx (fun y=>if y=f then some v else acc.lookup y)):u.Ns1 dx fun y=>((f,v)::acc).lookup y:=by
  have e:(fun y=>((f,v)::acc).lookup y)=fun y=>if y=f then some v else acc.lookup y:=by
    funext y
    by_cases c:y=f
    · subst c
      simp[List.lookup]
    · have c':(y == f)=false:=by simpa using c
      rw[if_neg c]
      simp[List.lookup,c']
  rw[e]
  exact h
theorem within_lk {acc:List (Str×Value)}:Within (fun y=>acc.lookup y) (acc.map (·.1)):=by
  intro y h
  induction acc with
  | nil=>exact absurd rfl h
  | cons p r ih=>
    obtain⟨f,v⟩:=p
    by_cases c:y=f
    · subst c
      exact List.mem_cons_self
    · have c':(y == f)=false:=by simpa using c
      refine List.mem_cons_of_mem _ (ih ?_)
      have e:((f,v)::r).lookup y=r.lookup y:=by simp[List.lookup,c']
      exact fun z=>h (e.trans z)
theorem zip3 {α β γ δ:Type} (g:α×β→δ): ∀(fs:List α) (rs:List β) (vs:List γ),rs.length=fs.length→vs.length=fs.length→
    (fs.zip rs).map g=((fs.zip rs).zip vs).map (fun y=>g y.1)∧((fs.zip rs).zip vs).map (fun y=>(y.1.1,y.2))=fs.zip vs∧
    ∀y∈(fs.zip rs).zip vs,y.1.1∈fs∧(y.1.1,y.2)∈fs.zip vs
  | [],_,_,_,_=>⟨rfl,rfl,fun _ h=>by cases h⟩
  | a::fs,b::rs,c::vs,h1,h2=>by
    obtain⟨i1,i2,i3⟩:=zip3 g fs rs vs (Nat.succ.inj h1) (Nat.succ.inj h2)
    refine⟨?_,?_,fun y hy=> ?_⟩
    · show g (a,b)::(fs.zip rs).map g=g (a,b)::((fs.zip rs).zip vs).map (fun y=>g y.1)
      rw[i1]
    · show (a,c)::((fs.zip rs).zip vs).map (fun y=>(y.1.1,y.2))=(a,c)::fs.zip vs
      rw[i2]
    · rcases List.mem_cons.mp (show y∈((a,b),c)::(fs.zip rs).zip vs from hy) with e | e
      · subst e
        exact⟨List.mem_cons_self,List.mem_cons_self⟩
      · exact⟨List.mem_cons_of_mem _ (i3 y e).1,List.mem_cons_of_mem _ (i3 y e).2⟩
theorem kin_but {K:Frag} {u u':Heap} {x:Addr} (X:K.In u) (hx:K.lookup x=none)
    (k: ∀b o,b≠x→u.get? b=some o→u'.get? b=some o):K.In u':=fun b o e=>
  k b o (fun z=>by rw[z,hx] at e;cases e) (X b o e)
theorem ns_but {u u':Heap} {x L:Addr} {m:Str→Option Value} (h:u.Ns L m) (hx:L≠x)
    (k: ∀b o,b≠x→u.get? b=some o→u'.get? b=some o):u'.Ns L m:=h.at fun o e=>k L o hx e

section
variable {prog : Program} {w : World} {A : Around} {E : Value → Shared → Prop} {s : Shared} {K : Frag} {mg : Str → Option Value}
  {nm base : Str} {B newId initId : String} {tl : List Value} {f : Str} {fs : List Str} {C D fI : Addr} {st : Stmt}
theorem ld_l {M:Model} {env:Env} {m:Str→Option Value} {x:Str} {pos:Pos} {v:Value} {Q:Value→Shared→Prop}
    (hn:s.heap.Ns env.locals m) (hv:m x=some v) (hk:env.scope.kind= .function) (hl:env.kindOf x=some .local)
    (hd:(x == ("__debug__" :Str))=false) (h:Q v s):wpAny M A (eval (.Name x pos) env) Q E s:=
  wpAny_Name (wpAny_loadName_local hk hl hn hv h) hd
structure ErMade (h h':Heap) (e C d:Addr) (acc:List (Str×Value)):Prop where
  keep: ∀b o,h.get? b=some o→h'.get? b=some o
  new:h.objs.size≤e
  obj: ∃t,h'.get? e=some { cls:= .ref C,dict:=some d,data:= .fields #[.ref t,.none,.none,.none,.bool false,.none] }
  dbig:h.objs.size≤d
  dne:d≠e
  ns:h'.Ns1 d fun y=>acc.lookup y
theorem er_stores (T:ErrT K mg nm base B newId initId tl f fs C D fI st) {env:Env} {x dx:Addr} {m:Str→Option Value} {fv:Array Value}
    (hkd:env.scope.kind= .function) (hs:m "self" =some (.ref x)) (hks:env.kindOf "self" =some .local)
    (hLx:env.locals≠dx) (hKd:K.lookup dx=none) (hxd:x≠dx):
    ∀(ys:List ((Str×P4)×Value)) (acc:List (Str×Value)) (s:Shared) (Q:Flow→Shared→Prop),
      K.In s.heap→s.heap.Ns env.locals m→(∀y∈ys,m y.1.1=some y.2∧env.kindOf y.1.1=some .local∧
        findIn K (.ref C) y.1.1=some none∧(y.1.1 == ("__debug__" :Str))=false)→
      s.heap.get? x=some { cls:= .ref C,dict:=some dx,data:= .fields fv }→(s.heap.Ns1 dx fun y=>acc.lookup y)→
      acc.length+ys.length≤1000→
      (∀h' tk,(∀b o,b≠dx→s.heap.get? b=some o→h'.get? b=some o)→
        (h'.Ns1 dx fun y=>((ys.map fun y=>(y.1.1,y.2)).reverse++acc).lookup y)→Q .next { s with heap:=h',toks:=tk })→
      wpAny (model prog w) A (execs (ys.map fun y=>erSt y.1.1 y.1.2) env) Q E s
  | [],acc,s,Q,X,hn,hy,hx,h1,hz,hq=>wpAny_execs_nil (hq s.heap s.toks (fun _ _ _ e=>e) (by simpa using h1))
  | y::ys,acc,s,Q,X,hn,hy,hx,h1,hz,hq=>by
    obtain⟨n1,q,N,bs,sn,sub,ab,col,dd,k0,k1,k2,k3,k5,hC⟩:=T.cls
    have hcl:clsIn K C=some { name:=n1,bases:=bs,mro:= .ref C:: .ref D::tl,ns:=N,qualname:=q,hasDict:=true,slotNames:=sn,subclasses:=sub,abstract:=ab,collection:=col,hasDel:=false }:=by
      unfold clsIn
      rw[hC] <;> rfl
    obtain⟨y1,y2,y3,y4⟩:=hy y List.mem_cons_self
    obtain⟨o1,e1,p1,ho1,_,_⟩:=h1.count within_lk
    show wpAny _ _ (execs (erSt y.1.1 y.1.2::_) env) _ _ _
    refine wpAny_execs_cons (plainObj_wpAny_Assign_Attribute ?_ (by rfl))
    refine ld_l hn y1 hkd y2 y4 (ld_l hn hs hkd hks (by decide) ?_)
    refine set_plain X (ox:= { cls:= .ref C,dict:=some dx,data:= .fields fv }) (od:=some o1) ⟨hx,rfl,rfl,ho1⟩ T.sa ?_
    refine err_set1 T.bb X hx h1 within_lk (by rw[List.length_map];omega) hcl rfl rfl y3 (fun u' n' k hn'=> ?_)
    show wpAny _ _ (execs _ _) _ _ _
    refine er_stores T hkd hs hks hLx hKd hxd ys ((y.1.1,y.2)::acc) { s with heap:=u',toks:=n' } Q (kin_but X hKd k)
      (ns_but hn hLx k) (fun z hz=>hy z (List.mem_cons_of_mem _ hz)) (k _ _ hxd hx) (ns1_put hn')
      (by rw[List.length_cons] at hz ⊢;omega) (fun h' tk k' hn2=> ?_)
    refine hq h' tk (fun b o hb e=>k' b o hb (k b o hb e)) ?_
    have e:((y::ys).map fun y=>(y.1.1,y.2)).reverse++acc=((ys.map fun y=>(y.1.1,y.2)).reverse)++(y.1.1,y.2)::acc:=by
      rw[List.map_cons,List.reverse_cons,List.append_assoc]
      rfl
    rw[e]
    exact hn2
theorem er_init (T:ErrT K mg nm base B newId initId tl f fs C D fI st) {R:Result→Shared→Prop} {x t0:Addr} {v:Value} {vs:List Value}
    (X:K.In s.heap) (hg:s.heap.Ns mainGlobals mg) (hgx:mainGlobals≠x) (hlim:s.heap.NoLimit) (hx:s.heap.get? x=some (HandSPX.excO C t0))
    (hnx:K.lookup x=none) (hroom:A.depth<recursionLimit) (hl:vs.length=fs.length)
    (hq: ∀h' tk dx t1,(∀b o,b≠x→s.heap.get? b=some o→h'.get? b=some o)→
      h'.get? x=some { cls:= .ref C,dict:=some dx,data:= .fields #[.ref t1,.none,.none,.none,.bool false,.none] }→
      s.heap.objs.size≤dx→dx≠x→(h'.Ns1 dx fun y=>((fs.zip vs).reverse++ [(f,v)]).lookup y)→R (.ok (.ret .none)) { s with heap:=h',toks:=tk }):
    codeAny (model prog w) A (.call (.ref fI) ⟨.ref x::v::vs,[]⟩) R s:=by
  obtain⟨qual,oc,od,kV,doc,pm,an,cdv,ct,osl,ho,hcd,df⟩:=T.fn
  obtain⟨n1,q,N,bs,sn,sub,ab,col,dd,k0,k1,k2,k3,k5,hC⟩:=T.cls
  have hcl:clsIn K C=some { name:=n1,bases:=bs,mro:= .ref C:: .ref D::tl,ns:=N,qualname:=q,hasDict:=true,slotNames:=sn,subclasses:=sub,abstract:=ab,collection:=col,hasDel:=false }:=by
    unfold clsIn
    rw[hC] <;> rfl
  obtain⟨text,j,q1,q2,q3,q4,q5,q6,r,rs,pl,hrs,hev,hbd⟩:=df.body
  have hzl:(("self" :Str)::f::fs).length=(Value.ref x::v::vs).length:=by simp[hl]
  have all: ∀y∈(("self" :Str)::f::fs).zip (Value.ref x::v::vs),(defScope st).names.lookup y.1=some .local:=by
    rintro ⟨y1,y2⟩ hy
    exact df.loc y1 (List.of_mem_zip hy).1
  refine Att.call_fn (binds:=(("self" :Str)::f::fs).zip (.ref x::v::vs)) X hlim ho hcd hroom
    (BindsTo.of_eq (df.bind _ _ _ _ _ _ _ (by simp[hl]))) (List.all_eq_true.mpr fun y hy=> ?_) (fun s₁ IC=> ?_) df.co df.gen df.kind
  · rw[all y hy]
    rfl
  obtain⟨h₁,tk₁,rfl⟩:=IC.toInCall.same
  have k: ∀b o,s.heap.get? b=some o→h₁.get? b=some o:=IC.toInCall.keep
  have hn:=IC.toInCall.ns
  have hxL:s.heap.objs.size≠x:=Nat.ne_of_gt (Heap.lt_size hx)
  have X₁:K.In h₁:=X.keeps k
  have hx₁:=k _ _ hx
  have hg₁:h₁.Ns mainGlobals mg:=hg.keeps k
  have hmk:((("self" :Str)::f::fs).zip (Value.ref x::v::vs)).map (·.1)=("self" :Str)::f::fs:=List.map_fst_zip (Nat.le_of_eq hzl)
  have get: ∀n u,(n,u)∈(("self" :Str)::f::fs).zip (Value.ref x::v::vs)→bindL (envOfC qual (defScope st) s.heap.objs.size fI cdv).kindOf
      ((("self" :Str)::f::fs).zip (Value.ref x::v::vs)) (fun _=>none) n=some u:=fun n u h=>
    (bindL_get _ _ all (by rw[hmk];exact df.nd) n).2 u h
  have hself:=get "self" (.ref x) List.mem_cons_self
  have hf:=get f v (List.mem_cons_of_mem _ List.mem_cons_self)
  have kl: ∀y∈(("self" :Str)::f::fs),(envOfC qual (defScope st) s.heap.objs.size fI cdv).kindOf y=some .local:=df.loc
  rw[hbd]
  show wpAny _ _ (execs _ _) _ _ _
  -- Base.__init__(self,text)
  refine wpAny_execs_cons (wpAny_Expr_any (methodCall_KW ?_ (hev _ _ _)) (df.hi _ _ _) (by rfl))
  refine Name_function_global (env:=envOfC qual (defScope st) s.heap.objs.size fI cdv) df.kind df.glo
    (loadGlobal_global (s:= { s with heap:=h₁,toks:=tk₁ }) (env:=envOfC qual (defScope st) s.heap.objs.size fI cdv) hg₁ T.gD ?_) df.ndb.2.2
  refine method_cls X₁ T.gaD (cls_value X₁ T.rD T.iD T.bb.hand ?_)
  refine callWith_method1 (spliced_more (ld_l hn hself df.kind (kl _ List.mem_cons_self) (by decide) (spliced_more (Constant_str (spliced_none ?_))))) (by rfl) (by rfl)
  refine wpAny_call (HandSPX.init_base T.bb.f (fun Y=>mro_has1 Y) (X₁ _ _ hC) hx₁ ?_ fun h₂ t2 k2 hx₂=> ?_)
  · rw[sizeLine_eq]
    exact (by decide:1≤16777216)
  have X₂:K.In h₂:=kin_but X₁ hnx k2
  have hn₂:=ns_but hn hxL k2
  -- the first field
  show wpAny _ _ (execs (erSt f r::_) _) _ _ _
  refine wpAny_execs_cons (plainObj_wpAny_Assign_Attribute ?_ (by rfl))
  refine ld_l hn₂ hf df.kind (kl _ (List.mem_cons_of_mem _ List.mem_cons_self)) df.ndb.1 (ld_l hn₂ hself df.kind (kl _ List.mem_cons_self) (by decide) ?_)
  refine set_plain X₂ (ox:=HandSPX.excO C t2) (od:=none) ⟨hx₂,rfl,rfl,trivial⟩ T.sa ?_
  refine err_set0 T.bb X₂ hx₂ hcl rfl rfl (T.noF f List.mem_cons_self) (fun h₃ tk₃ dx k₃ dn dne hx₃ hn₃=> ?_)
  show wpAny _ _ (execs _ _) _ _ _
  have keep2: ∀b o,b≠x→s.heap.get? b=some o→h₂.get? b=some o:=fun b o hb e=>k2 b o hb (k b o e)
  have L2:s.heap.objs.size<h₂.objs.size:=hn₂.lt
  have big:s.heap.objs.size≤dx:=Nat.le_trans (Nat.le_of_lt L2) dn
  have hKd:K.lookup dx=none:=by
    cases e:K.lookup dx with
    | none=>rfl
    | some o=>exact absurd (Heap.lt_size (X _ _ e)) (Nat.not_lt.mpr big)
  obtain⟨eqs,eqn,eqm⟩:=zip3 (fun y:Str×P4=>erSt y.1 y.2) fs rs vs hrs hl
  rw[eqs]
  refine er_stores T (x:=x) (dx:=dx) df.kind hself (kl _ List.mem_cons_self) (Nat.ne_of_lt (Nat.lt_of_lt_of_le L2 dn)) hKd (Ne.symm dne) _ [(f,v)] _ _ (kin_but X₂ hnx k₃) (ns_but hn₂ hxL k₃)
    (fun y hy=> ?_) hx₃ (ns1_put hn₃) (by have:=df.few;simp[List.length_zip];omega) (fun h' tk k4 hn4=> ?_)
  · obtain⟨m1,m2⟩:=eqm y hy
    exact⟨get _ _ (List.mem_cons_of_mem _ (List.mem_cons_of_mem _ m2)),kl _ (List.mem_cons_of_mem _ (List.mem_cons_of_mem _ m1)),
      T.noF _ (List.mem_cons_of_mem _ m1),df.ndb.2.1 _ m1⟩
  · refine hq h' tk dx t2 (fun b o hb e=>k4 b o ?_ (k₃ b o hb (keep2 b o hb e))) (k4 _ _ (Ne.symm dne) hx₃) big dne ?_
    · exact Nat.ne_of_lt (Nat.lt_of_lt_of_le (Heap.lt_size e) big)
    · rw[← eqn]
      exact hn4
end
section
variable {prog : Program} {w : World} {A : Around} {E : Value → Shared → Prop} {s : Shared} {K : Frag} {mg : Str → Option Value}
  {nm base : Str} {B newId initId : String} {tl : List Value} {f : Str} {fs : List Str} {C D fI : Addr} {st : Stmt}
theorem er_made (T:ErrT K mg nm base B newId initId tl f fs C D fI st) {R:Result→Shared→Prop} {v:Value} {vs:List Value}
    (X:K.In s.heap) (hg:s.heap.Ns mainGlobals mg) (hlim:s.heap.NoLimit) (hroom:A.depth+1<recursionLimit) (hl:vs.length=fs.length)
    (hq: ∀h' tk e d,ErMade s.heap h' e C d ((fs.zip vs).reverse++ [(f,v)])→R (.ok (.ret (.ref e))) { s with heap:=h',toks:=tk }):
    codeAny (model prog w) A (.call (.ref C) ⟨v::vs,[]⟩) R s:=by
  obtain⟨n1,q,N,bs,sn,sub,ab,col,dd,k0,k1,k2,k3,k5,hC⟩:=T.cls
  obtain⟨_,_,_,_,_,_,_,_,_,_,_,_,df⟩:=T.fn
  obtain⟨u,g,dr,tk,os⟩:=s
  have old: ∀b o,u.get? b=some o→((u.push (kdv_tup (v::vs))).push (HandSPX.excO C u.objs.size)).get? b=some o:=
    fun b o e=>Heap.get?_push_of_some _ (Heap.get?_push_of_some _ e)
  have hget:((u.push (kdv_tup (v::vs))).push (HandSPX.excO C u.objs.size)).get? (u.objs.size+1)=some (HandSPX.excO C u.objs.size):=by
    heap_get
  have fresh: ∀ {b:Addr} {o:Obj},u.get? b=some o→b≠u.objs.size+1:=fun e=>
    Nat.ne_of_lt (Nat.lt_succ_of_lt (Heap.lt_size e))
  have hnx:K.lookup (u.objs.size+1)=none:=by
    cases e:K.lookup (u.objs.size+1) with
    | none=>rfl
    | some o=>exact absurd rfl (fresh (X _ _ e))
  have few:(v::vs).length≤sizeLine:=by
    have:=df.few
    rw[List.length_cons,hl,sizeLine_eq]
    omega
  refine HandSPX.call_own T.bb.f (fun Y=>mro_has1 Y) (X _ _ hC) (looks_findIn X T.iC) (fun self=>bind_fn X self T.tI) few ?_
  refine er_init (s:=⟨(u.push (kdv_tup (v::vs))).push (HandSPX.excO C u.objs.size),g,dr,tk,os⟩) T (X.keeps old) (hg.keeps old) ?_
    (hlim.keeps old) hget hnx ?_ hl fun h' tk' dx t1 k' hx dn dne hns=> ?_
  · obtain⟨o,_,_,e,_⟩:=hg
    exact fresh e
  · show A.depth+1<recursionLimit
    exact hroom
  · have z:u.objs.size+1+1≤dx:=by
      have q:=dn
      simp only[Heap.size_push] at q
      exact q
    exact⟨rfl,hq h' tk' (u.objs.size+1) dx ⟨fun b o e=>k' b o (fresh e) (old b o e),Nat.le_succ _,⟨t1,hx⟩,Nat.le_of_succ_le (Nat.le_of_succ_le z),dne,hns⟩⟩
end

theorem rel_nil (y:Str):RelO (([]:List (Str×V)).lookup y) (([]:List (Str×Value)).lookup y):=trivial
theorem rel_cons {a:List (Str×V)} {b:List (Str×Value)} {f:Str} {v:V} {u:Value} (r:RelV v u)
    (h: ∀y,RelO (a.lookup y) (b.lookup y)) (y:Str):RelO (((f,v)::a).lookup y) (((f,u)::b).lookup y):=by
  by_cases c:y=f
  · subst c
    have e1:((y,v)::a).lookup y=some v:=by simp[List.lookup]
    have e2:((y,u)::b).lookup y=some u:=by simp[List.lookup]
    rw[e1,e2]
    exact r
  · have c':(y == f)=false:=by simpa using c
    have q:=h y
    simpa [List.lookup,c'] using q
def ErRel (f:Str) (fs:List Str):Prop:= ∀(v:V) (u:Value) (ws:List V) (us:List Value),RelV v u→Vals ws us→ws.length=fs.length→
  ∀y,RelO (((fs.zip ws).reverse++ [(f,v)]).lookup y) (((fs.zip us).reverse++ [(f,u)]).lookup y)
theorem er_rel1 {f:Str}:ErRel f []:=fun v u ws us r _ _=>rel_cons r rel_nil
def tErr (C:Addr) (f:Str) (fs:List Str) (ta:TA):L2.St→Hp→XK→Prop:=fun σ H Q=>ta σ H fun vs H1=>
  ∃v ws,vs=v::ws∧ws.length=fs.length∧ ∀d,H1 d=none→Q (.ref C) (some d) (upd H1 d (.xd ((fs.zip ws).reverse++ [(f,v)])))
section
variable {X : Cx} {nm base : Str} {B newId initId : String} {tl : List Value} {f : Str} {fs : List Str} {C D fI : Addr} {st : Stmt}
theorem pmk_err {e:Expr} {es:List Expr} {ta:TA} {p pos:Pos} {k:Nat} (T:ErrT X.K X.mg nm base B newId initId tl f fs C D fI st)
    (rel:ErRel f fs) (hr:Room (k+1) X.A) (ha:PA X (e::es) ta) (hg:Gl X nm) (hdb:(nm == ("__debug__" :Str))=false:=by decide)
    (he:starEach (e::es) X.env=(false,eval e X.env)::starEach es X.env:=by rfl)
    (hpl:(backTo pos (starEach es X.env)).any (·.1)=false:=by rfl):
    PMk X (.Call (.Name nm p) (e::es) [] pos) (tErr C f fs ta):=by
  intro pins s σ H Q I h
  refine wpAny_Call_Name_kw (ld_glob I hg T.gC ?_ hdb)
  refine callWith_K (h₀:=X.base) I.ok.mod.kin T.kC (thn (ha.run pos pins s σ H _ I h) fun us s1 hh=> ?_) he hpl
  obtain⟨vs,H1,I1,r1,v,ws,ev,hl,q1⟩:=hh
  subst ev
  refine⟨I1.kIn,?_⟩
  cases r1 with
  | @cons _ u0 _ ur rv rw=>
    have hlu:ur.length=fs.length:=(Paired.length rw).symm.trans hl
    have hlim:=I1.nolimit
    have hgl:s1.heap.Ns mainGlobals X.mg:=I1.mod.glob.keeps I1.bk
    obtain⟨u,g,dr,tk,os⟩:=s1
    refine wpAny_call (er_made T I1.kIn hgl hlim (by have:=hr.dp;omega) hlu fun h' tk' a d M=> ?_)
    show MkP X pins σ Q (.ref a) ⟨h',g,dr,tk',os⟩
    obtain⟨t1,hoe⟩:=M.obj
    obtain⟨G,g1,g2⟩:=restrict h' fun b=>decide (b≠a)
    have ga: ∀b,b≠a→G.get? b=h'.get? b:=fun b hb=>g1 b (decide_eq_true hb)
    have gn:G.get? a=none:=g2 a (by simp)
    have old: ∀b o,u.get? b=some o→G.get? b=some o:=fun b o z=>
      (ga b (Nat.ne_of_lt (Nat.lt_of_lt_of_le (Heap.lt_size z) M.new))).trans (M.keep b o z)
    have ob:ObjOk X.prog X.w (upd H1 d (.xd ((fs.zip ws).reverse++ [(f,v)]))) G d (.xd ((fs.zip ws).reverse++ [(f,v)])):=
      ⟨_,M.ns.at (fun o z=>(ga d M.dne).trans z),rel v u0 ws ur rv rw hl⟩
    have J:Inv X pins σ (upd H1 d (.xd ((fs.zip ws).reverse++ [(f,v)]))) ⟨G,g,dr,tk',os⟩:=I1.laid (t':=tk') old M.dbig ob
    refine⟨a,_,_,⟨G,g,dr,tk',os⟩,_,.ref C,some d,rfl,J,fun b o z=> ?_,gn,hoe,⟨rfl,rfl⟩,rfl,rfl,?_,rfl,I1.bare,
      raises_own T.eC T.tC,q1 d (I1.hok.fresh M.dbig)⟩
    · by_cases hb:b=a
      · subst hb
        have z':G.get? b=some o:=z
        rw[gn] at z'
        cases z'
      · exact (ga b hb).symm.trans z
    · rw[upd_ne (Ne.symm M.dne)]
      exact I1.hok.fresh M.new
theorem ps_err {e:Expr} {es:List Expr} {ta:TA} {W:WX} {p pos pos2:Pos} {k:Nat} (hc:X.calm=true)
    (T:ErrT X.K X.mg nm base B newId initId tl f fs C D fI st) (rel:ErRel f fs) (hr:Room (k+1) X.A) (tk:Takes X W)
    (ha:PA X (e::es) ta) (hg:Gl X nm) (hdb:(nm == ("__debug__" :Str))=false:=by decide)
    (he:starEach (e::es) X.env=(false,eval e X.env)::starEach es X.env:=by rfl)
    (hpl:(backTo pos (starEach es X.env)).any (·.1)=false:=by rfl):
    PS X (.Raise (some (.Call (.Name nm p) (e::es) [] pos)) none pos2) (fun _ σ H=>tErr C f fs ta σ H fun cls d H'=>W cls d σ H'):=
  ps_raise hc tk (pmk_err T rel hr ha hg hdb he hpl)
end

structure ErrQ (K:Frag) (C:Addr):Prop where
  ga:findIn K (.ref C) "__getattribute__" =some (some (.builtin "BaseException.__getattribute__"))
  gg:findIn K (.ref C) "__getattr__" =some none
  eC:subIn K (.ref C) (.type "BaseException")=some true
  hd:hasDictIn K C=true
  ic:isClsIn K C=true
  tC:typeIn K (.ref C)=some (.type "type")
  ca:findIn K (.ref C) "__class__" =some (some (.builtin "object.__class__"))
  ob:mroIn K C (.type "object")=some true
  me:subIn K (.ref C) (.ref C)=some true
structure ClsQ (K:Frag):Prop where
  get:specialIn K (.builtin "object.__class__") "__get__" =some (some (.builtin "getset_descriptor.__get__"))
  tk:takesIn K (.builtin "object.__class__")=some true
theorem ErrQ.xf {K:Frag} {C:Addr} (q:ErrQ K C):XfC K C:=⟨q.ga,q.gg,q.eC,q.hd⟩
theorem ErrQ.exm {K:Frag} {C C':Addr} {b:Bool} (q:ErrQ K C') (h:subIn K (.ref C) (.ref C')=some b):exmOne K (.ref C) (.ref C')=some b:=by
  have e1:(subIn K (.ref C') (.type "BaseException") == some true)=true:=by rw[q.eC] <;> rfl
  have ic:(clsIn K C').isSome=true:=q.ic
  have e2:((clsIn K C').isSome && typeIn K (.ref C') == some (.type "type"))=true:=by rw[ic,q.tC] <;> rfl
  show (if _ then (if _ then subIn K (.ref C) (.ref C') else none) else none)=some b
  rw[if_pos e1,if_pos e2]
  exact h
theorem ErrQ.kit {K:Frag} {C C':Addr} {b:Bool} (q:ErrQ K C') (h:subIn K (.ref C) (.ref C')=some b):kitOne K (.ref C) (.ref C')=some b:=by
  have ic:(clsIn K C').isSome=true:=q.ic
  have e2:((clsIn K C').isSome && typeIn K (.ref C') == some (.type "type"))=true:=by rw[ic,q.tC] <;> rfl
  unfold kitOne
  by_cases c:((Value.ref C == Value.ref C')=true)
  · have e:C=C':=Value.ref.inj (beq_iff_eq.mp c)
    subst e
    rw[q.me] at h
    rw[if_pos c]
    exact h
  · rw[if_neg c]
    show (if _ then subIn K (.ref C) (.ref C') else none)=some b
    rw[if_pos e2]
    exact h
section
variable {X : Cx} {a : Addr} {oe : Obj} {cls : Value} {d : Option Addr} {pn : List (Addr × Obj)}
end
theorem kita_nil {K:Frag} {t:Value}:kitAny K t []=some false:=rfl
theorem kita_no {K:Frag} {t c:Value} {cs:List Value} {b:Bool} (h:kitOne K t c=some false) (hr:kitAny K t cs=some b):kitAny K t (c::cs)=some b:=by
  unfold kitAny
  rw[h]
  exact hr
theorem kita_yes {K:Frag} {t c:Value} {cs:List Value} (h:kitOne K t c=some true):kitAny K t (c::cs)=some true:=by
  unfold kitAny
  rw[h]

def CallS (X:Cx) (f:Value) (r:L2.St→List V→Hp→VK→Prop):Prop:=
  ∀(pins:List (Addr×Obj)) (s:Shared) (σ:L2.St) (H:Hp) (vs:List V) (us:List Value) (Q:VK),
    Inv X pins σ H s→Vals vs us→r σ vs H Q→wpAny (model X.prog X.w) X.A (call f us) (EP X pins σ Q) X.xe s
def CallKS (X:Cx) (f:Value) (ks:List Str) (r:L2.St→List V→List V→Hp→VK→Prop):Prop:=
  ∀(pins:List (Addr×Obj)) (s:Shared) (σ:L2.St) (H:Hp) (xs zs:List V) (us ws:List Value) (Q:VK),
    Inv X pins σ H s→Vals xs us→Vals zs ws→r σ xs zs H Q→
    wpAny (model X.prog X.w) X.A (call f us (ks.zip ws)) (EP X pins σ Q) X.xe s
def tCS (r:L2.St→List V→Hp→VK→Prop) (t:TA):TE:=fun σ H Q=>t σ H fun vs H1=>r σ vs H1 Q
def tCKS (r:L2.St→List V→List V→Hp→VK→Prop) (t tk:TA):TE:=fun σ H Q=>t σ H fun vs H1=>tk σ H1 fun zs H2=>r σ vs zs H2 Q
section
variable {X : Cx} {k : Nat} {f : Addr} {fd : FuncData} {ps ks : List Str} {sp : Sp} {dvs : List V} {ds : List Value} {W : WX}
theorem FnG.atS (F:FnG X.prog X.w X.K X.mg X.base k f fd ps sp) (hg:GOk X) (hr:Room k X.A)
    (hb:Binds X.K fd ps ds) (hd:Vals dvs ds) (tk:Takes X W):
    CallS X (.ref f) (fun σ vs H Q=>sp (vs++dvs) H Q (fun cls d H=>W cls d σ H)):=by
  intro pins s σ H vs us Q I rv h
  have r2:Vals (vs++dvs) (us++ds):=rv.append hd
  have hl:(us++ds).length=ps.length:=by rw[← r2.length];exact F.len _ _ _ _ h
  refine wpAny_call (codeAny_mono (F.run X.A X.stack s H ⟨us,[]⟩ (us++ds) (vs++dvs) Q _ hg hr I.env0
    (hb s us I.kIn hl) r2 h) fun r s' hq=> ?_)
  match r,hq with
  | .error e,hq=>exact tk e s' (XE.of_call I (fun _ _ _ h=>h) hq)
  | .ok (.ret u),hq=>exact I.after hq
  | .ok .next,hq=>exact hq.elim
  | .ok .brk,hq=>exact hq.elim
  | .ok .cont,hq=>exact hq.elim
theorem FnG.atKS {g:List Value→List Value→List Value} {gV:List V→List V→List V}
    (F:FnG X.prog X.w X.K X.mg X.base k f fd ps sp) (hg:GOk X) (hr:Room k X.A)
    (hb:KBinds X.K fd ps ks g gV) (tk:Takes X W):
    CallKS X (.ref f) ks (fun σ vs zs H Q=>sp (gV vs zs) H Q (fun cls d H=>W cls d σ H)):=by
  intro pins s σ H vs zs us ws Q I rv rz h
  have r2:=hb.rel rv rz
  have hl:(g us ws).length=ps.length:=by rw[← r2.length];exact F.len _ _ _ _ h
  refine wpAny_call (codeAny_mono (F.run X.A X.stack s H ⟨us,ks.zip ws⟩ (g us ws) (gV vs zs) Q _ hg hr I.env0
    (hb.to s us ws I.kIn hl) r2 h) fun r s' hq=> ?_)
  match r,hq with
  | .error e,hq=>exact tk e s' (XE.of_call I (fun _ _ _ h=>h) hq)
  | .ok (.ret u),hq=>exact I.after hq
  | .ok .next,hq=>exact hq.elim
  | .ok .brk,hq=>exact hq.elim
  | .ok .cont,hq=>exact hq.elim
variable {x : Str} {p pos : Pos} {e : Expr} {es : List Expr} {kws : List Keyword} {t tk : TA}
    {r : L2.St → List V → Hp → VK → Prop} {rk : L2.St → List V → List V → Hp → VK → Prop}
theorem pe_fnS (c:CallS X (.ref f) r) (hg:Gl X x) (hm:X.mg x=some (.ref f)) (hk:keepIn X.K (.ref f)=true)
    (ha:PA X (e::es) t) (hdb:(x == ("__debug__" :Str))=false:=by decide)
    (he:starEach (e::es) X.env=(false,eval e X.env)::starEach es X.env:=by rfl)
    (hpl:(backTo pos (starEach es X.env)).any (·.1)=false:=by rfl):PE X (.Call (.Name x p) (e::es) [] pos) (tCS r t):=by
  refine⟨fun pins s σ H Q I h=>wpAny_Call_Name_kw (ld_glob I hg hm ?_ hdb)⟩
  refine callWith_K (h₀:=X.base) I.ok.mod.kin hk (thn (ha.run pos pins s σ H _ I h) fun us s1 hh=> ?_) he hpl
  obtain⟨vs,H1,I1,rv,q⟩:=hh
  exact⟨I1.kIn,c pins s1 σ H1 vs us Q I1 rv q⟩
theorem pe_fnS0 (c:CallS X (.ref f) r) (hg:Gl X x) (hm:X.mg x=some (.ref f)) (hk:keepIn X.K (.ref f)=true)
    (hdb:(x == ("__debug__" :Str))=false:=by decide):PE X (.Call (.Name x p) [] [] pos) (tCS r tNil):=by
  refine⟨fun pins s σ H Q I h=>wpAny_Call_Name_kw (ld_glob I hg hm ?_ hdb)⟩
  exact callWith_K0 I.kIn hk (c pins s σ H [] [] Q I .nil h)
theorem pe_fnKS (c:CallKS X (.ref f) ks rk) (hg:Gl X x) (hm:X.mg x=some (.ref f)) (hk:keepIn X.K (.ref f)=true)
    (ha:PA X (e::es) t) (hkw:PK X kws tk) (hall:(backToKw pos (keywordEach kws X.env)).all (·.1.isSome)=true:=by rfl)
    (hks:(backToKw pos (keywordEach kws X.env)).filterMap (·.1)=ks:=by rfl) (hdb:(x == ("__debug__" :Str))=false:=by decide)
    (he:starEach (e::es) X.env=(false,eval e X.env)::starEach es X.env:=by rfl)
    (hpl:((backTo pos (starEach (e::es) X.env)).any (·.1) || (backToKw pos (keywordEach kws X.env)).any (·.1.isNone))=false:=by rfl):
    PE X (.Call (.Name x p) (e::es) kws pos) (tCKS rk t tk):=by
  refine⟨fun pins s σ H Q I h=>wpAny_Call_Name_kw (ld_glob I hg hm ?_ hdb)⟩
  refine callWith_KW (h₀:=X.base) I.ok.mod.kin hk hall (thn (ha.run pos pins s σ H _ I h) fun us s1 hh=> ?_) hpl he
  obtain⟨vs,H1,I1,rv,q⟩:=hh
  refine thn (hkw.run pos pins s1 σ H1 _ I1 q) fun ws s2 hh2=> ?_
  obtain⟨zs,H2,I2,rz,q2⟩:=hh2
  refine⟨I2.kIn,?_⟩
  rw[hks]
  exact c pins s2 σ H2 vs zs us ws Q I2 rv rz q2
end
section
variable {σ : L2.St} {H : Hp} {Q : VK} {tr tk : TA}
theorem s_cs {r:L2.St→List V→Hp→VK→Prop} (q:tr σ H fun vs H1=>r σ vs H1 Q):tCS r tr σ H Q:=q
theorem s_cks {r:L2.St→List V→List V→Hp→VK→Prop} (q:tr σ H fun vs H1=>tk σ H1 fun zs H2=>r σ vs zs H2 Q):tCKS r tr tk σ H Q:=q
end

theorem funD_of {K:Frag} {x qual:Str} {st:Stmt} {f D:Addr} {oc:Value} {od an:Option Addr} {osl:Array (Option Value)} {doc pm cdv ct:Value} {kws:List (Str×V)}
    (l:K.lookup f=some ⟨oc,od,.func (fnOf x qual (defArgs st) (defBody st) (defScope st) .none (.ref D) doc pm an cdv ct),osl⟩)
    (c:codeIn K cdv qual=true) (k:keepIn K (.ref f)=true) (hk: ∀q∈kws,∃u,nsIn K D q.1=some (some u)∧RelV q.2 u):
    FunD K x qual (defArgs st) (defBody st) (defScope st) [] kws f (fnOf x qual (defArgs st) (defBody st) (defScope st) .none (.ref D) doc pm an cdv ct):=
  ⟨⟨oc,od,.none,.ref D,doc,pm,an,cdv,ct,osl,rfl,l,c,.inl ⟨rfl,rfl⟩,.inr ⟨D,rfl,hk⟩⟩,k⟩
end PC

set_option Elab.async false
set_option linter.all false
set_option maxRecDepth 100000
set_option maxHeartbeats 2000000
namespace PC
open PySem PySem.Spec PyProof.Rows L2

section
variable {prog : Program} {w : World} {A : Around} {E : Value → Shared → Prop} {s : Shared}
theorem collect_tup {l:Addr} {vs:List Value} {Q:List Value→Shared→Prop} (ht:s.heap.IsTuple l vs.toArray) (few:vs.length≤sizeLine)
    (q:Q vs { s with heap:=(s.heap.push (seqObj "list" #[] 0)).update s.heap.objs.size (Obj.mapSeq (· ++vs.toArray)) }):
    wpAny (model prog w) A (collect (.ref l)) Q E s:=by
  obtain⟨o,ho,hc,n,hd⟩:=id ht
  unfold collect
  refine wpAny_bind (wpAny_runValue (codeAny_builtin entry_proto_collect' ?_))
  show wpAny _ _ (do again (.builtin "list.__iadd__" ⟨[← newList [],.ref l],[]⟩)) _ _ s
  refine wpAny_bind (wpAny_newList
    (wpAny_pure ⟨Code.quiet_builtin _ (by decide +kernel),codeAny_builtin entry_list_iadd' ?_⟩))
  show wpAny _ _ (Builtin.List.listExtendWith _ _ _) _ _ { s with heap:=s.heap.push (seqObj "list" #[] 0) }
  unfold Builtin.List.listExtendWith
  have ho2:(s.heap.push (seqObj "list" #[] 0)).get? l=some o:=Heap.get?_push_of_some _ ho
  refine wpAny_bind (wpAny_typeOf (T:= "tuple") ⟨o,ho2,hc⟩ ?_)
  have yes:(Value.type "tuple" == Value.type "tuple")=true:=by rfl
  rw[if_pos (by rw[yes];simp)]
  refine wpAny_bind (listItems_at ho2 hd ?_)
  refine wpAny_bind (listItems_at (n:=0) (xs:= #[]) (Heap.get?_push_size _ rfl) rfl ?_)
  rw[if_neg (by simp)]
  have few2:((#[]:Array Value)++vs.toArray).size≤sizeLine+1:=by
    simp only[Array.size_append,List.size_toArray,List.length_nil]
    omega
  refine wpAny_bind (listUpdate_at (n:=0) (xs:= #[]) (Heap.get?_push_size _ rfl) rfl ?_ (Nat.zero_le _) few2)
  refine wpAny_pure ?_
  refine wpAny_bind (wpAny_load (get?_update_seq (Heap.get?_push_size _ rfl) _) ?_)
  show wpAny _ _ (pure ((#[]:Array Value)++vs.toArray).toList) Q E _
  rw[show ((#[]:Array Value)++vs.toArray).toList=vs by simp]
  exact wpAny_pure q
theorem sorted_tup {l:Addr} {vs:List Value} {ltv:Value→Value→Bool} {Q:Value→Shared→Prop} (O:SrtO.Swo ltv)
    (ht:s.heap.IsTuple l vs.toArray) (few:vs.length≤sizeLine)
    (hS:2≤vs.length→ ∀(u:Heap) (a:Addr),SrtO.SortableO prog w A.in1.in1 { s with heap:=u } a vs ltv)
    (q: ∀out:List Value,SrtO.Srtd ltv out→SrtO.Stb ltv out vs→
      Q (.ref (s.heap.objs.size+1)) { s with heap:=sortedAll s.heap vs out.toArray }):
    wpAny (model prog w) A (call (.builtin "sorted") [.ref l]) Q E s:=by
  refine Calls.call_function_entry kind_sorted plain_sorted entry_sorted (args_sorted1 _) ?_
  unfold Builtin.«sorted»
  refine wpAny_bind (m:=checkCount "sorted" 1 1 _) (wpAny_pure ?_)
  refine wpAny_bind (collect_tup ht few (wpAny_bind (wpAny_newList ?_ few)))
  have one:((s.heap.push (seqObj "list" #[] 0)).update s.heap.objs.size (Obj.mapSeq (· ++vs.toArray))).objs.size=s.heap.objs.size+1:=by
    rw[Heap.size_update]
    exact Heap.size_push ..
  have new:(((s.heap.push (seqObj "list" #[] 0)).update s.heap.objs.size (Obj.mapSeq (· ++vs.toArray))).push
      (seqObj "list" vs.toArray 0)).get? (s.heap.objs.size+1)=some (seqObj "list" vs.toArray 0):=by
    rw[← one]
    exact Heap.get?_push_size _ rfl
  show wpAny _ _ _ _ _ { s with heap:=((s.heap.push (seqObj "list" #[] 0)).update s.heap.objs.size
    (Obj.mapSeq (· ++vs.toArray))).push (seqObj "list" vs.toArray 0) }
  rw[one]
  refine wpAny_bind (wpAny_holding (wpAny_call_entry slot_list_sort ⟨_,new,rfl⟩ entry_list_sort
    (SrtO.list_sort_ord O new few (fun h2=>hS h2 _ _) fun out hs hb=>⟨_,rfl,wpAny_pure ⟨_,rfl,q out hs hb⟩⟩) (args_list_sort _)))
end
def rSorted (K:PySem.W.Frag):List V→Hp→VK→Prop:=fun vs H Q=> ∃(a:Addr) (ns:List Int),vs= [V.ref a]∧
  (SqL K H a (ns.map V.int)∨SqT K H a (ns.map V.int))∧
  ∀(ms:List Int) (p:Addr),ms.Perm ns→ms.Pairwise (· ≤ ·)→H p=none→Q (.ref p) (upd H p (.lst (ms.map V.int)))
section
variable {X : Cx} {K : PySem.W.Frag}
theorem cr_sortedT {pins:List (Addr×Obj)} {σ:L2.St} {H:Hp} {s:Shared} {a:Addr} {ns:List Int} {Q:VK} (I:Inv X pins σ H s)
    (hs:SqT X.K H a (ns.map V.int))
    (q: ∀(ms:List Int) (p:Addr),ms.Perm ns→ms.Pairwise (· ≤ ·)→H p=none→Q (.ref p) (upd H p (.lst (ms.map V.int)))):
    wpAny (model X.prog X.w) X.A (call (.builtin "sorted") [.ref a]) (EP X pins σ Q) X.xe s:=by
  obtain⟨its,rv,hl,hz⟩:=I.tuple hs
  have hi:=rv.ints
  refine sorted_tup SrtO.swo_int (show s.heap.IsTuple a its.toArray from hl) (by rw[← rv.length];exact hz)
    (fun h2 u b=>SrtO.ints_sortable hi h2) fun out h1 h2=> ?_
  obtain⟨k1,k2,k3⟩:=SrtO.ints_out hi h1 h2
  obtain⟨ep,e⟩:=sortedAll_at s.heap its out.toArray
  have few:((out.map SrtO.iv).map V.int).length≤sizeLine:=by
    rw[List.length_map,k2.length_eq]
    simpa using hz
  have big:s.heap.objs.size≤s.heap.objs.size+1:=Nat.le_succ _
  exact⟨.ref _,upd H (s.heap.objs.size+1) (.lst ((out.map SrtO.iv).map V.int)),
    I.laid (t':=s.toks) (fun _ _=>sortedAll_old) big ⟨few,out,ep,vals_of_ints k1,e⟩,rfl,q _ _ k2 k3 (I.hok.fresh big)⟩
theorem call_sortedA:CallR X (.builtin "sorted") (rSorted X.K):=by
  intro pins s σ H vs us Q I r h
  obtain⟨a,ns,rfl,hs | hs,q⟩:=h
  · exact cr_sortedI pins s σ H _ us Q I r ⟨a,ns,rfl,hs,q⟩
  · rw[Vals.ref1 r]
    exact cr_sortedT I hs q
theorem kx_sorted (h:X.K=K):CallR X (.builtin "sorted") (rSorted K):=by subst h;exact call_sortedA
end

theorem Draws.tup {prog:Program} {w:World} {A:Around} (hh:A.handled=none) (it l:Addr) (hne:l≠it) (xs:Array Value):
    Draws prog w A it [it,l] xs.size (fun i v=>xs[i]?=some v) (fun i h=>h.IsTupleIter it l i∧h.IsTuple l xs) where
  live:=fun _ _ st=>let ⟨o,ho,_⟩:=st.1;⟨o,ho⟩
  frame:=fun _ _ _ st hk=>⟨st.1.at fun o e=>hk it (by simp) o e,let ⟨o,e,q⟩:=st.2;⟨o,hk l (by simp) o e,q⟩⟩
  item:=fun i s Q E hi st hQ=>by
    refine RZ.nextOf_tuple_item st.1 st.2 (x:=xs[i]) (by simp[hi]) fun h' hit hs=> ?_
    obtain⟨o,e,q⟩:=st.2
    exact hQ _ h' s.toks (by simp[hi]) ⟨hit,o,(hs.2 l hne).trans e,q⟩ hs
  done:=fun s Q E st hE=>RZ.nextOf_tuple_end hh st.1 st.2 (by simp) hE
abbrev enumO (i:Addr):Obj:= { cls:= .type "enumerate",data:= .fields #[.none,.bool false,.ref i,rawInt 0,.none,.none] }
section
open AutoSeq1 (wpAny_loadPart')
theorem meets_enum_tup (l:Addr) (xs:Array Value) (n:Nat) (dct:Option Addr) (sl:Array (Option Value)):
    Meets (Builtin.«enumerate.__new__» ⟨[.type "enumerate",.ref l],[]⟩) (fun _ R s=>
      s.heap.get? l=some { cls:= .type "tuple",dict:=dct,data:= .seq xs n,slots:=sl }∧
      R (.ok (.ret (.ref (s.heap.push { cls:= .type "tuple_iterator",data:= .fields #[.ref l,.int 0 0] }).objs.size)))
        { s with heap:=(s.heap.push { cls:= .type "tuple_iterator",data:= .fields #[.ref l,.int 0 0] }).push (enumO s.heap.objs.size) }):=
  .of_wp fun prog w A R s h=>by
    obtain⟨u,g,d,tk,os⟩:=s
    obtain⟨hl,h⟩:=h
    have hsub:=sub_enumerate
    have hL:Heap.IsTuple (Shared.heap ⟨u,g,d,tk,os⟩) l xs:=⟨_,hl,rfl,n,rfl⟩
    wp_walk using wpAny_loadPart' hl
    refine wpAny_stack_any fun st=>wpAny_pure ?_
    split
    · rename_i c _ _ _ _ _
      cases (c == Value.type "enumerate") <;>
        (wp_walk using wpAny_loadPart' hl,wpAny_pyIter_tuple hL;exact⟨_,rfl,h⟩)
    · (wp_walk using wpAny_loadPart' hl,wpAny_pyIter_tuple hL);exact⟨_,rfl,h⟩
end
section
variable {prog : Program} {w : World} {A : Around} {E : Value → Shared → Prop} {s : Shared}
theorem call_enum_tup {l:Addr} {xs:Array Value} {Q:Value→Shared→Prop} (ht:s.heap.IsTuple l xs)
    (h: ∀h',IsEnum h' (s.heap.objs.size+1) s.heap.objs.size 0 .none→h'.IsTupleIter s.heap.objs.size l 0→
      (∀b o,s.heap.get? b=some o→h'.get? b=some o)→Q (.ref (s.heap.objs.size+1)) { s with heap:=h' }):
    wpAny (model prog w) A (call (.type "enumerate") [.ref l]) Q E s:=by
  obtain⟨⟨c,dct,dt,sl⟩,hl,hc,n,hd⟩:=ht
  replace hc:c= .type "tuple" :=hc
  replace hd:dt= .seq xs n:=hd
  subst hc hd
  refine callType_new F.called_enumerate (by decide) (F.typeCall_enumerate_1 _) (F.newCall_enumerate_1 _)
    (fun obj=>F.args_object_init_2 obj _) F.entry_enumerate_new (meets_enum_tup l xs n dct sl) ⟨hl,?_⟩
  have one:(s.heap.push { cls:= .type "tuple_iterator",data:= .fields #[.ref l,.int 0 0] }).objs.size=s.heap.objs.size+1:=Heap.size_push ..
  show _∧_
  rw[one]
  have he:IsEnum ((s.heap.push { cls:= .type "tuple_iterator",data:= .fields #[.ref l,.int 0 0] }).push (enumO s.heap.objs.size))
      (s.heap.objs.size+1) s.heap.objs.size 0 .none:=by
    have q:=Heap.get?_push_size (s.heap.push { cls:= .type "tuple_iterator",data:= .fields #[.ref l,.int 0 0] })
      (o:=enumO s.heap.objs.size) rfl
    rw[one] at q
    exact q
  exact⟨⟨_,he,rfl⟩,h _ he ⟨_,Heap.get?_push_of_some _ (Heap.get?_push_size _ rfl),rfl,rfl⟩
    fun b o x=>Heap.get?_push_of_some _ (Heap.get?_push_of_some _ x)⟩
end
section
variable {prog : Program} {w : World} {A : Around} {E : Value → Shared → Prop} {s : Shared}
theorem enum_tup_end {e it l:Addr} {xs:Array Value} {i:Nat} {k:Int} {old:Value} {Q:Option Value→Shared→Prop} (hh:A.handled=none)
    (he:IsEnum s.heap e it k old) (hit:s.heap.IsTupleIter it l i) (hl:s.heap.IsTuple l xs) (hx:xs[i]?=none)
    (q: ∀h',Heap.ExtBut it s.heap h'→Q none { s with heap:=h' }):wpAny (model prog w) A (pyNext (.ref e)) Q E s:=by
  have ty:s.TypeIs (.ref e) "enumerate" :=⟨_,he,rfl⟩
  unfold pyNext
  refine wpAny_bind (wpAny_attempt (wpAny_callSpecial?_slot (name:=Str.ofString "__next__") ty F.slot_enumerate_next
    (wpAny_call_entry F.slot_enumerate_next ty F.entry_enumerate_next ?_ (F.args_enumerate_next_1 _))))
  show wpAny (model prog w) _ (field (.ref e) 2 >>= _) _ _ s
  refine wpAny_bind (wpAny_field he rfl (x:= .ref it) rfl ?_)
  refine wpAny_bind (RZ.nextOf_tuple_end hh hit hl hx fun h' x hb hx=> ?_)
  obtain⟨o,ho,hc⟩:=hx
  refine wpAny_bind (wpAny_isInstance (T:= "StopIteration") (b:=true) ⟨o,ho,hc⟩ isSubtype_stop ?_)
  exact wpAny_pure (q _ hb)
end
def IteT (K:PySem.W.Frag) (a:Addr):It:=
  ⟨fun i H=> ∃(xs:List V) (x:V),SqT K H a xs∧xs[i]?=some x,
   fun i H v H'=> ∃T x,v= .ref T∧H T=none∧H'=upd H T (.tup [.int (i:Nat),x])∧ ∀xs,SqT K H a xs→xs[i]?=some x,
   fun i H=> ∃xs:List V,SqT K H a xs∧xs.length≤i⟩
theorem turn_enumT {P:Program} {w:World} {K:PySem.W.Frag} {elts:List Expr} {kk:Nat} {tpos:Pos} (a e it:Addr) (hai:a≠it) (hae:e≠a):
    Turn P w K (.Tuple elts kk tpos) (IteT K a) [e,it] e
      (fun i h=>(∃old,IsEnum h e it ((i:Nat):Int) old)∧h.IsTupleIter it a i∧e≠it) where
  mem:=by simp
  obj:=fun i h st b hb=>by
    obtain⟨⟨old,he⟩,⟨o,ho,hc,hd⟩,_⟩:=st
    rcases (show b=e∨b=it by simpa using hb) with z | z
    · subst z
      exact⟨_,he,fun v q=>nomatch q⟩
    · subst z
      exact⟨o,ho,fun v q=>by rw[hd] at q;cases q⟩
  keep:=fun i h h' st k=>
    let ⟨⟨old,he⟩,hi,hne⟩:=st
    ⟨⟨old,k e (by simp) _ he⟩,hi.at fun o q=>k it (by simp) o q,hne⟩
  item:=by
    intro X hP hw hK hc i pins s σ H E I hf st hg
    subst hP hw hK
    obtain⟨⟨old,he⟩,hit,hne⟩:=st
    obtain⟨xs,x,hq,hx⟩:=hg
    obtain⟨its,rv,p,hz⟩:=I.tuple hq
    obtain⟨u,hu,ru⟩:=rv.get hx
    have le:e<s.heap.objs.size:=Heap.lt_size he
    have li:it<s.heap.objs.size:=by
      obtain⟨_,q,_⟩:=hit
      exact Heap.lt_size q
    have lt:i<its.toArray.size:=by
      have q:=(List.getElem?_eq_some_iff.mp hu).1
      simpa using q
    refine wpAny_pyNext_enum_itemD (Draws.tup (A:=X.A.in1) (I.ok.hd hc) it a hai its.toArray) he ⟨hit,p⟩ lt hne (by simp[hne,hae])
      fun y h' tk hy ho st' hT hsz hk=> ?_
    obtain rfl:y=u:=by
      have q:its.toArray[i]?=some y:=hy
      have q2:its.toArray[i]?=some u:=by simpa using hu
      exact Option.some.inj (q.symm.trans q2)
    refine⟨_,rfl,wpAny_letOwnedTupleGo_enum (s:= { s with heap:=h',toks:=tk+1 }) ho fun h'' he' sb=> ?_⟩
    have hT2:h''.get? s.heap.objs.size=some { cls:= .type "tuple",data:= .seq #[.int i tk,y] }:=
      (sb.2 _ (Nat.ne_of_gt le)).trans hT
    have new:ObjOk X.prog X.w (upd H s.heap.objs.size (.tup [.int (i:Nat),x])) h'' s.heap.objs.size (.tup [.int (i:Nat),x]):=
      ⟨by show 2≤sizeLine;decide,[.int i tk,y],.cons ⟨_,rfl⟩ (.cons ru .nil),⟨_,hT2,rfl,_,rfl⟩⟩
    have I1:Inv X pins σ (upd H s.heap.objs.size (.tup [.int (i:Nat),x])) { s with heap:=h'',toks:=tk+1 }:=
      I.turnedNew (ch:= [e,it]) (fun b ob hb q=>(sb.2 b (fun z=>hb (by simp[z]))).trans
        (hk b ob (fun z=>hb (by simp[z])) (fun z=>hb (by simp[z])) q)) hf (Nat.le_refl _) new
    refine⟨.ref s.heap.objs.size,_,I1,rfl,⟨_,x,rfl,I.hok.fresh (Nat.le_refl _),rfl,fun ys hy=> ?_⟩,
      ⟨⟨y,?_⟩,st'.1.at fun o q=>(sb.2 it (Ne.symm hne)).trans q,hne⟩,fun b hb=> ?_⟩
    · rw[I.tuple_inj hy hq]
      exact hx
    · have e1:((i+1:Nat):Int)=(i:Int)+1:=by omega
      rw[e1]
      exact he'
    · have lb:b<s.heap.objs.size:=by
        rcases (show b=e∨b=it by simpa using hb) with z | z
        · rw[z];exact le
        · rw[z];exact li
      rw[upd_ne (Nat.ne_of_lt lb)]
      exact (hf b hb).1
  done:=by
    intro X hP hw hK hc i pins s σ H E I hf st hg
    subst hP hw hK
    obtain⟨⟨old,he⟩,hit,hne⟩:=st
    obtain⟨xs,hq,hx⟩:=hg
    obtain⟨its,rv,p,hz⟩:=I.tuple hq
    obtain⟨f0,f1,f2,f3,f4,f5⟩:=hf it (by simp)
    have hl:=rv.length
    exact enum_tup_end (I.ok.hd hc) he hit p (by simp;omega) fun h' eb=>⟨rfl,I.turned (t':=s.toks) (fun b o hb q=>eb b o hb q) f0 f1 f3 f4 f5⟩
  self:=fun A i s Q E st h=>let ⟨⟨_,he⟩,_⟩:=st;wpAny_pyIter_enum he h

def iEnumA (K:PySem.W.Frag) (ta:TA):TI:=fun σ H R=>ta σ H fun vs H1=> ∃a xs,vs= [.ref a]∧((SqL K H1 a xs∧R (Ite K a) H1)∨(SqT K H1 a xs∧R (IteT K a) H1))
theorem pi_enumA {X:Cx} {K:PySem.W.Frag} (hK:X.K=K) {e:Expr} {ta:TA} {p pos tpos:Pos} {elts:List Expr} {kk:Nat} (hg:Gl X "enumerate") (hm:X.mg "enumerate" =none)
    (ha:PA X [e] ta) (hs:starEach [e] X.env= [(false,eval e X.env)]:=by rfl):
    PI X (.Tuple elts kk tpos) (.Call (.Name "enumerate" p) [e] [] pos) (iEnumA K ta):=by
  subst hK
  refine⟨fun pins s σ H R I h=> ?_⟩
  refine Call_ (ld_blt I hg hm boot_enumerate (callWith_type1 (thn (ha.run pos pins s σ H _ I h) fun us s1 hh=> ?_) hs rfl))
  obtain⟨vs,H1,I1,r1,a,xs,ex,hq⟩:=hh
  subst ex
  cases r1 with
  | cons r rr=>
    cases rr
    cases r
    have fp: ∀b∈ [s1.heap.objs.size+1,s1.heap.objs.size],FpOk X pins H1 b:=fun b hb=>by
      have le:s1.heap.objs.size≤b:=by
        rcases (show b=s1.heap.objs.size+1∨b=s1.heap.objs.size by simpa using hb) with z | z
        · rw[z];exact Nat.le_succ _
        · rw[z];exact Nat.le_refl _
      exact I1.fpOk le (I1.hok.fresh le)
    rcases hq with ⟨hq,q⟩ | ⟨hq,q⟩
    · obtain⟨its,rv,p',hz⟩:=I1.list hq
      refine call_enumerate_list p'.isList fun h' he hit hsz hk=>wpAny_pyIter_enum he ?_
      exact⟨s1.heap.objs.size+1,[s1.heap.objs.size+1,s1.heap.objs.size],_,_,H1,rfl,I1.kept (t':=s1.toks) hk,
        turn_enum a (s1.heap.objs.size+1) s1.heap.objs.size,⟨⟨.none,he⟩,hit,Nat.succ_ne_self _⟩,fp,q⟩
    · obtain⟨its,rv,p',hz⟩:=I1.tuple hq
      obtain⟨o,ho,_⟩:=id p'
      have la:a<s1.heap.objs.size:=Heap.lt_size ho
      refine call_enum_tup (show s1.heap.IsTuple a its.toArray from p') fun h' he hit hk=>wpAny_pyIter_enum he ?_
      exact⟨s1.heap.objs.size+1,[s1.heap.objs.size+1,s1.heap.objs.size],_,_,H1,rfl,I1.kept (t':=s1.toks) hk,
        turn_enumT a (s1.heap.objs.size+1) s1.heap.objs.size (Nat.ne_of_lt la) (Nat.ne_of_gt (Nat.lt_succ_of_lt la)),⟨⟨.none,he⟩,hit,Nat.succ_ne_self _⟩,fp,q⟩
section
variable {K : PySem.W.Frag} {a b : Addr} {xs ys : List V}
end
def iOr (w1 w2:TI):TI:=fun σ H R=>w1 σ H R∨w2 σ H R
theorem PI.or {X:Cx} {tg e:Expr} {w1 w2:TI} (h1:PI X tg e w1) (h2:PI X tg e w2):PI X tg e (iOr w1 w2):=
  ⟨fun pins s σ H R I h=>h.elim (h1.run pins s σ H R I) (h2.run pins s σ H R I)⟩
theorem pi_seq {X:Cx} {K:PySem.W.Frag} {tg e:Expr} {te:TE} (hK:X.K=K) (he:PE X e te):PI X tg e (iOr (iList K te) (iTup K te)):=by
  subst hK
  exact PI.or (pi_list he) (pi_tup he)
theorem pi_listK {X:Cx} {K:PySem.W.Frag} {tg e:Expr} {te:TE} (hK:X.K=K) (he:PE X e te):PI X tg e (iList K te):=by subst hK;exact pi_list he
theorem pi_tupK {X:Cx} {K:PySem.W.Frag} {tg e:Expr} {te:TE} (hK:X.K=K) (he:PE X e te):PI X tg e (iTup K te):=by subst hK;exact pi_tup he
theorem pi_zipK {X:Cx} {K:PySem.W.Frag} {e e2:Expr} {ta:TA} {p pos tpos:Pos} {elts:List Expr} {kk:Nat} (hK:X.K=K) (hg:Gl X "zip") (hm:X.mg "zip" =none) (ha:PA X [e,e2] ta)
    (hs:starEach [e,e2] X.env=(false,eval e X.env)::starEach [e2] X.env:=by rfl) (hpl:(backTo pos (starEach [e2] X.env)).any (·.1)=false:=by rfl):
    PI X (.Tuple elts kk tpos) (.Call (.Name "zip" p) [e,e2] [] pos) (RZ.iZipA K ta):=by
  subst hK
  exact RZ.pi_zipA hg hm ha hs hpl
theorem pg_tupK {X:Cx} {K:PySem.W.Frag} {pos:Pos} {es:List Expr} {k:Nat} {t:TGs} {n:Nat} (hK:X.K=K) (hc:X.calm=true) (h:PGs X es t)
    (hn:(assignEach es X.env).length=n:=by rfl) (hst:(assignEach es X.env).findIdx? (·.1)=none:=by rfl):PG X (.Tuple es k pos) (gTup K n t):=by
  subst hK
  exact pg_tup hc h hn hst
end PC

set_option Elab.async false
set_option linter.all false
set_option maxRecDepth 100000
set_option maxHeartbeats 2000000
namespace PC
open PySem PySem.Spec PyProof.Rows L2

section
variable {X : Cx} {K : PySem.W.Frag} {o e : Expr} {es : List Expr} {to : TE} {t : TA} {name : Str} {apos cpos : Pos} {T id : String} {r : V → List V → Hp → VK → Prop}
theorem pe_bmK (hK:X.K=K) (pa:PlainAttrs T) (slot:Slot T name id) (hty:typeOf (.builtin id)=pure (.type "method_descriptor")) (hm:MtR X id r)
    (ho:PE X o to) (ha:PA X (e::es) t) (hbase:attributeBase o name X.env (eval o X.env)=eval o X.env:=by rfl)
    (hfew:((backTo cpos (starEach (e::es) X.env)).all (fun x=> !x.1) && (backToKw cpos (keywordEach [] X.env)).all (fun x=>x.1.isSome) &&
      decide ((e::es).length+([]:List Keyword).length+(if ([]:List Keyword).isEmpty then 0 else 1)<30))=true:=by rfl)
    (hline:(apos.endLine == cpos.line)=true:=by rfl) (hs:starEach (e::es) X.env=(false,eval e X.env)::starEach es X.env:=by rfl)
    (hplain:(backTo cpos (starEach es X.env)).any (·.1)=false:=by rfl):
    PE X (.Call (.Attribute o name apos) (e::es) [] cpos) (tBM K T r to t):=by
  subst hK
  exact pe_bm pa slot hty hm ho ha hbase hfew hline hs hplain
theorem pe_bm0K (hK:X.K=K) (pa:PlainAttrs T) (slot:Slot T name id) (hty:typeOf (.builtin id)=pure (.type "method_descriptor")) (hm:MtR X id r)
    (ho:PE X o to) (hbase:attributeBase o name X.env (eval o X.env)=eval o X.env:=by rfl) (hline:(apos.endLine == cpos.line)=true:=by rfl):
    PE X (.Call (.Attribute o name apos) [] [] cpos) (tBM0 K T r to):=by
  subst hK
  exact pe_bm0 pa slot hty hm ho hbase hline
end
section
variable {σ : L2.St} {H : Hp} {Q : VK} {D : Ends} {K : PySem.W.Frag} {p a : Addr} {Z : List Addr} {x v : V} {d : PyData} {xs : List V} {to te : TE} {t : TA} {T : String} {r : V → List V → Hp → VK → Prop}
theorem s_bm (q:to σ H fun x H1=>tyV K T x H1∧t σ H1 fun xs H2=>r x xs H2 Q):tBM K T r to t σ H Q:=q
theorem s_bm0 (q:to σ H fun x H1=>tyV K T x H1∧r x [] H1 Q):tBM0 K T r to σ H Q:=q
theorem ty_lst (h:H a=some (.lst xs)):tyV K "list" (.ref a) H:= .inl ⟨rfl,xs,.inl (.inl h)⟩
theorem s_append {y:V} (h:H a=some (.lst xs)) (hz:xs.length<sizeLine) (q:Q .non (upd H a (.lst (xs++ [y])))):rAppend (.ref a) [y] H Q:=⟨a,xs,y,rfl,rfl,h,hz,q⟩
theorem s_isiLT (hx:Dat K Z H d x) (hT:H a=some (.tup [.ty "list",.ty "tuple"])) (q:Q (.bl (isD d "list" || isD d "tuple")) H):rIsiT K [x,.ref a] H Q:=by
  refine⟨x,a,_,_,[.type "list",.type "tuple"],_,rfl,hT,.cons (.ty _) (.cons (.ty _) .nil),hx.ty,?_,q⟩
  have k1:=kit_ty (K:=K) (kit_isD d (T:= "list") (by simp))
  have k2:=kit_ty (K:=K) (kit_isD d (T:= "tuple") (by simp))
  unfold PySem.W.kitAny
  rw[k1]
  cases isD d "list" with
  | true=>rfl
  | false=>
    show PySem.W.kitAny K _ _=_
    unfold PySem.W.kitAny
    rw[k2]
    cases isD d "tuple" <;> rfl
theorem s_iZip {ta:TA} {RI:It→Hp→Prop} (q:ta σ H fun vs H1=> ∃a b xs ys,vs= [.ref a,.ref b]∧((SqL K H1 a xs∧SqL K H1 b ys∧RI (Itz K a b) H1)∨(SqT K H1 a xs∧SqT K H1 b ys∧RI (RZ.ItzT K a b) H1))):RZ.iZipA K ta σ H RI:=q
theorem s_lstRg {tr:L2.St→Hp→(Int→Int→Hp→Prop)→Prop} (q:tr σ H fun a b H1=>RgOk a b∧ ∀q,H1 q=none→Q (.ref q) (upd H1 q (.lst (rgV a b)))):tLstRg tr σ H Q:=q
theorem s_rg1 {ta:TE} {QR:Int→Int→Hp→Prop} (q:ta σ H fun x H1=> ∃n,x= .int n∧QR 0 n H1):tRg1 ta σ H QR:=q
theorem s_rg2 {ta tb:TE} {QR:Int→Int→Hp→Prop} (q:ta σ H fun x H1=>tb σ H1 fun y H2=> ∃i j,x= .int i∧y= .int j∧QR i j H2):tRg2 ta tb σ H QR:=q
theorem s_raise {C:Addr} {f:Str} {fs:List Str} {ta:TA} {QX:XK} (q:ta σ H fun vs H1=> ∃v ws,vs=v::ws∧ws.length=fs.length∧
    ∀d,H1 d=none→QX (.ref C) (some d) (upd H1 d (.xd ((fs.zip ws).reverse++ [(f,v)])))):tErr C f fs ta σ H QX:=q
theorem s_xf {cls:Value} {dd:Option Addr} {C:Addr} {f:Str} (q:te σ H fun x H1=>x= .ref a∧cls= .ref C∧
    ∃(b:Addr) (fs:List (Str×V)) (v:V),dd=some b∧H1 b=some (.xd fs)∧fs.lookup f=some v∧Q v H1):tXf a cls dd C f te σ H Q:=q
end

def seqD:PyData→Option (List PyData)
  | .list ds=>some ds
  | .tuple ds=>some ds
  | _=>none
section
variable {σ : L2.St} {H : Hp} {Q : VK} {K : PySem.W.Frag} {p a : Addr} {Z : List Addr} {x v : V} {d : PyData} {ds : List PyData} {xs : List V} {RI : It → Hp → Prop}
theorem Dat.seq (h:Dat K Z H d x) (hs:seqD d=some ds): ∃a xs,x= .ref a∧DatL K Z H ds xs∧
    ((SqL K H a xs∧ ∀p H',p∈Z→R p H H'→SqL K H' a xs)∨(SqT K H a xs∧ ∀p H',p∈Z→R p H H'→SqT K H' a xs)):=by
  cases d with
  | list es=>
    cases hs
    simp only[Dat] at h
    obtain⟨a,xs,e,n,s,l⟩:=h
    exact⟨a,xs,e,l,.inl ⟨.inl s,fun p H' hp r=>SqL.up r (fun z=>n (z ▸ hp)) (.inl s)⟩⟩
  | tuple es=>
    cases hs
    simp only[Dat] at h
    obtain⟨a,xs,e,n,s,l⟩:=h
    exact⟨a,xs,e,l,.inr ⟨s,fun p H' hp r=>SqT.up r hp n s⟩⟩
  | _=>cases hs
end

section
variable {J : It} {n : Nat} {G : Hp → Prop} {Y : Nat → Hp → V → Hp → Prop} {K : PySem.W.Frag} {p : Addr} {Z : List Addr} {H : Hp} {Q : VK}
theorem flat_ints (ns:List Int):(ns.map V.int).all flatV=true:=by
  rw[List.all_map,List.all_eq_true]
  exact fun _ _=>rfl
theorem inV_ints (n:Int): ∀ns:List Int,inV (.int n) (ns.map V.int)=decide (n∈ns)
  | []=>rfl
  | m::ns=>by
    have ih:=inV_ints n ns
    unfold inV at ih ⊢
    rw[List.map_cons,List.any_cons,ih]
    have e:eqV (.int m) (.int n)=decide (n=m):=by
      show (m == n)=_
      rw[Bool.eq_iff_iff,beq_iff_eq,decide_eq_true_eq]
      exact eq_comm
    rw[e]
    simp
end
structure Mix (p L D:Addr) (xs:List V) (H H':Hp) (i:Nat):Prop where
  step:R p H H'
  ex: ∃left acc,H' L=some (.lst left)∧H' D=some (.lst acc)∧acc.length=i∧left.length+i=xs.length∧(acc++left).Perm xs
end PC

set_option Elab.async false
set_option linter.all false
set_option maxRecDepth 100000
set_option maxHeartbeats 2000000
namespace PC
open PySem PySem.Spec PyProof.Rows L2

theorem under_guards {K:PySem.W.Frag} {base:Heap} {A:Around} {C:Addr} {us:List Value} {kw:List (Str×Value)} (hg:GOkA K A base):
    GOkA K (A.under (.builtin "type.__call__" ⟨.ref C::us,kw⟩)) base:=by
  obtain⟨gs,e,h⟩:=hg
  refine⟨gs,?_,h⟩
  first
  | exact e
  | simp[Around.under,Code.weight,Code.isCreation,Code.isGuard,Code.isCaller,Code.frames,Code.isFrame,guardIds,e]

section
variable {X : Cx} {k : Nat} {f C : Addr} {fd : FuncData} {ps ks : List Str} {sp : Sp} {dvs : List V} {ds : List Value} {W : WX}
def OutP (X:Cx) (pins:List (Addr×Obj)) (σ:L2.St) (Q:VK):Result→Shared→Prop
  | .ok (.ret v),s'=>EP X pins σ Q v s'
  | .ok _,_=>False
  | .error e,s'=>X.xe e s'
theorem out_of {pins:List (Addr×Obj)} {σ:L2.St} {H:Hp} {s:Shared} {Q:VK} (I:Inv X pins σ H s) (tk:Takes X W) {r:Result} {s':Shared}
    (hq:CR (L2.CX X.prog X.w) X.stack X.prog X.w H s Q (fun cls d H=>W cls d σ H) r s'):
    OutP X pins σ Q r s':=by
  match r,hq with
  | .error e,hq=>exact tk e s' (XE.of_call I (fun _ _ _ h=>h) hq)
  | .ok (.ret u),hq=>exact I.after hq
  | .ok .next,hq=>exact hq.elim
  | .ok .brk,hq=>exact hq.elim
  | .ok .cont,hq=>exact hq.elim
def mkSp (C:Addr) (sp:Sp) (dvs:List V) (W:WX):L2.St→List V→Hp→VK→Prop:=fun σ vs H Q=> ∀x dx,H x=none→H dx=none→dx≠x→
  sp (.ref x::(vs++dvs)) (upd (upd H dx (.own x)) x (.ins C dx [])) (fun v H2=>v= .non∧Q (.ref x) H2) (fun cls d H=>W cls d σ H)
theorem FnG.make (F:FnG X.prog X.w X.K X.mg X.base k f fd ps sp) (M:Mk X.K C f) (hg:GOk X) (hr:Room (k+1) X.A)
    (hb:Binds X.K fd ps ds) (hd:Vals dvs ds) (tk:Takes X W):CallS X (.ref C) (mkSp C sp dvs W):=by
  intro pins s σ H vs us Q I r h
  have hq:=h (s.heap.objs.size+1) s.heap.objs.size (I.hok.fresh (Nat.le_succ _)) (I.hok.fresh (Nat.le_refl _)) (Nat.ne_of_lt (Nat.lt_succ_self _))
  have I2:=Inv.made (C:=C) I
  have r2:Vals (V.ref (s.heap.objs.size+1)::(vs++dvs)) (Value.ref (s.heap.objs.size+1)::(us++ds)):= .cons rfl (r.append hd)
  have hl:(Value.ref (s.heap.objs.size+1)::us++ds).length=ps.length:=by
    have e:=r2.length
    rw[F.len _ _ _ _ hq] at e
    exact e.symm
  refine wpAny_call (make_map (f:=f) I.kIn M.makes M.init (beq_iff_eq.mp M.fn) (codeAny_mono
    (F.run _ X.stack _ _ ⟨Value.ref (s.heap.objs.size+1)::us,[]⟩ _ _ _ _ (under_guards hg) (hr.make C us []) (I2.env0.make C us [])
      (hb _ (Value.ref (s.heap.objs.size+1)::us) I2.kIn hl) r2 hq) fun r s' hq'=> ?_))
  have o:=out_of I2 tk hq'
  clear hq'
  match r,o with
  | .error e,o=>exact o
  | .ok (.ret u),o=>
    obtain⟨v,H',I3,rv,ev,q3⟩:=o
    subst ev
    exact⟨rv,⟨V.ref (s.heap.objs.size+1),H',I3,rfl,q3⟩⟩
  | .ok .next,o=>exact o.elim
  | .ok .brk,o=>exact o.elim
  | .ok .cont,o=>exact o.elim
variable {x m : Str} {p pos apos : Pos} {o e : Expr} {es : List Expr} {kws : List Keyword} {to : TE} {t tk : TA}
    {r : L2.St → List V → Hp → VK → Prop} {rk : L2.St → List V → List V → Hp → VK → Prop} {pl : Sem Bool}
def tMS (m:Str) (C:Addr) (r:L2.St→List V→Hp→VK→Prop) (to:TE) (t:TA):TE:=fun σ H Q=>to σ H fun x H1=>
  ∃a dx fs,x= .ref a∧H1 a=some (.ins C dx fs)∧fs.lookup m=none∧t σ H1 fun vs H2=>r σ (x::vs) H2 Q
def tMKS (m:Str) (C:Addr) (r:L2.St→List V→List V→Hp→VK→Prop) (to:TE) (t tk:TA):TE:=fun σ H Q=>to σ H fun x H1=>
  ∃a dx fs,x= .ref a∧H1 a=some (.ins C dx fs)∧fs.lookup m=none∧t σ H1 fun vs H2=>tk σ H2 fun zs H3=>r σ (x::vs) zs H3 Q
theorem pe_mS (c:CallS X (.ref f) r) (cl:Cls X.K C) (hm:Meth X.K C m f) (ho:PE X o to) (ha:PA X (e::es) t)
    (hst:starEach (e::es) X.env=(false,eval e X.env)::starEach es X.env:=by rfl) (hpl:(backTo pos (starEach es X.env)).any (·.1)=false:=by rfl)
    (ht:eval (.Call (.Attribute o m apos) (e::es) [] pos) X.env=(do
      let ov ← eval o X.env
      standAt apos.atName
      let (f,first) ← holding [ov] (getMethod ov m pl)
      callWith pos f first (backTo pos (starEach (e::es) X.env)) (backToKw pos (keywordEach [] X.env))):=by rfl):
    PE X (.Call (.Attribute o m apos) (e::es) [] pos) (tMS m C r to t):=by
  refine⟨fun pins s σ H Q I h=>PySem.W.methodCall_KW (pl:=pl) (thn (ho.run pins s σ H _ I h) fun u s1 hh=> ?_) ht⟩
  obtain⟨x,H1,I1,rx,a,dx,fs,ex,ea,l,q⟩:=hh
  subst ex
  obtain rfl:u=Value.ref a:=rx
  refine getmeth_ok I1 ea cl hm l ?_
  refine PySem.W.callWith_K (first:= [.ref a]) (h₀:=X.base) I.ok.mod.kin hm.kp (thn (ha.run pos pins s1 σ H1 _ I1 q) fun us s2 hh2=> ?_) hst hpl
  obtain⟨vs,H2,I2,rv,q2⟩:=hh2
  exact⟨I2.kIn,c pins s2 σ H2 (.ref a::vs) (.ref a::us) Q I2 (.cons rfl rv) q2⟩
theorem pe_mS0 (c:CallS X (.ref f) r) (cl:Cls X.K C) (hm:Meth X.K C m f) (ho:PE X o to)
    (ht:eval (.Call (.Attribute o m apos) [] [] pos) X.env=(do
      let ov ← eval o X.env
      standAt apos.atName
      let (f,first) ← holding [ov] (getMethod ov m pl)
      callWith pos f first (backTo pos (starEach [] X.env)) (backToKw pos (keywordEach [] X.env))):=by rfl):
    PE X (.Call (.Attribute o m apos) [] [] pos) (tMS m C r to tNil):=by
  refine⟨fun pins s σ H Q I h=>PySem.W.methodCall_KW (pl:=pl) (thn (ho.run pins s σ H _ I h) fun u s1 hh=> ?_) ht⟩
  obtain⟨x,H1,I1,rx,a,dx,fs,ex,ea,l,q⟩:=hh
  subst ex
  obtain rfl:u=Value.ref a:=rx
  refine getmeth_ok I1 ea cl hm l ?_
  exact PySem.W.callWith_K0 (first:= [.ref a]) I1.kIn hm.kp (c pins s1 σ H1 [.ref a] [.ref a] Q I1 (.cons rfl .nil) q)
end

section
variable {X : Cx} {k : Nat} {f C : Addr} {fd : FuncData} {ps : List Str} {sp : Sp}
theorem inst_of {pins:List (Addr×Obj)} {σ:L2.St} {H:Hp} {s:Shared} {a C dx:Addr} {fs:List (Str×V)} (I:Inv X pins σ H s) (e:H a=some (.ins C dx fs)):
    ∃ox od,PySem.W.InstAt s.heap a ox C (some od):=by
  obtain⟨d,z,ne,ob,mA,⟨od,_,_,ho,_⟩,_⟩:=(show ObjOk X.prog X.w H s.heap a (.ins C dx fs) from I.hok a _ e)
  exact⟨_,od,ob,rfl,rfl,ho⟩
theorem FnG.own (F:FnG X.prog X.w X.K X.mg X.base k f fd ps sp) (hg:GOk X) {A:Around} (hgA:GOkA X.K A X.base) (hr:Room k A)
    (hb:Binds X.K fd ps []) {pins:List (Addr×Obj)} {σ:L2.St} {H:Hp} {s:Shared} {a:Addr} {Q:VK} (I:Inv X pins σ H s)
    (he:Env0 X.prog X.w X.K X.mg X.base A X.stack s H) (h:sp [.ref a] H Q E0):
    wpAny (model X.prog X.w) A (call (.ref f) [.ref a]) (EP X pins σ Q) X.xe s:=by
  have hl:([Value.ref a]++ []).length=ps.length:=by
    rw[F.len _ _ _ _ h |>.symm]
    rfl
  refine wpAny_call (codeAny_mono (F.run A X.stack s H ⟨[.ref a],[]⟩ [.ref a] [.ref a] Q E0 hgA hr he (hb s [.ref a] I.kIn hl) (.cons rfl .nil) h) fun r s' hq=> ?_)
  match r,hq with
  | .error e,hq=>exact passN pins σ H s e s' I hq
  | .ok (.ret u),hq=>exact I.after hq
  | .ok .next,hq=>exact hq.elim
  | .ok .brk,hq=>exact hq.elim
  | .ok .cont,hq=>exact hq.elim
def rLenI (C:Addr) (sp:Sp):List V→Hp→VK→Prop:=fun xs H Q=> ∃a dx fs,xs= [.ref a]∧H a=some (.ins C dx fs)∧
  sp [.ref a] H (fun v H'=> ∃n:Int,v= .int n∧(0≤n∧n<2 ^ 63)∧Q (.int n) H') E0
theorem call_lenI (F:FnG X.prog X.w X.K X.mg X.base k f fd ps sp) (hs:PySem.W.findIn X.K (.ref C) "__len__" =some (some (.ref f)))
    (hf:PySem.W.isFn X.K (.ref f)=true) (hg:GOk X) (hr:Room (k+1) X.A) (hb:Binds X.K fd ps []):CallR X (.builtin "len") (rLenI C sp):=by
  intro pins s σ H xs us Q I r h
  obtain⟨a,dx,fs,rfl,ea,h⟩:=h
  rw[Vals.ref1 r]
  obtain⟨ox,od,J⟩:=inst_of I ea
  obtain⟨m,fr⟩:=I.fr
  refine PySem.W.len_K fr I.ok.mod.kin J hs hf (wpAny_mono (F.own hg (A:=X.A.in1) hg hr.in1 hb I I.env0.in1 h) (fun v s' hv=> ?_) fun _ _ e=>e)
  obtain⟨v',H',I',rv,n,rfl,hn,q⟩:=hv
  obtain⟨t,rfl⟩:=rv
  exact⟨hn,.int n,H',I'.tok _,⟨_,rfl⟩,q⟩
def rStrI (C:Addr) (sp:Sp):List V→Hp→VK→Prop:=fun xs H Q=> ∃a dx fs,xs= [.ref a]∧H a=some (.ins C dx fs)∧
  sp [.ref a] H (fun v H'=> ∃z:Str,v= .str z∧Q (.str z) H') E0
theorem call_reprI (F:FnG X.prog X.w X.K X.mg X.base k f fd ps sp) (hs:PySem.W.findIn X.K (.ref C) "__repr__" =some (some (.ref f)))
    (hf:PySem.W.isFn X.K (.ref f)=true) (hg:GOk X) (hr:Room (k+1) X.A) (hb:Binds X.K fd ps []):CallR X (.builtin "repr") (rStrI C sp):=by
  intro pins s σ H xs us Q I r h
  obtain⟨a,dx,fs,rfl,ea,h⟩:=h
  rw[Vals.ref1 r]
  obtain⟨ox,od,J⟩:=inst_of I ea
  obtain⟨m,fr⟩:=I.fr
  refine PySem.W.repr_K hr.in1.units0 fr I.ok.mod.kin J hs hf (wpAny_mono (F.own hg (A:=X.A.in1) hg hr.in1 hb I I.env0.in1 h) (fun v s' hv=> ?_) fun _ _ e=>e)
  obtain⟨v',H',I',rv,z,rfl,q⟩:=hv
  obtain⟨t,rfl⟩:=rv
  exact⟨.str z,H',I',⟨t,rfl⟩,q⟩
end

section
variable {X : Cx} {K : PySem.W.Frag} {f : Value} {ks : List Str}
theorem CallR.S {r:List V→Hp→VK→Prop} (c:CallR X f r):CallS X f (fun _=>r):=fun pins s σ H vs us Q I rv h=>c pins s σ H vs us Q I rv h
theorem CallKR.S {r:List V→List V→Hp→VK→Prop} (c:CallKR X f ks r):CallKS X f ks (fun _=>r):=
  fun pins s σ H vs zs us ws Q I rv rz h=>c pins s σ H vs zs us ws Q I rv rz h
variable {o e value : Expr} {g : Str} {pos pos' : Pos} {ta tv : TE}
theorem pe_fldK (hK:X.K=K) (he:PE X e ta) (hb:attributeBase e g X.env (eval e X.env)=eval e X.env:=by rfl):PE X (.Attribute e g pos) (tFld K ta g):=by
  subst hK
  exact pe_fld he hb
theorem ps_fldK (hK:X.K=K) (ha:PE X o ta) (hv:PE X value tv) (hs:swapsWith value (some (.Attribute o g pos')) pos.line X.env=pure false:=by rfl):
    PS X (.Assign [.Attribute o g pos'] value pos) (sFld K ta tv g):=by
  subst hK
  exact ps_fld ha hv hs
end
section
variable {σ : L2.St} {H : Hp} {Q : VK} {D : Ends} {K : PySem.W.Frag} {a C dx : Addr} {fs : List (Str × V)} {v : V} {m f : Str} {to te ta tv : TE} {t tk : TA}
theorem s_ms {r:L2.St→List V→Hp→VK→Prop} (q:to σ H fun x H1=> ∃a dx fs,x= .ref a∧H1 a=some (.ins C dx fs)∧fs.lookup m=none∧t σ H1 fun vs H2=>r σ (x::vs) H2 Q):
    tMS m C r to t σ H Q:=q
theorem s_mks {r:L2.St→List V→List V→Hp→VK→Prop} (q:to σ H fun x H1=> ∃a dx fs,x= .ref a∧H1 a=some (.ins C dx fs)∧fs.lookup m=none∧
    t σ H1 fun vs H2=>tk σ H2 fun zs H3=>r σ (x::vs) zs H3 Q):tMKS m C r to t tk σ H Q:=q
theorem s_fld (q:ta σ H fun x H1=> ∃a C dx fs v,x= .ref a∧H1 a=some (.ins C dx fs)∧Cls K C∧NoAttr K C f∧fs.lookup f=some v∧Q v H1):tFld K ta f σ H Q:=q
theorem s_sfld (q:tv σ H fun y H1=>ta σ H1 fun x H2=> ∃a C dx fs,x= .ref a∧H2 a=some (.ins C dx fs)∧Cls K C∧NoAttr K C f∧fs.length<1000∧D.nx σ (upd H2 a (.ins C dx (putF f y fs)))):
    sFld K ta tv f D σ H:=q
end
end PC

set_option Elab.async false
set_option linter.all false
set_option maxRecDepth 100000
set_option maxHeartbeats 2000000
namespace PC
open PySem PySem.Spec PyProof.Rows L2

section
variable {K : PySem.W.Frag} {p a D : Addr} {Z : List Addr} {H H1 H' : Hp} {d : PyData} {v : V} {xs : List V}
theorem Dat.lift (r:R p H H') (m:p∈Z) (h:Dat K Z H d v):Dat K Z H' d v:=Dat.up r m d v h
theorem R.ins {C dx:Addr} {fs:List (Str×V)} (r:R p H H') (e:H a=some (.ins C dx fs)):H' a=some (.ins C dx fs):=
  r.stay a _ (fun _ z=>nomatch z) (fun _ z=>nomatch z) e
theorem R.xd {fs:List (Str×V)} (r:R p H H') (e:H a=some (.xd fs)):H' a=some (.xd fs):=
  r.stay a _ (fun _ z=>nomatch z) (fun _ z=>nomatch z) e
theorem R.tup (r:R p H H') (e:H a=some (.tup xs)):H' a=some (.tup xs):=
  r.stay a _ (fun _ z=>nomatch z) (fun _ z=>nomatch z) e
theorem R.lst (r:R p H H') (n:a≠p) (e:H a=some (.lst xs)):H' a=some (.lst xs):=r.keep a _ n e
theorem Wd.neq (w:Wd p Z H) (h:H a=none):a≠p:=fun z=>w.occ p w.mem (z ▸ h)
theorem Wd.old (w:Wd p Z H) (r:R p H H') (h:H' a=none):H a=none:=R.free r ((w.up r).neq h) h
end
section
variable {K : PySem.W.Frag} {p a b : Addr} {Z : List Addr} {H : Hp} {d : PyData} {v : V} {xs ys : List V}
theorem put_ne (h:H a=some (.lst xs)) {o:HO} (e:H b=some o) (n: ∀zs,o≠ .lst zs) {o':HO}:upd H a o' b=some o:=by
  by_cases z:b=a
  · subst z
    rw[h] at e
    exact absurd (Option.some.inj e).symm (n xs)
  · rw[upd_ne z]
    exact e
theorem Wd.put (w:Wd p Z H) (h:H a=some (.lst xs)):Wd p Z (upd H a (.lst ys)):=by
  refine⟨?_,fun c hc=> ?_,w.mem⟩
  · obtain⟨o,u,e⟩:=w.one
    exact⟨o,u,put_ne h e fun _ z=>nomatch z⟩
  · by_cases z:c=a
    · subst z
      rw[upd_same]
      exact fun z=>nomatch z
    · rw[upd_ne z]
      exact w.occ c hc
theorem Pot.put (h:Pot p H) (n:a≠p) {o':HO}:Pot p (upd H a o'):=by
  obtain⟨x,y,e,q⟩:=h
  exact⟨x,y,by rw[upd_ne n.symm];exact e,q⟩
end
section
variable {J : It} {n : Nat} {G : Hp → Prop} {K : PySem.W.Frag} {p : Addr} {Z : List Addr} {Q : VK} {fx fy : Nat → Option V} {gi gj : Nat} {te : TE} {tt : TT} {vs : List Nat} {σ : L2.St} {H1 : Hp}
end
section
variable {X : Cx} {c a b e : Expr} {pos : Pos} {tA : TT} {ta tb te : TE} {st : Stmt} {rest : List Stmt} {t u : TS} {σ : L2.St} {H : Hp} {Q : VK} {D : Ends}
end
section
variable {X : Cx} {σ : L2.St} {H : Hp} {Q : VK} {te : TE} {ts : List TE} {acc : Str}
end
end PC

set_option Elab.async false
set_option linter.all false
set_option maxRecDepth 100000
set_option maxHeartbeats 2000000
namespace PC
open PySem PySem.Spec PyProof.Rows L2

abbrev Clause:=Value×Nat×(Addr→Value→Option Addr→TS)
abbrev goneE (i:Nat) (D:Ends):Ends:=⟨fun τ G=>D.nx (τ.set i none) G,D.rt,fun τ G=>D.bk (τ.set i none) G,fun τ G=>D.ct (τ.set i none) G⟩
def wCl (K:PySem.W.Frag) (W:WX) (D:Ends):List Clause→WX
  | []=>W
  | (c,i,t)::r=>fun k d σ H=> ∃b,PySem.W.exmOne K k c=some b∧
      (b=true→ ∀a,H a=none→t a k d (goneE i D) (σ.set i (some (.ref a))) H)∧(b=false→wCl K W D r k d σ H)
inductive ClOk (X:Cx):List ExceptHandler→List Clause→Prop
  | nil:ClOk X [] []
  | cons {x n:Str} {c:Value} {i:Nat} {t:Addr→Value→Option Addr→TS} {s1:Stmt} {ss:List Stmt} {p q:Pos} {hs:List ExceptHandler} {l:List Clause}
      (hi:X.N[i]?=some n) (hl:X.env.kindOf n=some .local) (hc:Names X x c)
      (body: ∀(a:Addr) (o:Obj) (k:Value) (d:Option Addr) (pn:List (Addr×Obj)),Zc k d o→(∃vs,o.data= .fields vs)→PSs (X.suite a ((a,o)::pn)) (s1::ss) (t a k d))
      (rest:ClOk X hs l):ClOk X (.ExceptHandler (some (.Name x p)) (some n) (s1::ss) q::hs) ((c,i,t)::l)
section
variable {X : Cx} {W : WX} {D : Ends}
theorem far_of {B:Heap} {h:Heap} {st:List Env} {a:Addr} {o:Obj} {vs:Array Value} (ff:h.FunFrames B st) (e:h.get? a=some o) (dd:o.data= .fields vs):a ∉ frs st:=by
  intro m
  obtain⟨_,o2,e2,bad⟩:=ff.mem m
  rw[e] at e2
  cases e2
  exact bad _ dd
theorem clauses_run (hst:X.stack=X.env::X.outer) (hfr:X.env.frame=some X.env.locals) (nd:X.N.Nodup) (out:Takes X W)
    {B:Heap} {s0 s1:Shared} {pins:List (Addr×Obj)} {σ:L2.St} {H:Hp} {a:Addr} {k:Value} {d:Option Addr} (ok:X.Ok) (I:Inv X pins σ H s0)
    (nb: ∀b o,s0.heap.get? b=some o→b ∉ frs X.stack→B.get? b=some o) (fl:HandSPX.FlyingZ B (X.env::X.outer) a (Zc k d) s1.heap) (up:s0.heap.UpToSlots s1.heap)
    (na:H a=none) (os:s1.os=s0.os) (ag:AllBare s1.gens):
    ∀ {hs:List ExceptHandler} {l:List Clause},ClOk X hs l→wCl X.K W D l k d σ H→wpAny (model X.prog X.w) X.A (handleBy (.ref a) X.env hs) (SP X pins D) X.xe s1:=by
  have J:Inv X pins σ H s1:=I.landed nb fl.1 up os ag
  obtain⟨o1,_,e1,z1,dd1⟩:=fl.there
  have apart:=far_of fl.2.2.1 e1 dd1
  have a1:a≠X.env.locals:=fun z=>apart (List.mem_filterMap.mpr ⟨_,List.mem_cons_self,z ▸ hfr⟩)
  have a2:a ∉ X.fs:=fun m=>by
    obtain⟨y,hy,ey⟩:=List.mem_filterMap.mp m
    exact apart (List.mem_filterMap.mpr ⟨y,.tail _ hy,ey⟩)
  intro hs l ck
  induction ck with
  | nil=>
    intro wish
    obtain⟨_,_,_,o2,us,T,_,_,e2,_,dd2,u1,_⟩:=id fl
    refine wpAny_handleBy_nil ?_
    unfold PySem.passOn
    refine wpAny_bind (wpAny_field e2 dd2 u1 ?_)
    rw[if_neg (by simp)]
    have leave:wpAny (model X.prog X.w) X.A (setFlight (.ref a) X.env.frame) (fun _ t=>wpAny (model X.prog X.w) X.A (throw (.ref a):Sem Flow) (SP X pins D) X.xe t) X.xe s1:=by
      rw[hfr]
      refine HandSPX.setFlight_upZ fl fun g held up2=>wpAny_throw (out _ _ ⟨a,B,s0,pins,σ,H,k,d,rfl,I,nb,up.trans up2,?_,na,os,ag,wish⟩)
      rw[hst]
      exact .inr (.inr held)
    first
      | exact wpAny_bind (wpAny_pure (wpAny_bind leave))
      | exact wpAny_bind leave
  | @cons x n c i t y1 ys p q hs l hi hl hc body _ ih=>
    rintro ⟨b,eb,yes,no⟩
    have V1:=J.suite e1 dd1 na a1 a2
    have known:PySem.W.Looks (model X.prog X.w) s1.heap (typeOf (.ref a)) k:=fun A Q E st kp qq=>wpAny_typeOf_ref (kp _ _ e1) (by rw[z1.1];exact qq)
    have asked:=PySem.W.exm_one (M:=model X.prog X.w) J.kIn known eb
    have named:wpAny (model X.prog X.w) (X.A.mark (some (.ref a))) (eval (.Name x p) X.env) (fun u st=>u=c∧s1=st) (fun _ _=>False) s1:=by
      rcases hc with ⟨g,ndb,m | ⟨m,bv,nn⟩⟩
      · exact ld_glob (X:=X.suite a ((a,o1)::(X.pn++pins))) V1 g m ⟨rfl,rfl⟩ ndb
      · exact ld_blt (X:=X.suite a ((a,o1)::(X.pn++pins))) V1 g m bv ⟨rfl,rfl⟩ nn ndb
    refine wpAny_handleBy_cons (codeAny_handlers_test ?_) (fun w=>nomatch w)
    refine wpAny_mono named ?_ fun _ _ w=>w.elim
    rintro _ _ ⟨rfl,rfl⟩
    refine asked.here ?_
    cases b with
    | false=>exact ih (no rfl)
    | true=>
      refine codeAny_handlers_suite_as (HandSPX.lands_againZ fl fun g fl2 up2=> ?_)
      have J2:Inv X pins σ H { s1 with heap:=g }:=I.landed nb fl2.1 (up.trans up2) os ag
      obtain⟨o2,_,e2,z2,dd2⟩:=fl2.there
      refine store_ok (X:=X.suite a ((a,o2)::(X.pn++pins))) (v:= .ref a) (J2.suite e2 dd2 na a1 a2) nd hi (.inl hl) rfl (fun t2 S2=> ?_) (.inr hl)
      have drop: ∀ {τ:L2.St} {G:Hp} {t3:Shared} {R:Shared→Prop},Inv (X.suite a ((a,o2)::(X.pn++pins))) [] τ G t3→(∀t4,Inv X pins (τ.set i none) G t4→R t4)→
          wpAny (model X.prog X.w) X.A (do bindName X.env n .none;unbindBehindTheSuite X.env n q) (fun _ t4=>R t4) X.xe t3:=fun S hR=>gone_ok (S.unsuite ok) nd hi hl hR
      refine wpAny_mono ((body a o2 k d (X.pn++pins) z2 ⟨_,dd2⟩).run [] t2 _ H _ S2 (yes rfl a na)) (fun f t3 hf=> ?_) fun _ _ w=>w.elim
      cases f with
      | next=>exact drop hf.choose_spec.choose_spec.1 fun t4 S4=>⟨_,_,S4,hf.choose_spec.choose_spec.2⟩
      | brk=>exact drop hf.choose_spec.choose_spec.1 fun t4 S4=>⟨_,_,S4,hf.choose_spec.choose_spec.2⟩
      | cont=>exact drop hf.choose_spec.choose_spec.1 fun t4 S4=>⟨_,_,S4,hf.choose_spec.choose_spec.2⟩
      | ret u=>
        obtain⟨v,τ,G,S3,rv,qq⟩:=hf
        exact drop S3 fun t4 S4=>⟨v,_,G,S4,rv,qq⟩
theorem ps_try_clauses {body:List Stmt} {h0:ExceptHandler} {hs:List ExceptHandler} {l:List Clause} {pos:Pos} {tb:WX→TS}
    (hst:X.stack=X.env::X.outer) (hfr:X.env.frame=some X.env.locals) (nd:X.N.Nodup) (out:Takes X W)
    (hb: ∀(V:WX) (pn:List (Addr×Obj)) (xe:Value→Shared→Prop),Takes (X.tr pn xe) V→PassesOwn (model X.prog X.w) X.A X.env xe→PSs (X.tr pn xe) body (tb V))
    (ck:ClOk X (h0::hs) l):PS X (.Try body (h0::hs) [] [] pos) (fun D σ H=>tb (wCl X.K W D l) D σ H):=by
  constructor
  intro pins s σ H D I h
  have ok:=I.ok
  refine wpAny_Try_except (wpAny_mono ((hb (wCl X.K W D l) (X.pn++pins) _ (fun u t fly=> ?_) PassesOwn.looking).run [] s σ H D (I.toTry _) h) (fun f t done=> ?_) fun _ _ w=>w)
  · obtain⟨a,B,s0,pins0,τ,G,k,d,rfl,I0,nb,up,sky,na,os,ag,wish⟩:=fly
    have sky2:Sky B (X.env::X.outer) a (Zc k d) X.env.locals t.heap:=hst ▸ sky
    refine Sky.land Zc.steady (ok.frames.trans (by rw[hst])) hfr sky2 fun g fl up2=> ?_
    exact clauses_run hst hfr nd out (B:=B) (s0:=s0) (s1:= { t with heap:=g }) ok (I0.ofTry ok) nb fl (up.trans up2) na os ag ck wish
  · cases f with
    | next=>exact wpAny_execs_nil ⟨_,_,done.choose_spec.choose_spec.1.ofTry ok,done.choose_spec.choose_spec.2⟩
    | brk=>exact⟨_,_,done.choose_spec.choose_spec.1.ofTry ok,done.choose_spec.choose_spec.2⟩
    | cont=>exact⟨_,_,done.choose_spec.choose_spec.1.ofTry ok,done.choose_spec.choose_spec.2⟩
    | ret u=>
      obtain⟨v,τ,G,J,r,q⟩:=done
      exact⟨v,τ,G,J.ofTry ok,r,q⟩
end
structure InstT (K:PySem.W.Frag) (C:Addr):Prop where
  ca:PySem.W.findIn K (.ref C) "__class__" =some (some (.builtin "object.__class__"))
  ob:PySem.W.mroIn K C (.type "object")=some true
theorem s_isiC {K:PySem.W.Frag} {H:Hp} {Q:VK} {a C dx:Addr} {fs:List (Str×V)} (c:Cls K C) (t:InstT K C) (q0:ClsQ K) (e:H a=some (.ins C dx fs)) (q:Q (.bl true) H):rIsi K [.ref a,.ref C] H Q:=
  ⟨.ref a,.ref C,.ref C,.ref C,true,rfl,.own C,.base (.ins e c t.ca q0.get q0.tk t.ob),by unfold PySem.W.kitOne;rw[if_pos (by simp)],q⟩
section
variable {X : Cx}
def tFmtRD (K:PySem.W.Frag) (te:TE):TE:=fun σ H Q=>te σ H fun x H1=> ∃Z d,One H1∧(∃a,x= .ref a)∧Dat K Z H1 d x∧Tame d 40 50000∧Q (.str d.shown) H1
theorem pe_fmtRD {K:PySem.W.Frag} {k:Nat} (hK:X.K=K) (hg:GOk X) (hr:Room k X.A) {e:Expr} {te:TE} {pos:Pos} (he:PE X e te):PE X (.FormattedValue e 114 none pos) (tFmtRD K te):=by
  subst hK
  refine⟨fun pins s σ H Q I h=> ?_⟩
  refine wpAny_FormattedValue_repr (thn (he.run pins s σ H _ I h) fun v s1 hv=> ?_)
  obtain⟨x,H1,I1,r1,Z,d,o1,⟨a,rfl⟩,hd,t,q⟩:=hv
  cases (show v=Value.ref a from r1)
  obtain⟨hp,k1,k2,k3⟩:=ground_of X H1 s1
  obtain⟨as,hr',ns⟩:=Dat.readsIn I1 o1 k1 d (.ref a) _ hd rfl
  have hu:=hr.units
  have hd':=t.depth
  refine reprObj_ref hg I1 k2 k3 hr' t.show_ ns (by omega) (t.len (by decide)) (fun h' u tk kp=> ?_)
  exact wpAny_formatField_str ⟨.str d.shown,H1,I1.kept kp,⟨_,rfl⟩,q⟩ ⟨.str d.shown,H1,(I1.kept kp).tok _,⟨_,rfl⟩,q⟩ (t.len (by decide))
end
section
variable {σ : L2.St} {H : Hp} {Q : VK} {te : TE} {ts : List TE} {acc : Str} {QS : Str → Hp → Prop}
theorem s_bits (q:te σ H fun x H1=> ∃i,x= .int i∧Q (.int (Builtin.Int.intBits i:Nat)) H1):tBits te σ H Q:=q
end
section
variable {J : It} {n : Nat} {G : Hp → Prop} {K : PySem.W.Frag} {p : Addr} {Z : List Addr} {Q : VK} {gi : Nat} {tt : TT} {te : TE} {vs : List Nat} {σ : L2.St} {H1 : Hp} {ts : List Int}
end
section
variable {K : PySem.W.Frag} {Z : List Addr} {H : Hp} {Q : VK} {x y : V} {d : PyData} {ds : List PyData}
end
theorem R.xdW {p b:Addr} {H H':Hp} {fs:List (Str×V)} (e:H b=some (.xd fs)) (r:R p H H'):H' b=some (.xd fs):=r.stay b _ (fun _ z=>nomatch z) (fun _ z=>nomatch z) e
section
variable {K : PySem.W.Frag} {p : Addr} {Z : List Addr} {H : Hp} {x : V} {ds : List PyData} {g : TG} {tt : TT} {te : TE} {vs : List Nat} {σ : L2.St} {Q : VK} {tb : TS} {D : Ends}
end
theorem DatL.at {K:PySem.W.Frag} {Z:List Addr} {H:Hp} {ds:List PyData} {xs:List V} {i:Nat} {d:PyData} {x:V} (l:DatL K Z H ds xs) (hd:ds[i]?=some d) (hx:xs[i]?=some x):Dat K Z H d x:=by
  obtain⟨v,hv,h⟩:=l.get hd
  rw[hx] at hv
  cases hv
  exact h
section
variable {X : Cx} {K : PySem.W.Frag} {H : Hp} {Q : VK} {x y : V} {Z : List Addr} {ds es : List PyData}
end
section
variable {K : PySem.W.Frag} {p : Addr} {Z : List Addr} {H : Hp} {Q : VK} {x : V} {d : PyData} {ds : List PyData} {ns : List Int}
end
end PC

set_option Elab.async false
set_option linter.all false
set_option maxRecDepth 100000
set_option maxHeartbeats 4000000
namespace PC
open PySem PySem.Spec PyProof.Rows L2
def intIn:PyData→Int→Int→Bool
  | .int i,lo,hi=>decide (lo≤i) && decide (i≤hi)
  | _,_,_=>false
def intD:PyData→Option Int
  | .int i=>some i
  | _=>none
def intsD (ds:List PyData):List Int:=ds.filterMap intD
def areCells (lo hi:Int) (ds:List PyData):Bool:=(ds.all fun d=>intIn d lo hi) && decide (intsD ds).Nodup
def isort (ns:List Int):List Int:=ns.mergeSort fun a b=>decide (a≤b)
def cellsD (d:PyData) (s:Int):Option (List Int):=
  match seqD d with
  | none=>none
  | some ds=>if areCells 0 (s - 1) ds=true then some (isort (intsD ds)) else none
def tupI (ns:List Int):PyData:= .tuple (ns.map .int)
def lstI (ns:List Int):PyData:= .list (ns.map .int)
theorem intIn_int {d:PyData} {lo hi:Int} (h:intIn d lo hi=true): ∃i,d= .int i∧lo≤i∧i≤hi:=by
  cases d <;> simp[intIn] at h
  exact⟨_,rfl,h⟩
theorem isort_perm (ns:List Int):(isort ns).Perm ns:=List.mergeSort_perm ns _
theorem isort_le (ns:List Int):(isort ns).Pairwise (· ≤ ·):=by
  have h:=List.pairwise_mergeSort (le:=fun a b:Int=>decide (a≤b)) (by intro a b c;simp;omega) (by intro a b;simp;omega) ns
  exact h.imp fun h=>of_decide_eq_true h
theorem isort_is {ns ms:List Int} (p:ms.Perm ns) (h:ms.Pairwise (· ≤ ·)):ms=isort ns:=
  (p.trans (isort_perm ns).symm).eq_of_pairwise (fun a b _ _ h1 h2=>Int.le_antisymm h1 h2) h (isort_le ns)
theorem intsOf {lo hi:Int}: ∀ {ds:List PyData},(ds.all fun d=>intIn d lo hi)=true→ds=(intsD ds).map .int
  | [],_=>rfl
  | d::ds,h=>by
    rw[List.all_cons,Bool.and_eq_true] at h
    obtain⟨i,rfl,_⟩:=intIn_int h.1
    show _=PyData.int i::(intsD ds).map .int
    rw[← intsOf h.2]
theorem intsD_map (ns:List Int):intsD (ns.map .int)=ns:=by
  induction ns with
  | nil=>rfl
  | cons n ns ih=>show n::intsD (ns.map .int)=n::ns;rw[ih]
theorem asc_nodup: ∀ {ns:List Int},ns.Pairwise (· ≤ ·)→((ns.zip (ns.drop 1)).all (fun y=>decide (y.1<y.2))=true↔ns.Nodup)
  | [],_=>by simp
  | [a],_=>by simp
  | a::b::r,h=>by
    have h2:=(List.pairwise_cons.mp h).2
    have ih:=asc_nodup h2
    have hab:a≤b:=(List.pairwise_cons.mp h).1 b List.mem_cons_self
    simp only[List.drop_succ_cons,List.drop_zero] at ih ⊢
    rw[List.zip_cons_cons,List.all_cons,Bool.and_eq_true,ih,List.nodup_cons (a:=a),decide_eq_true_eq]
    constructor
    · rintro ⟨h1,h3⟩
      refine⟨fun m=> ?_,h3⟩
      rcases List.mem_cons.mp m with e | e
      · omega
      · have:=(List.pairwise_cons.mp h2).1 a e
        omega
    · rintro ⟨h1,h3⟩
      refine⟨?_,h3⟩
      rcases Int.lt_or_eq_of_le hab with q | q
      · exact q
      · exact absurd (by rw[q];exact List.mem_cons_self) h1
theorem cellsD_no {d:PyData} {s:Int} (h:(isD d "list" || isD d "tuple")=false):cellsD d s=none:=by
  cases d <;> first | rfl | simp[isD,tyD] at h
theorem seq_yes {d:PyData} (h:(isD d "list" || isD d "tuple")=true): ∃ds,seqD d=some ds:=by
  cases d <;> simp[isD,tyD] at h <;> exact⟨_,rfl⟩
theorem cellsD_seq {d:PyData} {s:Int} {ds:List PyData} (h:seqD d=some ds):cellsD d s=if areCells 0 (s - 1) ds=true then some (isort (intsD ds)) else none:=by
  unfold cellsD
  rw[h]
def maskI (ns:List Int):Int:=(ns.map fun n=>(1:Int) * 2 ^ n.toNat).sum
theorem cells_some {d:PyData} {s:Int} {ns:List Int} (e:cellsD d s=some ns): ∃ds,seqD d=some ds∧areCells 0 (s - 1) ds=true∧isort (intsD ds)=ns:=by
  cases h:seqD d with
  | none=>unfold cellsD at e;rw[h] at e;cases e
  | some ds=>
    rw[cellsD_seq h] at e
    by_cases c:areCells 0 (s - 1) ds=true
    · rw[if_pos c] at e
      exact⟨ds,rfl,c,Option.some.inj e⟩
    · rw[if_neg c] at e
      cases e
theorem ints_in {lo hi:Int} {ds:List PyData} (h:areCells lo hi ds=true): ∀n∈intsD ds,lo≤n∧n≤hi:=by
  intro n hn
  rw[areCells,Bool.and_eq_true] at h
  have e:=intsOf h.1
  have m:PyData.int n∈ds:=by rw[e];exact List.mem_map_of_mem hn
  have q:=List.all_eq_true.mp h.1 _ m
  obtain⟨i,e2,h1,h2⟩:=intIn_int q
  cases e2
  exact⟨h1,h2⟩
theorem cells_range {d:PyData} {s:Int} {ns:List Int} (e:cellsD d s=some ns):(∀n∈ns,0≤n∧n<s)∧ns.Pairwise (· < ·):=by
  obtain⟨ds,h,c,rfl⟩:=cells_some e
  refine⟨fun n hn=> ?_,?_⟩
  · have:=ints_in c n ((isort_perm _).mem_iff.mp hn)
    omega
  · have nd:(isort (intsD ds)).Nodup:=(isort_perm _).nodup_iff.mpr (of_decide_eq_true (Bool.and_eq_true_iff.mp c).2)
    exact ((isort_le (intsD ds)).and nd).imp fun h=>by
      have h1:=h.1
      have h2:=h.2
      omega
theorem cells_len {d:PyData} {s:Int} {ns:List Int} {m:Nat} (e:cellsD d s=some ns) (h: ∀ds,seqD d=some ds→ds.length≤m):ns.length≤m:=by
  obtain⟨ds,hs,c,rfl⟩:=cells_some e
  rw[(isort_perm _).length_eq]
  refine Nat.le_trans ?_ (h ds hs)
  unfold intsD
  exact List.length_filterMap_le _ _
def bitsL (m:Nat):List Int:=((List.range 64).filter fun i=>m.testBit i).map fun i=>((i:Nat):Int)
theorem and_nn (a b:Nat):Builtin.bitAnd (a:Int) (b:Int)=((a &&& b:Nat):Int):=by
  unfold Builtin.bitAnd
  rw[decide_eq_true (Int.natCast_nonneg a),decide_eq_true (Int.natCast_nonneg b)]
  simp
theorem bits_fit {m k:Nat} (h:m<2 ^ k):Builtin.Int.intBits (m:Int)≤k:=PySem.intBits_le_iff.mpr (by simpa using h)
theorem bits_over {m:Nat}:m<2 ^ Builtin.Int.intBits (m:Int):=by
  have h:=(PySem.intBits_le_iff (m:=Builtin.Int.intBits (m:Int)) (x:=(m:Int))).mp (Nat.le_refl _)
  simpa using h
theorem bit_at (m i:Nat):decide (Builtin.bitAnd ((m:Int) / 2 ^ i) 1=1)=m.testBit i:=by
  have e:(m:Int) / 2 ^ i=((m / 2 ^ i:Nat):Int):=by
    rw[Int.natCast_ediv,Int.natCast_pow]
    rfl
  rw[e,show (1:Int)=((1:Nat):Int) from rfl,and_nn,Nat.testBit_eq_decide_div_mod_eq,Nat.and_one_is_mod]
  rw[Bool.eq_iff_iff,decide_eq_true_eq,decide_eq_true_eq]
  omega
theorem filter_bits {m n k:Nat} (h:m<2 ^ n) (hk:n≤k):(List.range k).filter (fun i=>m.testBit i)=(List.range n).filter (fun i=>m.testBit i):=by
  obtain⟨j,rfl⟩:=Nat.exists_eq_add_of_le hk
  rw[List.range_add,List.filter_append]
  have e:((List.range j).map (n+ ·)).filter (fun i=>m.testBit i)= []:=by
    rw[List.filter_eq_nil_iff]
    intro i hi
    obtain⟨q,_,rfl⟩:=List.mem_map.mp hi
    have l:m<2 ^ (n+q):=Nat.lt_of_lt_of_le h (Nat.pow_le_pow_right (by decide) (Nat.le_add_right _ _))
    rw[Nat.testBit_lt_two_pow l]
    decide
  rw[e,List.append_nil]
theorem maskI_cons (n:Int) (ns:List Int):maskI (n::ns)=2 ^ n.toNat+maskI ns:=by
  show 1 * 2 ^ n.toNat+maskI ns=_
  rw[Int.one_mul]
def down (ns:List Int):List Int:=(ns.filter fun n=>decide (0<n)).map fun n=>n - 1
theorem maskI_down: ∀ {ns:List Int},(∀n∈ns,0≤n)→ns.Nodup→maskI ns=(if (0:Int)∈ns then 1 else 0)+2 * maskI (down ns)
  | [],_,_=>by simp[maskI,down]
  | n::ns,h,nd=>by
    have ih:=maskI_down (ns:=ns) (fun m hm=>h m (List.mem_cons_of_mem _ hm)) (List.nodup_cons.mp nd).2
    have h0:=h n List.mem_cons_self
    have nn:=(List.nodup_cons.mp nd).1
    by_cases c:n=0
    · subst c
      have e:down (0::ns)=down ns:=by simp[down]
      rw[maskI_cons,e,ih,if_neg nn,if_pos List.mem_cons_self]
      show (1:Int)+_=_
      omega
    · have e:down (n::ns)=(n - 1)::down ns:=by
        have q:decide (0<n)=true:=decide_eq_true (by omega)
        simp[down,q]
      have m0:((0:Int)∈n::ns)↔(0:Int)∈ns:=by
        rw[List.mem_cons]
        exact⟨fun z=>z.elim (fun z=>absurd z.symm c) id,.inr⟩
      have p:(2:Int) ^ n.toNat=2 * 2 ^ (n - 1).toNat:=by
        have:n.toNat=(n - 1).toNat+1:=by omega
        rw[this,Int.pow_succ,Int.mul_comm]
      rw[maskI_cons,e,maskI_cons,ih,p]
      by_cases z:(0:Int)∈ns
      · rw[if_pos z,if_pos (m0.mpr z)];omega
      · rw[if_neg z,if_neg (fun y=>z (m0.mp y))];omega
theorem down_nodup {ns:List Int} (h:ns.Nodup):(down ns).Nodup:=by
  unfold down
  rw[List.nodup_iff_pairwise_ne,List.pairwise_map]
  exact (List.Pairwise.filter _ h).imp fun h=>by omega
theorem down_mem {ns:List Int} {i:Int} (h:0≤i):i∈down ns↔i+1∈ns:=by
  unfold down
  rw[List.mem_map]
  constructor
  · rintro ⟨a,ha,rfl⟩
    have:=(List.mem_filter.mp ha).1
    rwa [show a - 1+1=a by omega]
  · intro m
    exact⟨i+1,List.mem_filter.mpr ⟨m,decide_eq_true (by omega)⟩,by omega⟩
theorem maskI_nn: ∀ns:List Int,0≤maskI ns
  | []=>by decide
  | n::ns=>by
    have:=maskI_nn ns
    have h:(0:Int)<2 ^ n.toNat:=Int.pow_pos (by decide)
    rw[maskI_cons]
    omega
theorem mask_bit: ∀(i:Nat) {ns:List Int},(∀n∈ns,0≤n)→ns.Nodup→(maskI ns).toNat.testBit i=decide ((i:Int)∈ns)
  | 0,ns,h,nd=>by
    have e:=maskI_down h nd
    have p:=maskI_nn (down ns)
    rw[Nat.testBit_zero]
    by_cases z:(0:Int)∈ns
    · rw[if_pos z] at e
      have:(maskI ns).toNat % 2=1:=by omega
      rw[this]
      simp[z]
    · rw[if_neg z] at e
      have:(maskI ns).toNat % 2=0:=by omega
      rw[this]
      simp[z]
  | i+1,ns,h,nd=>by
    have e:=maskI_down h nd
    have p:=maskI_nn (down ns)
    have ih:=mask_bit i (ns:=down ns) (fun n hn=>by
      obtain⟨a,ha,rfl⟩:=List.mem_map.mp hn
      have:=of_decide_eq_true (List.mem_filter.mp ha).2
      omega) (down_nodup nd)
    have d:(maskI ns).toNat / 2=(maskI (down ns)).toNat:=by
      split at e <;> omega
    rw[Nat.testBit_succ,d,ih]
    rw[Bool.eq_iff_iff,decide_eq_true_eq,decide_eq_true_eq,down_mem (Int.natCast_nonneg i)]
    rw[show ((i+1:Nat):Int)=(i:Int)+1 by omega]
theorem bits_of_mask {m:Nat} {ns:List Int} (h: ∀i<64,m.testBit i=decide ((i:Int)∈ns)) (hr: ∀n∈ns,0≤n∧n<64) (ha:ns.Pairwise (· < ·)):bitsL m=ns:=by
  have asc:(bitsL m).Pairwise (· < ·):=by
    unfold bitsL
    rw[List.pairwise_map]
    exact (List.pairwise_lt_range.filter _).imp fun h=>by omega
  have mem: ∀x,x∈bitsL m↔x∈ns:=by
    intro x
    unfold bitsL
    rw[List.mem_map]
    constructor
    · rintro ⟨i,hi,rfl⟩
      have q:=List.mem_filter.mp hi
      rw[h i (List.mem_range.mp q.1)] at q
      exact of_decide_eq_true q.2
    · intro hx
      have:=hr x hx
      refine⟨x.toNat,List.mem_filter.mpr ⟨List.mem_range.mpr (by omega),?_⟩,by omega⟩
      rw[h _ (by omega)]
      refine decide_eq_true ?_
      rwa [show ((x.toNat:Nat):Int)=x by omega]
  have pm:(bitsL m).Perm ns:=by
    refine (List.perm_ext_iff_of_nodup ?_ ?_).mpr mem
    · exact asc.imp fun h=>by omega
    · exact ha.imp fun h=>by omega
  exact pm.eq_of_pairwise (fun a b _ _ h1 h2=>by omega) asc ha
theorem mask_bits {m:Nat} (h:m<2 ^ 64):(maskI (bitsL m)).toNat=m:=by
  apply Nat.eq_of_testBit_eq
  intro i
  have nn: ∀n∈bitsL m,0≤n:=fun n hn=>by
    obtain⟨j,_,rfl⟩:=List.mem_map.mp hn
    omega
  have nd:(bitsL m).Nodup:=by
    unfold bitsL
    rw[List.nodup_iff_pairwise_ne,List.pairwise_map]
    exact (List.pairwise_lt_range.filter _).imp fun h=>by omega
  rw[mask_bit i nn nd,Bool.eq_iff_iff,decide_eq_true_eq]
  unfold bitsL
  rw[List.mem_map]
  constructor
  · rintro ⟨j,hj,e⟩
    have:j=i:=by omega
    subst this
    exact (List.mem_filter.mp hj).2
  · intro t
    refine⟨i,List.mem_filter.mpr ⟨List.mem_range.mpr ?_,t⟩,rfl⟩
    by_cases c:i<64
    · exact c
    · have l:m<2 ^ i:=Nat.lt_of_lt_of_le h (Nat.pow_le_pow_right (by decide) (by omega))
      rw[Nat.testBit_lt_two_pow l] at t
      cases t
theorem xor_and_or: ∀a b:Nat,(a ^^^ b)+(a &&& b)=a ||| b:=by
  intro a
  induction a using Nat.strongRecOn with
  | ind a ih=>
    intro b
    by_cases h:a=0
    · subst h
      simp
    · have i:=ih (a / 2) (by omega) (b / 2)
      have x1:=Nat.xor_div_two (a:=a) (b:=b)
      have x2:=Nat.and_div_two (a:=a) (b:=b)
      have x3:=Nat.or_div_two (a:=a) (b:=b)
      have y1:(a ^^^ b) % 2=(a % 2+b % 2) % 2:=by
        have e:(a ^^^ b) % 2=1↔ ¬ (a % 2=1↔b % 2=1):=Nat.xor_mod_two_eq_one
        omega
      have y2:(a &&& b) % 2=1↔a % 2=1∧b % 2=1:=Nat.and_mod_two_eq_one
      have y3:(a ||| b) % 2=1↔a % 2=1∨b % 2=1:=Nat.or_mod_two_eq_one
      omega
theorem xor_nn (a b:Nat):Builtin.bitXor (a:Int) (b:Int)=((a ^^^ b:Nat):Int):=by
  unfold Builtin.bitXor
  have o:Builtin.bitOr (a:Int) (b:Int)=((a ||| b:Nat):Int):=by
    have h:=bitOr_nn (Int.natCast_nonneg a) (Int.natCast_nonneg b)
    simpa using h
  rw[o,and_nn]
  have:=xor_and_or a b
  omega
def pop (n:Nat):Nat:=if h:n=0 then 0 else n % 2+pop (n / 2)
termination_by n
decreasing_by exact Nat.div_lt_self (Nat.pos_of_ne_zero h) (by decide)
theorem pop_zero:pop 0=0:=by rw[pop];rfl
theorem pop_step (n:Nat):pop n=n % 2+pop (n / 2):=by
  by_cases h:n=0
  · subst h
    rw[pop_zero]
  · rw[pop,dif_neg h]
theorem and_even (q:Nat) (h:0<q):(2 * q) &&& (2 * q - 1)=2 * (q &&& (q - 1)):=by
  apply Nat.eq_of_testBit_eq
  intro i
  have e:2 * q - 1=2 * (q - 1)+1:=by omega
  cases i with
  | zero=>
    rw[Nat.testBit_and]
    simp[Nat.testBit_zero]
  | succ i=>
    rw[Nat.testBit_and,Nat.testBit_succ,Nat.testBit_succ,Nat.testBit_succ,e]
    rw[show 2 * q / 2=q by omega,show (2 * (q - 1)+1) / 2=q - 1 by omega,show 2 * (q &&& (q - 1)) / 2=q &&& (q - 1) by omega,Nat.testBit_and]
theorem and_odd (q:Nat):(2 * q+1) &&& (2 * q)=2 * q:=by
  apply Nat.eq_of_testBit_eq
  intro i
  cases i with
  | zero=>
    rw[Nat.testBit_and]
    simp[Nat.testBit_zero]
  | succ i=>
    rw[Nat.testBit_and,Nat.testBit_succ,Nat.testBit_succ]
    rw[show (2 * q+1) / 2=q by omega,show 2 * q / 2=q by omega,Bool.and_self]
theorem pop_less: ∀(n:Nat),0<n→pop (n &&& (n - 1))+1=pop n:=by
  intro n
  induction n using Nat.strongRecOn with
  | ind n ih=>
    intro h
    rcases Nat.mod_two_eq_zero_or_one n with e | e
    · have hq:n=2 * (n / 2):=by omega
      have q0:0<n / 2:=by omega
      have i:=ih (n / 2) (by omega) q0
      rw[hq,and_even _ q0,pop_step (2 * (n / 2)),pop_step (2 * (n / 2 &&& (n / 2 - 1)))]
      rw[show 2 * (n / 2) % 2=0 by omega,show 2 * (n / 2) / 2=n / 2 by omega,show 2 * (n / 2 &&& (n / 2 - 1)) % 2=0 by omega,show 2 * (n / 2 &&& (n / 2 - 1)) / 2=(n / 2 &&& (n / 2 - 1)) by omega]
      omega
    · have hq:n=2 * (n / 2)+1:=by omega
      rw[hq,show 2 * (n / 2)+1 - 1=2 * (n / 2) by omega,and_odd,pop_step (2 * (n / 2)+1),pop_step (2 * (n / 2))]
      rw[show 2 * (n / 2) % 2=0 by omega,show 2 * (n / 2) / 2=n / 2 by omega,show (2 * (n / 2)+1) % 2=1 by omega,show (2 * (n / 2)+1) / 2=n / 2 by omega]
      omega
def oddN (m:Nat):Bool:=decide (pop m % 2=1)
theorem bits_mem {m:Nat} {n:Int} (h:n∈bitsL m):0≤n∧n<64∧m.testBit n.toNat=true:=by
  obtain⟨j,hj,rfl⟩:=List.mem_map.mp h
  have q:=List.mem_filter.mp hj
  have:=List.mem_range.mp q.1
  exact⟨by omega,by omega,by simpa using q.2⟩
theorem bits_below {m k:Nat} {n:Int} (hm:m<2 ^ k) (h:n∈bitsL m):0≤n∧n<k:=by
  obtain⟨h0,_,t⟩:=bits_mem h
  refine⟨h0,?_⟩
  by_cases c:n.toNat<k
  · omega
  · rw[Nat.testBit_lt_two_pow (Nat.lt_of_lt_of_le hm (Nat.pow_le_pow_right (by decide) (by omega)))] at t
    cases t
theorem bits_asc (m:Nat):(bitsL m).Pairwise (· < ·):=by
  unfold bitsL
  rw[List.pairwise_map]
  exact (List.pairwise_lt_range.filter _).imp fun h=>by omega
theorem bits_len (m:Nat):(bitsL m).length≤64:=by
  unfold bitsL
  rw[List.length_map]
  exact Nat.le_trans (List.length_filter_le _ _) (by simp)
theorem cells_asc {ns:List Int} {s:Int} (h: ∀n∈ns,0≤n∧n<s) (ha:ns.Pairwise (· < ·)):cellsD (tupI ns) s=some ns∧cellsD (lstI ns) s=some ns:=by
  have nd:ns.Nodup:=ha.imp fun h=>by omega
  have e:areCells 0 (s - 1) (ns.map PyData.int)=true:=by
    rw[areCells,Bool.and_eq_true,intsD_map,decide_eq_true_eq]
    refine⟨List.all_eq_true.mpr fun d hd=> ?_,nd⟩
    obtain⟨n,hn,rfl⟩:=List.mem_map.mp hd
    have:=h n hn
    simp only[intIn,Bool.and_eq_true,decide_eq_true_eq]
    omega
  have i:isort ns=ns:=(isort_is (List.Perm.refl ns) (ha.imp fun h=>by omega)).symm
  refine⟨?_,?_⟩
  · rw[tupI,cellsD_seq (ds:=ns.map PyData.int) rfl,if_pos e,intsD_map,i]
  · rw[lstI,cellsD_seq (ds:=ns.map PyData.int) rfl,if_pos e,intsD_map,i]
theorem mask_lt {ns:List Int} {k:Nat} (h: ∀n∈ns,0≤n∧n<k) (nd:ns.Nodup):(maskI ns).toNat<2 ^ k:=by
  refine Nat.lt_pow_two_of_testBit _ fun i hi=> ?_
  rw[mask_bit i (fun n hn=>(h n hn).1) nd]
  refine decide_eq_false fun m=> ?_
  have:=h _ m
  omega
theorem tameL_ints' {ns:List Int} {k:Nat} (h: ∀n∈ns,n.natAbs<2 ^ 250) (hl:ns.length≤k):TameL (ns.map .int) 1 k:=by
  refine (tameL_of (k:=1) (m:=0) fun d hd=> ?_).mono (Nat.le_refl _) (by simpa using hl)
  obtain⟨n,hn,rfl⟩:=List.mem_map.mp hd
  exact tame_int (h n hn)
theorem tame_lstI {ns:List Int} {k:Nat} (h: ∀n∈ns,n.natAbs<2 ^ 250) (hl:ns.length≤k):Tame (lstI ns) 2 k:=tame_lst (tameL_ints' h hl)
theorem tame_tupI' {ns:List Int} {k:Nat} (h: ∀n∈ns,n.natAbs<2 ^ 250) (hl:ns.length≤k):Tame (tupI ns) 2 k:=tame_tup (tameL_ints' h hl)
theorem tame_bits (m:Nat):Tame (tupI (bitsL m)) 2 64:=tame_tupI' (fun n hn=>by have:=bits_mem hn;omega) (bits_len m)
theorem rg_mem {a b n:Int} (h:n∈(List.range (b - a).toNat).map fun i=>a+((i:Nat):Int)):a≤n∧n<b:=by
  obtain⟨i,hi,rfl⟩:=List.mem_map.mp h
  have:=List.mem_range.mp hi
  omega
theorem rg_lt {a b:Int}:((List.range (b - a).toNat).map fun i=>a+((i:Nat):Int)).Pairwise (· < ·):=by
  rw[List.pairwise_map]
  exact List.pairwise_lt_range.imp fun h=>by omega
theorem asc_len: ∀ {ns:List Int} {l w:Int},(∀n∈ns,l≤n∧n<w)→ns.Pairwise (· < ·)→l≤w→(ns.length:Int)≤w - l
  | [],l,w,_,_,h=>by show (0:Int)≤w - l;omega
  | n::ns,l,w,h,hp,_=>by
    have h1:=h n List.mem_cons_self
    have p1:=(List.pairwise_cons.mp hp).1
    have ih:=asc_len (ns:=ns) (l:=n+1) (w:=w) (fun m hm=>⟨by have:=p1 m hm;omega,(h m (List.mem_cons_of_mem _ hm)).2⟩) (List.pairwise_cons.mp hp).2 (by omega)
    rw[List.length_cons]
    omega
theorem pop_filter: ∀(N k:Nat),k<2 ^ N→pop k=((List.range N).filter fun i=>k.testBit i).length
  | 0,k,h=>by
    have:k=0:=by omega
    subst this
    rw[pop_zero]
    rfl
  | N+1,k,h=>by
    have ih:=pop_filter N (k / 2) (by rw[Nat.pow_succ] at h;omega)
    rw[pop_step,ih,List.range_succ_eq_map,List.filter_cons,List.filter_map,Nat.testBit_zero]
    have e:((fun i=>k.testBit i) ∘ Nat.succ)=fun i=>(k / 2).testBit i:=by
      funext i
      rw[Function.comp_apply,Nat.succ_eq_add_one,Nat.testBit_succ]
    rw[e]
    rcases Nat.mod_two_eq_zero_or_one k with c | c <;> simp[c] <;> omega
theorem pop_and {m:Nat} {ns:List Int} (h: ∀n∈ns,0≤n∧n<64) (nd:ns.Nodup):
    pop ((maskI ns).toNat &&& m)=(ns.filter fun i=>m.testBit i.toNat).length:=by
  have lt:(maskI ns).toNat &&& m<2 ^ 64:=Nat.lt_of_le_of_lt Nat.and_le_left (mask_lt (k:=64) h nd)
  rw[pop_filter 64 _ lt]
  have pm:(((List.range 64).filter fun i=>((maskI ns).toNat &&& m).testBit i).map fun i=>((i:Nat):Int)).Perm (ns.filter fun i=>m.testBit i.toNat):=by
    refine (List.perm_ext_iff_of_nodup ?_ ?_).mpr ?_
    · rw[List.nodup_iff_pairwise_ne,List.pairwise_map]
      exact (List.pairwise_lt_range.filter _).imp fun h=>by omega
    · exact nd.filter _
    · intro a
      rw[List.mem_map,List.mem_filter]
      constructor
      · rintro ⟨i,hi,rfl⟩
        have q:=(List.mem_filter.mp hi).2
        rw[Nat.testBit_and,Bool.and_eq_true,mask_bit i (fun n hn=>(h n hn).1) nd] at q
        exact⟨of_decide_eq_true q.1,by rw[Int.toNat_natCast];exact q.2⟩
      · rintro ⟨ha,hb⟩
        have ra:=h a ha
        refine⟨a.toNat,List.mem_filter.mpr ⟨List.mem_range.mpr (by omega),?_⟩,by omega⟩
        rw[Nat.testBit_and,Bool.and_eq_true,mask_bit _ (fun n hn=>(h n hn).1) nd]
        exact⟨decide_eq_true (by rwa [show ((a.toNat:Nat):Int)=a by omega]),hb⟩
  have:=pm.length_eq
  rw[List.length_map] at this
  exact this
structure FlipOk (t g:Nat):Prop where
  lt:t<2 ^ 40
  lg:g<2 ^ 40
  fix:g.testBit 0=false
  ev:oddN (t &&& g)=false
def afterM (m t g:Nat):Nat:=if oddN (m &&& t) then m ^^^ g else m
theorem oddN_xor (a b:Nat):oddN (a ^^^ b)=(oddN a !=oddN b):=by
  have h: ∀(N a b:Nat),a<2 ^ N→b<2 ^ N→oddN (a ^^^ b)=(oddN a !=oddN b):=by
    intro N
    induction N with
    | zero=>
      intro a b ha hb
      have:a=0:=by omega
      have:b=0:=by omega
      subst a b
      simp[oddN,pop_zero]
    | succ N ih=>
      intro a b ha hb
      rw[Nat.pow_succ] at ha hb
      have i:=ih (a / 2) (b / 2) (by omega) (by omega)
      unfold oddN at i ⊢
      rw[pop_step (a ^^^ b),pop_step a,pop_step b,Nat.xor_div_two]
      have x:(a ^^^ b) % 2=(a % 2+b % 2) % 2:=by
        have e:(a ^^^ b) % 2=1↔ ¬ (a % 2=1↔b % 2=1):=Nat.xor_mod_two_eq_one
        omega
      generalize pop (a / 2 ^^^ b / 2)=P at i
      generalize pop (a / 2)=A at i
      generalize pop (b / 2)=B at i
      rw[x]
      clear x
      have dm: ∀c d:Nat,(decide (c % 2=1) !=decide (d % 2=1))=decide ((c+d) % 2=1):=by
        intro c d
        rcases Nat.mod_two_eq_zero_or_one c with e1 | e1 <;> rcases Nat.mod_two_eq_zero_or_one d with e2 | e2 <;> simp[e1,e2,Nat.add_mod]
      rw[dm] at i ⊢
      have i':P % 2=1↔(A+B) % 2=1:=by
        rw[← decide_eq_true_eq (p:=P % 2=1),i,decide_eq_true_eq]
      rw[Bool.eq_iff_iff,decide_eq_true_eq,decide_eq_true_eq]
      omega
  refine h (a+b) a b ?_ ?_
  · exact Nat.lt_of_lt_of_le Nat.lt_two_pow_self (Nat.pow_le_pow_right (by decide) (by omega))
  · exact Nat.lt_of_lt_of_le Nat.lt_two_pow_self (Nat.pow_le_pow_right (by decide) (by omega))
theorem and_xor_dist (a b c:Nat):(a ^^^ b) &&& c=(a &&& c) ^^^ (b &&& c):=Nat.and_xor_distrib_right ..
theorem afterM_test {m t g:Nat} (ev:oddN (t &&& g)=false):oddN (afterM m t g &&& t)=oddN (m &&& t):=by
  unfold afterM
  split
  · rw[and_xor_dist,oddN_xor,Nat.and_comm g t,ev]
    cases oddN (m &&& t) <;> rfl
  · rfl
theorem afterM_twice {m t g:Nat} (ev:oddN (t &&& g)=false):afterM (afterM m t g) t g=m:=by
  have h:=afterM_test (m:=m) ev
  by_cases c:oddN (m &&& t)=true
  · rw[c] at h
    have e:afterM m t g=m ^^^ g:=by unfold afterM;rw[if_pos c]
    rw[e] at h ⊢
    unfold afterM
    rw[if_pos h,Nat.xor_assoc,Nat.xor_self,Nat.xor_zero]
  · have e:afterM m t g=m:=by unfold afterM;rw[if_neg c]
    rw[e,e]
def widM (t g:Nat):Nat:=max 1 (Builtin.Int.intBits ((t ||| g:Nat):Int))
theorem widM_le {t g n:Nat} (h:1≤n):widM t g≤n↔t<2 ^ n∧g<2 ^ n:=by
  unfold widM
  rw[Nat.max_le]
  have e:Builtin.Int.intBits ((t ||| g:Nat):Int)≤n↔(t ||| g)<2 ^ n:=by
    have:=PySem.intBits_le_iff (m:=n) (x:=((t ||| g:Nat):Int))
    simpa using this
  rw[e]
  constructor
  · rintro ⟨_,h2⟩
    exact⟨Nat.lt_of_le_of_lt Nat.left_le_or h2,Nat.lt_of_le_of_lt Nat.right_le_or h2⟩
  · rintro ⟨h1,h2⟩
    exact⟨h,Nat.or_lt_two_pow h1 h2⟩
theorem or_nn (a b:Nat):Builtin.bitOr (a:Int) (b:Int)=((a ||| b:Nat):Int):=by
  have h:=bitOr_nn (Int.natCast_nonneg a) (Int.natCast_nonneg b)
  simpa using h
theorem maskN {ns:List Int}:maskI ns=(((maskI ns).toNat:Nat):Int):=by have:=maskI_nn ns;omega
structure PairOk (n:Nat) (ts gs:List Int):Prop where
  tr: ∀t∈ts,0≤t∧t<n
  ta:ts.Pairwise (· < ·)
  gr: ∀g∈gs,1≤g∧g<n
  ga:gs.Pairwise (· < ·)
  ev:(ts.filter fun t=>decide (t∈gs)).length % 2=0
section
variable {n : Nat} {ts gs : List Int}
theorem PairOk.tn (h:PairOk n ts gs):ts.Nodup:=h.ta.imp fun h=>by omega
theorem PairOk.gn (h:PairOk n ts gs):gs.Nodup:=h.ga.imp fun h=>by omega
theorem PairOk.g0 (h:PairOk n ts gs): ∀g∈gs,0≤g∧g<n:=fun g hg=>by have:=h.gr g hg;omega
theorem PairOk.no0 (h:PairOk n ts gs):(0:Int) ∉ gs:=fun m=>by have:=h.gr 0 m;omega
theorem PairOk.tl (h:PairOk n ts gs):ts.length≤n:=by have:=asc_len h.tr h.ta (by omega);omega
theorem PairOk.gl (h:PairOk n ts gs):gs.length≤n:=by have:=asc_len h.g0 h.ga (by omega);omega
theorem PairOk.even (h:PairOk n ts gs) (hn:n≤64):oddN ((maskI ts).toNat &&& (maskI gs).toNat)=false:=by
  unfold oddN
  rw[pop_and (fun t ht=>by have:=h.tr t ht;omega) h.tn]
  have e:(ts.filter fun i=>(maskI gs).toNat.testBit i.toNat)=ts.filter fun t=>decide (t∈gs):=by
    apply List.filter_congr
    intro t ht
    rw[mask_bit _ (fun g hg=>(h.g0 g hg).1) h.gn]
    have:=(h.tr t ht).1
    rw[show ((t.toNat:Nat):Int)=t by omega]
  rw[e,h.ev]
  rfl
theorem PairOk.flip (h:PairOk n ts gs) (hn:n≤40):FlipOk (maskI ts).toNat (maskI gs).toNat:=by
  refine⟨mask_lt (k:=40) (fun t ht=>by have:=h.tr t ht;omega) h.tn,mask_lt (k:=40) (fun t ht=>by have:=h.gr t ht;omega) h.gn,?_,h.even (by omega)⟩
  rw[mask_bit 0 (fun g hg=>(h.g0 g hg).1) h.gn]
  exact decide_eq_false h.no0
theorem PairOk.mono (h:PairOk n ts gs) {k:Nat} (hk:n≤k):PairOk k ts gs:=
  ⟨fun t ht=>by have:=h.tr t ht;omega,h.ta,fun t ht=>by have:=h.gr t ht;omega,h.ga,h.ev⟩
theorem filter_ne_len {l:List Int} {g:Int} (nd:l.Nodup) (m:g∈l):(l.filter fun t=> !decide (t=g)).length+1=l.length:=by
  have e:(l.filter fun t=> !decide (t=g))=l.erase g:=by
    rw[nd.erase_eq_filter]
    apply List.filter_congr
    intro t _
    by_cases c:t=g <;> simp[c]
  rw[e,List.length_erase_of_mem m]
  have:=List.length_pos_of_mem m
  omega
theorem PairOk.lessT {g:Int} (tr: ∀t∈ts,0≤t∧t<n) (ta:ts.Pairwise (· < ·)) (gr: ∀g∈gs,1≤g∧g<n) (ga:gs.Pairwise (· < ·)) (od:(ts.filter fun t=>decide (t∈gs)).length % 2=1)
    (m:g∈ts.filter fun t=>decide (t∈gs)):PairOk n (ts.filter fun t=> !decide (t=g)) gs:=by
  refine⟨fun t ht=>tr t ((List.mem_filter.mp ht).1),ta.filter _,gr,ga,?_⟩
  have tn:ts.Nodup:=ta.imp fun h=>by omega
  have e:((ts.filter fun t=> !decide (t=g)).filter fun t=>decide (t∈gs))=(ts.filter fun t=>decide (t∈gs)).filter fun t=> !decide (t=g):=by
    rw[List.filter_filter,List.filter_filter]
    apply List.filter_congr
    intro t _
    rw[Bool.and_comm]
  rw[e]
  have:=filter_ne_len (tn.filter _) m
  omega
theorem PairOk.lessG {g:Int} (tr: ∀t∈ts,0≤t∧t<n) (ta:ts.Pairwise (· < ·)) (gr: ∀g∈gs,1≤g∧g<n) (ga:gs.Pairwise (· < ·)) (od:(ts.filter fun t=>decide (t∈gs)).length % 2=1)
    (m:g∈ts.filter fun t=>decide (t∈gs)):PairOk n ts (gs.filter fun t=> !decide (t=g)):=by
  refine⟨tr,ta,fun t ht=>gr t ((List.mem_filter.mp ht).1),ga.filter _,?_⟩
  have tn:ts.Nodup:=ta.imp fun h=>by omega
  have e:(ts.filter fun t=>decide (t∈gs.filter fun t=> !decide (t=g)))=(ts.filter fun t=>decide (t∈gs)).filter fun t=> !decide (t=g):=by
    rw[List.filter_filter]
    apply List.filter_congr
    intro t _
    rw[Bool.eq_iff_iff,decide_eq_true_eq,List.mem_filter,Bool.and_eq_true,decide_eq_true_eq,Bool.not_eq_true',decide_eq_false_iff_not]
    exact And.comm
  rw[e]
  have:=filter_ne_len (tn.filter _) m
  omega
theorem PairOk.ct (h:PairOk n ts gs) (hn:n≤40):cellsD (lstI ts) 40=some ts∧cellsD (tupI ts) 40=some ts:=(cells_asc (fun t ht=>by have:=h.tr t ht;omega) h.ta).symm
theorem PairOk.cg (h:PairOk n ts gs) (hn:n≤40):cellsD (lstI gs) 40=some gs∧cellsD (tupI gs) 40=some gs:=(cells_asc (fun t ht=>by have:=h.gr t ht;omega) h.ga).symm
theorem PairOk.tt (h:PairOk n ts gs) (hn:n≤40):Tame (lstI ts) 2 40:=tame_lstI (fun t ht=>by have:=h.tr t ht;omega) (by have:=h.tl;omega)
theorem PairOk.tg (h:PairOk n ts gs) (hn:n≤40):Tame (lstI gs) 2 40:=tame_lstI (fun t ht=>by have:=h.gr t ht;omega) (by have:=h.gl;omega)
theorem PairOk.wid (h:PairOk n ts gs) (h1:1≤n):widM (maskI ts).toNat (maskI gs).toNat≤n:=
  (widM_le h1).mpr ⟨mask_lt h.tr h.tn,mask_lt h.g0 h.gn⟩
end
theorem mask_lt_iff {ns:List Int} {k:Nat} (h: ∀n∈ns,0≤n) (nd:ns.Nodup):(maskI ns).toNat<2 ^ k↔ ∀n∈ns,n<k:=by
  constructor
  · intro lt n hn
    have h0:=h n hn
    have b:=mask_bit n.toNat h nd
    rw[show ((n.toNat:Nat):Int)=n by omega,decide_eq_true hn] at b
    by_cases c:n<k
    · exact c
    · rw[Nat.testBit_lt_two_pow (Nat.lt_of_lt_of_le lt (Nat.pow_le_pow_right (by decide) (by omega)))] at b
      cases b
  · intro lt
    exact mask_lt (fun n hn=>⟨h n hn,lt n hn⟩) nd
theorem bits_isort {ns:List Int} (hr: ∀n∈ns,0≤n∧n<64) (nd:ns.Nodup):bitsL (maskI ns).toNat=isort ns:=by
  refine bits_of_mask (fun i _=> ?_) (fun n hn=>hr n ((isort_perm ns).mem_iff.mp hn)) ?_
  · rw[mask_bit i (fun n hn=>(hr n hn).1) nd,Bool.eq_iff_iff,decide_eq_true_eq,decide_eq_true_eq,(isort_perm ns).mem_iff]
  · have nd2:(isort ns).Nodup:=(isort_perm ns).nodup_iff.mpr nd
    exact ((isort_le ns).and nd2).imp fun h=>by
      have h1:=h.1
      have h2:=h.2
      omega
theorem PairOk.max {n:Nat} {ts gs:List Int} {m:Int} (h:PairOk n ts gs) (mm:m∈ [0]++ts++gs) (hm: ∀y∈ [0]++ts++gs,y≤m):1+m=((widM (maskI ts).toNat (maskI gs).toNat:Nat):Int):=by
  have m0:0≤m:=hm 0 (by simp)
  have key: ∀k:Nat,1≤k→(widM (maskI ts).toNat (maskI gs).toNat≤k↔1+m≤k):=by
    intro k hk
    rw[widM_le hk,mask_lt_iff (fun t ht=>(h.tr t ht).1) h.tn,mask_lt_iff (fun t ht=>(h.g0 t ht).1) h.gn]
    constructor
    · rintro ⟨h1,h2⟩
      simp only[List.mem_append,List.mem_singleton] at mm
      rcases mm with (rfl | mm) | mm
      · omega
      · have:=h1 m mm
        omega
      · have:=h2 m mm
        omega
    · intro hk2
      refine⟨fun t ht=> ?_,fun t ht=> ?_⟩
      · have:=hm t (by simp[ht])
        omega
      · have:=hm t (by simp[ht])
        omega
  have w1:1≤widM (maskI ts).toNat (maskI gs).toNat:=Nat.le_max_left ..
  have a:=(key _ w1).mp (Nat.le_refl _)
  have b:=(key (1+m).toNat (by omega)).mpr (by omega)
  omega
def afterL (m:Nat) (fl:List (Nat×Nat)):Nat:=fl.foldl (fun m f=>afterM m f.1 f.2) m
def wideF (n:Nat) (fl:List (Nat×Nat)):Option (Nat×Nat):=fl.find? fun f=>decide (n<widM f.1 f.2)
theorem take_wide {n:Nat} {fl:List (Nat×Nat)} {i:Nat} {f:Nat×Nat} (hf:fl[i]?=some f) (h:wideF n (fl.take i)=none) (w:n<widM f.1 f.2):wideF n fl=some f:=by
  have hi:=(List.getElem?_eq_some_iff.mp hf).1
  have e:fl=fl.take i++f::fl.drop (i+1):=by
    have:=(List.getElem?_eq_some_iff.mp hf).2
    rw[← this,← List.drop_eq_getElem_cons hi,List.take_append_drop]
  unfold wideF at h ⊢
  rw[e,List.find?_append,h,List.find?_cons,decide_eq_true w]
  rfl
theorem wide_snoc {n:Nat} {l:List (Nat×Nat)} {f:Nat×Nat} (h:wideF n l=none) (w:widM f.1 f.2≤n):wideF n (l++ [f])=none:=by
  unfold wideF at h ⊢
  rw[List.find?_append,h,List.find?_cons,decide_eq_false (by omega)]
  rfl
theorem asc_eq {ns ms:List Int} (hn: ∀n∈ns,0≤n) (an:ns.Pairwise (· < ·)) (hm: ∀n∈ms,0≤n) (am:ms.Pairwise (· < ·)) (h:maskI ns=maskI ms):ns=ms:=by
  have nn:ns.Nodup:=an.imp fun h=>by omega
  have mn:ms.Nodup:=am.imp fun h=>by omega
  have pm:ns.Perm ms:=by
    refine (List.perm_ext_iff_of_nodup nn mn).mpr fun a=> ?_
    by_cases h0:0≤a
    · have b1:=mask_bit a.toNat hn nn
      have b2:=mask_bit a.toNat hm mn
      rw[h,b2] at b1
      rw[show ((a.toNat:Nat):Int)=a by omega] at b1
      have:=(Bool.eq_iff_iff.mp b1)
      rw[decide_eq_true_eq,decide_eq_true_eq] at this
      exact this.symm
    · exact⟨fun z=>absurd (hn a z) h0,fun z=>absurd (hm a z) h0⟩
  exact pm.eq_of_pairwise (fun a b _ _ h1 h2=>by omega) an am
def symD (a b:List Int):List Int:=isort ((a.filter fun t=> !decide (t∈b))++b.filter fun t=> !decide (t∈a))
theorem mem_symD {a b:List Int} {x:Int}:x∈symD a b↔(x∈a∧x ∉ b)∨(x∈b∧x ∉ a):=by
  unfold symD
  rw[(isort_perm _).mem_iff,List.mem_append,List.mem_filter,List.mem_filter]
  simp
theorem symD_nodup {a b:List Int} (ha:a.Nodup) (hb:b.Nodup):(symD a b).Nodup:=by
  unfold symD
  rw[(isort_perm _).nodup_iff,List.nodup_append]
  refine⟨ha.filter _,hb.filter _,?_⟩
  intro x hx y hy e
  subst e
  simp at hx hy
  exact hx.2 hy.1
theorem symD_asc {a b:List Int} (ha:a.Nodup) (hb:b.Nodup):(symD a b).Pairwise (· < ·):=by
  have nd:=symD_nodup ha hb
  exact ((isort_le _).and nd).imp fun h=>by
    have h1:=h.1
    have h2:=h.2
    omega
theorem symD_mask {a b:List Int} (ha: ∀x∈a,0≤x) (na:a.Nodup) (hb: ∀x∈b,0≤x) (nb:b.Nodup):(maskI (symD a b)).toNat=(maskI a).toNat ^^^ (maskI b).toNat:=by
  have hs: ∀x∈symD a b,0≤x:=fun x hx=>(mem_symD.mp hx).elim (fun h=>ha x h.1) (fun h=>hb x h.1)
  apply Nat.eq_of_testBit_eq
  intro i
  rw[Nat.testBit_xor,mask_bit i hs (symD_nodup na nb),mask_bit i ha na,mask_bit i hb nb]
  by_cases h1:((i:Nat):Int)∈a <;> by_cases h2:((i:Nat):Int)∈b <;> simp[mem_symD,h1,h2]
theorem symD_bits {a b:List Int} (ha: ∀x∈a,0≤x∧x<64) (na:a.Nodup) (hb: ∀x∈b,0≤x∧x<64) (nb:b.Nodup):symD a b=bitsL ((maskI a).toNat ^^^ (maskI b).toNat):=by
  have la:(maskI a).toNat<2 ^ 64:=mask_lt (k:=64) ha na
  have lb:(maskI b).toNat<2 ^ 64:=mask_lt (k:=64) hb nb
  have e:=symD_mask (fun x hx=>(ha x hx).1) na (fun x hx=>(hb x hx).1) nb
  have hs: ∀x∈symD a b,0≤x:=fun x hx=>(mem_symD.mp hx).elim (fun h=>(ha x h.1).1) (fun h=>(hb x h.1).1)
  refine asc_eq hs (symD_asc na nb) (fun n hn=>(bits_mem hn).1) (bits_asc _) ?_
  have e2:=mask_bits (Nat.xor_lt_two_pow la lb)
  have n1:=maskI_nn (symD a b)
  have n2:=maskI_nn (bitsL ((maskI a).toNat ^^^ (maskI b).toNat))
  omega
theorem bits_self {a:List Int} (ha: ∀x∈a,0≤x∧x<64) (aa:a.Pairwise (· < ·)):bitsL (maskI a).toNat=a:=by
  rw[bits_isort ha (aa.imp fun h=>by omega)]
  exact (isort_is (List.Perm.refl a) (aa.imp fun h=>by omega)).symm
def intsTo (n:Nat):List Int:=(List.range n).map fun i=>((i:Nat):Int)
theorem mem_intsTo {n:Nat} {k:Int}:k∈intsTo n↔0≤k∧k<n:=by
  unfold intsTo
  rw[List.mem_map]
  constructor
  · rintro ⟨i,hi,rfl⟩
    have:=List.mem_range.mp hi
    omega
  · rintro ⟨h1,h2⟩
    exact⟨k.toNat,List.mem_range.mpr (by omega),by omega⟩
def bln (m:Nat):Nat:=Builtin.Int.intBits (m:Int)
theorem bln_le {m k:Nat}:bln m≤k↔m<2 ^ k:=by
  have:=PySem.intBits_le_iff (m:=k) (x:=(m:Int))
  simpa [bln] using this
theorem bln_zero:bln 0=0:=by
  have:=(bln_le (m:=0) (k:=0)).mpr (by decide)
  omega
theorem bln_pos {m:Nat} (h:m≠0):1≤bln m:=by
  rcases Nat.eq_zero_or_pos (bln m) with z | z
  · have:=(bln_le (m:=m) (k:=0)).mp (by omega)
    omega
  · exact z
theorem bln_top {m:Nat} (h:m≠0):m.testBit (bln m - 1)=true:=by
  have p:=bln_pos h
  have a:m<2 ^ bln m:=bln_le.mp (Nat.le_refl _)
  have b: ¬ m<2 ^ (bln m - 1):=fun z=>by have:=bln_le.mpr z;omega
  rw[Nat.testBit_eq_decide_div_mod_eq,decide_eq_true_eq]
  have e:2 ^ bln m=2 ^ (bln m - 1) * 2:=by rw[← Nat.pow_succ];congr 1;omega
  rw[e] at a
  have q1:1≤m / 2 ^ (bln m - 1):=(Nat.le_div_iff_mul_le (Nat.two_pow_pos _)).mpr (by omega)
  have q2:m / 2 ^ (bln m - 1)<2:=(Nat.div_lt_iff_lt_mul (Nat.two_pow_pos _)).mpr (by omega)
  omega
theorem bln_xor {m r:Nat} (h:bln m=bln r) (hr:r≠0):bln (m ^^^ r)<bln m:=by
  have p:=bln_pos hr
  have hm:m≠0:=fun z=>by rw[z,bln_zero] at h;omega
  have a:m<2 ^ bln m:=bln_le.mp (Nat.le_refl _)
  have b:r<2 ^ bln m:=by rw[h];exact bln_le.mp (Nat.le_refl _)
  have c:=Nat.xor_lt_two_pow a b
  have d:(m ^^^ r).testBit (bln m - 1)=false:=by
    rw[Nat.testBit_xor,bln_top hm]
    have:=bln_top hr
    rw[← h] at this
    rw[this]
    rfl
  have e:m ^^^ r<2 ^ (bln m - 1):=by
    refine Nat.lt_pow_two_of_testBit _ fun j hj=> ?_
    by_cases z:j=bln m - 1
    · rw[z];exact d
    · exact Nat.testBit_lt_two_pow (Nat.lt_of_lt_of_le c (Nat.pow_le_pow_right (by decide) (by omega)))
  have:=bln_le.mpr e
  omega
abbrev Ech:=List (Nat×Nat×Nat)
inductive Spn (E:Ech):Nat→Nat→Prop where
  | zero:Spn E 0 0
  | add {L r u m i:Nat} (h:(L,r,u)∈E) (s:Spn E m i):Spn E (m ^^^ r) (i ^^^ u)
theorem Spn.even {E:Ech} {b:Nat} (h: ∀L r u,(L,r,u)∈E→oddN (r &&& b)=false) {m i:Nat} (s:Spn E m i):oddN (m &&& b)=false:=by
  induction s with
  | zero=>rw[Nat.zero_and];simp[oddN,pop_zero]
  | add hm _ ih=>rw[and_xor_dist,oddN_xor,ih,h _ _ _ hm];rfl
structure EchOk (E:Ech):Prop where
  ok: ∀L r u,(L,r,u)∈E→r≠0∧bln r=L∧r<2 ^ 40
def EchGet (E:Ech) (L:Nat):Option (Nat×Nat):=(E.find? fun e=>decide (e.1=L)).map (·.2)
theorem EchGet.mem {E:Ech} {L:Nat} {x:Nat×Nat} (h:EchGet E L=some x):(L,x.1,x.2)∈E:=by
  obtain⟨⟨L',r,u⟩,e,rfl⟩:=Option.map_eq_some_iff.mp h
  have a:=List.find?_some e
  have:=of_decide_eq_true a
  have b:=List.mem_of_find?_eq_some e
  simp only at this
  subst this
  exact b
theorem EchGet.cons {E:Ech} {L r u j:Nat}:EchGet ((L,r,u)::E) j=if j=L then some (r,u) else EchGet E j:=by
  unfold EchGet
  rw[List.find?_cons]
  by_cases c:j=L
  · subst c;simp
  · have:decide (L=j)=false:=decide_eq_false fun z=>c z.symm
    simp[this,c]
def Free (masks:List Nat):Prop:= ∀(i:Nat) (h:i<masks.length),∃b,(∀(j:Nat) (hj:j<i),oddN (masks[j] &&& b)=false)∧oddN (masks[i] &&& b)=true
def rGetL (K:PySem.W.Frag):V→V→Hp→VK→Prop:=fun x y H Q=> ∃p xs,∃i:Nat,∃v,x= .ref p∧y= .int i∧SqL K H p xs∧xs[i]?=some v∧Q v H
theorem pg_ix {X:Cx} {K:PySem.W.Frag} (h:X.K=K):PGet X (rGetL K):=by
  subst h
  intro pins s σ H x y v u Q I rx ry h
  obtain⟨p,xs,i,z,rfl,rfl,hq,he,q⟩:=h
  cases rx
  obtain⟨t,rfl⟩:=ry
  obtain⟨its,r,pl,hz⟩:=I.list hq
  obtain⟨w,ew,rw'⟩:=r.get he
  have hl:i<its.length:=(List.getElem?_eq_some_iff.mp ew).1
  have hs:=sizeLine_eq
  exact wpAny_getItem_list pl.isList (Int.natCast_nonneg i) (by have:=r.length;omega) (by simpa using ew) ⟨z,H,I,rw',q⟩
section
variable {σ : L2.St} {H : Hp} {Q : VK} {D : Ends} {td ty tv te : TE} {i : Nat} {ti : TIp}
end
def intsN (ms:List Nat):List Int:=ms.map fun m=>((m:Nat):Int)
structure RowsOk (d:PyData) (ms:List Nat):Prop where
  ex: ∃ds,seqD d=some ds∧ds.length=ms.length∧ ∀(i:Nat) (h:i<ms.length) e,ds[i]?=some e→cellsD e ms.length=some (bitsL ms[i])∧Tame e 40 50000
  n1:1≤ms.length
  n40:ms.length≤40
  lt: ∀m∈ms,m<2 ^ 40
theorem Spn.self {E:Ech} {L r u:Nat} (h:(L,r,u)∈E):Spn E r u:=by
  have:=Spn.add h (Spn.zero (E:=E))
  rwa [Nat.zero_xor,Nat.zero_xor] at this
theorem EchOk.cons {E:Ech} {r u:Nat} (h:EchOk E) (r0:r≠0) (l:r<2 ^ 40):EchOk ((bln r,r,u)::E):=⟨fun L r' u' m=>by
  rcases List.mem_cons.mp m with z | z
  · cases z;exact⟨r0,rfl,l⟩
  · exact h.ok _ _ _ z⟩
def xorOf (ms:List Nat) (cs:List Int):Nat:=cs.foldl (fun a c=>a ^^^ ms.getD c.toNat 0) 0
theorem xorOf_from (ms:List Nat): ∀(cs:List Int) (a:Nat),cs.foldl (fun a c=>a ^^^ ms.getD c.toNat 0) a=a ^^^ xorOf ms cs
  | [],a=>by simp[xorOf]
  | c::cs,a=>by
    unfold xorOf
    rw[List.foldl_cons,List.foldl_cons,xorOf_from ms cs,xorOf_from ms cs,Nat.zero_xor,Nat.xor_assoc]
theorem xorOf_odd {ms:List Nat} {m k:Nat}: ∀ {cs:List Int},(∀c∈cs,oddN (ms.getD c.toNat 0 &&& m)=k.testBit c.toNat)→
    oddN (xorOf ms cs &&& m)=decide ((cs.filter fun c=>k.testBit c.toNat).length % 2=1)
  | [],_=>by
    show oddN (0 &&& m)=_
    rw[Nat.zero_and]
    simp[oddN,pop_zero]
  | c::cs,h=>by
    have ih:=xorOf_odd (cs:=cs) fun d hd=>h d (List.mem_cons_of_mem _ hd)
    unfold xorOf
    rw[List.foldl_cons,xorOf_from,Nat.zero_xor,and_xor_dist,oddN_xor,h c (by simp),ih,List.filter_cons]
    cases e:k.testBit c.toNat
    · simp
    · rw[if_pos rfl,List.length_cons,Bool.eq_iff_iff]
      simp
      omega
theorem xorOf_lt {ms:List Nat} {n:Nat} (h: ∀x∈ms,x<2 ^ n): ∀cs:List Int,xorOf ms cs<2 ^ n
  | []=>by
    show 0<2 ^ n
    exact Nat.two_pow_pos n
  | c::cs=>by
    unfold xorOf
    rw[List.foldl_cons,xorOf_from,Nat.zero_xor]
    refine Nat.xor_lt_two_pow ?_ (xorOf_lt h cs)
    rw[List.getD_eq_getElem?_getD]
    cases e:ms[c.toNat]? with
    | none=>exact Nat.two_pow_pos n
    | some x=>exact h x (List.mem_of_getElem? e)
def stepT (ms:List Nat) (t g:Nat):List Nat:=(List.range ms.length).map fun i=>if g.testBit i=true then ms.getD i 0 ^^^ xorOf ms (bitsL t) else ms.getD i 0
structure TabInv (n:Nat) (fl:List (Nat×Nat)) (ms:List Nat):Prop where
  len:ms.length=n
  ok: ∀m i,i<n→oddN (ms.getD i 0 &&& m)=(afterL m fl).testBit i
  lt: ∀x∈ms,x<2 ^ n
  first:ms.getD 0 0=1
theorem stepT_get {ms:List Nat} {t g i:Nat} (h:i<ms.length):(stepT ms t g).getD i 0=if g.testBit i=true then ms.getD i 0 ^^^ xorOf ms (bitsL t) else ms.getD i 0:=by
  unfold stepT
  rw[List.getD_eq_getElem?_getD,List.getElem?_map,List.getElem?_range h]
  rfl
theorem TabInv.step {n:Nat} {fl:List (Nat×Nat)} {ms:List Nat} (h:TabInv n fl ms) {t g:Nat} (n1:1≤n) (n40:n≤40) (ht:t<2 ^ n) (g0:g.testBit 0=false):TabInv n (fl++ [(t,g)]) (stepT ms t g):=by
  have t64:t<2 ^ 64:=Nat.lt_of_lt_of_le ht (Nat.pow_le_pow_right (by decide) (by omega))
  refine⟨by unfold stepT;rw[List.length_map,List.length_range];exact h.len,fun m i hi=> ?_,fun x hx=> ?_,?_⟩
  · have e:afterL m (fl++ [(t,g)])=afterM (afterL m fl) t g:=by
      unfold afterL
      rw[List.foldl_append]
      rfl
    have hx:=xorOf_odd (ms:=ms) (m:=m) (k:=afterL m fl) (cs:=bitsL t) fun c hc=>by
      have:=bits_below ht hc
      exact h.ok m c.toNat (by omega)
    have hp:=pop_and (ns:=bitsL t) (m:=afterL m fl) (fun c hc=>by have:=bits_mem hc;omega) ((bits_asc t).imp fun h=>by omega)
    rw[mask_bits t64] at hp
    have ho:oddN (afterL m fl &&& t)=oddN (xorOf ms (bitsL t) &&& m):=by
      rw[hx,Nat.and_comm]
      unfold oddN
      rw[hp]
    rw[e,stepT_get (by rw[h.len];exact hi),afterM]
    by_cases o:oddN (afterL m fl &&& t)=true
    · rw[if_pos o,Nat.testBit_xor]
      by_cases c:g.testBit i=true
      · rw[if_pos c,and_xor_dist,oddN_xor,h.ok m i hi,← ho,o,c]
      · rw[if_neg c,h.ok m i hi,Bool.eq_false_iff.mpr c,Bool.xor_false]
    · rw[if_neg o]
      by_cases c:g.testBit i=true
      · rw[if_pos c,and_xor_dist,oddN_xor,h.ok m i hi,← ho,Bool.eq_false_iff.mpr o]
        cases (afterL m fl).testBit i <;> rfl
      · rw[if_neg c,h.ok m i hi]
  · unfold stepT at hx
    obtain⟨i,hi,rfl⟩:=List.mem_map.mp hx
    have hg:ms.getD i 0<2 ^ n:=by
      have:=List.mem_range.mp hi
      rw[List.getD_eq_getElem?_getD,List.getElem?_eq_getElem this]
      exact h.lt _ (List.getElem_mem this)
    split
    · exact Nat.xor_lt_two_pow hg (xorOf_lt h.lt _)
    · exact hg
  · rw[stepT_get (by rw[h.len];omega),if_neg (by rw[g0];decide)]
    exact h.first
theorem after_back: ∀(fl:List (Nat×Nat)),(∀f∈fl,oddN (f.1 &&& f.2)=false)→ ∀x,afterL (afterL x fl.reverse) fl=x
  | [],_,x=>rfl
  | f::fl,h,x=>by
    have ih:=after_back fl (fun g hg=>h g (List.mem_cons_of_mem _ hg)) x
    have e1:afterL x (f::fl).reverse=afterM (afterL x fl.reverse) f.1 f.2:=by
      rw[List.reverse_cons]
      unfold afterL
      rw[List.foldl_append]
      rfl
    have e2: ∀y,afterL y (f::fl)=afterL (afterM y f.1 f.2) fl:=fun y=>rfl
    rw[e1,e2,afterM_twice (h f (by simp)),ih]
theorem TabInv.free {n:Nat} {fl:List (Nat×Nat)} {ms:List Nat} (h:TabInv n fl ms) (hf: ∀f∈fl,oddN (f.1 &&& f.2)=false):Free ms:=by
  intro i hi
  have gd: ∀(j:Nat) (hj:j<ms.length),ms.getD j 0=ms[j]:=fun j hj=>by rw[List.getD_eq_getElem?_getD,List.getElem?_eq_getElem hj];rfl
  refine⟨afterL (2 ^ i) fl.reverse,fun j hj=> ?_,?_⟩
  · rw[← gd j (by omega),h.ok _ j (by rw[← h.len];omega),after_back fl hf,Nat.testBit_two_pow]
    simp
    omega
  · rw[← gd i hi,h.ok _ i (by rw[← h.len];exact hi),after_back fl hf,Nat.testBit_two_pow]
    simp
theorem pop_two2 (k:Nat):pop (2 ^ k)=1:=by
  induction k with
  | zero=>rw[pop_step,pop_zero]
  | succ k ih=>
    rw[pop_step,Nat.pow_succ,show 2 ^ k * 2 % 2=0 by omega,show 2 ^ k * 2 / 2=2 ^ k by omega,ih]
theorem tab_start {n:Nat} (n1:1≤n):TabInv n [] ((List.range n).map fun i=>2 ^ i):=by
  refine⟨by simp,fun m i hi=> ?_,fun x hx=> ?_,?_⟩
  · show oddN (_ &&& m)=m.testBit i
    rw[List.getD_eq_getElem?_getD,List.getElem?_map,List.getElem?_range hi]
    show oddN (2 ^ i &&& m)=m.testBit i
    have e:2 ^ i &&& m=if m.testBit i=true then 2 ^ i else 0:=by
      apply Nat.eq_of_testBit_eq
      intro j
      rw[Nat.testBit_and,Nat.testBit_two_pow]
      by_cases c:i=j
      · subst c
        by_cases z:m.testBit i=true
        · simp[z,Nat.testBit_two_pow]
        · simp[z]
      · by_cases z:m.testBit i=true <;> simp[z,c,Nat.testBit_two_pow]
    rw[e]
    by_cases z:m.testBit i=true
    · rw[if_pos z,z]
      unfold oddN
      rw[pop_two2]
      rfl
    · rw[if_neg z,Bool.eq_false_iff.mpr z]
      simp[oddN,pop_zero]
  · obtain⟨i,hi,rfl⟩:=List.mem_map.mp hx
    exact Nat.pow_lt_pow_right (by decide) (List.mem_range.mp hi)
  · rw[List.getD_eq_getElem?_getD,List.getElem?_map,List.getElem?_range (by omega)]
    rfl
theorem xorOf_take {ms:List Nat} {cs:List Int} {j:Nat} (h:j<cs.length):xorOf ms (cs.take (j+1))=xorOf ms (cs.take j) ^^^ ms.getD cs[j].toNat 0:=by
  rw[List.take_add_one,List.getElem?_eq_getElem h]
  unfold xorOf
  rw[List.foldl_append]
  rfl
def updG (ms:List Nat) (T:Nat) (cs:List Int):List Nat:=cs.foldl (fun ms c=>ms.set c.toNat (ms.getD c.toNat 0 ^^^ T)) ms
theorem updG_take {ms:List Nat} {T:Nat} {cs:List Int} {j:Nat} (h:j<cs.length):updG ms T (cs.take (j+1))=(updG ms T (cs.take j)).set cs[j].toNat ((updG ms T (cs.take j)).getD cs[j].toNat 0 ^^^ T):=by
  rw[List.take_add_one,List.getElem?_eq_getElem h]
  unfold updG
  rw[List.foldl_append]
  rfl
theorem updG_len (T:Nat): ∀(cs:List Int) (ms:List Nat),(updG ms T cs).length=ms.length
  | [],ms=>rfl
  | c::cs,ms=>by
    unfold updG
    rw[List.foldl_cons]
    exact (updG_len T cs _).trans (by rw[List.length_set])
theorem updG_get (T:Nat): ∀(cs:List Int) (ms:List Nat),(∀c∈cs,0≤c∧c<ms.length)→cs.Nodup→ ∀i,i<ms.length→
    (updG ms T cs).getD i 0=if ((i:Nat):Int)∈cs then ms.getD i 0 ^^^ T else ms.getD i 0
  | [],ms,_,_,i,_=>by simp[updG]
  | c::cs,ms,h,nd,i,hi=>by
    have hc:=h c (by simp)
    have ih:=updG_get T cs (ms.set c.toNat (ms.getD c.toNat 0 ^^^ T)) (fun d hd=>by rw[List.length_set];exact h d (List.mem_cons_of_mem _ hd)) (List.nodup_cons.mp nd).2 i (by rw[List.length_set];exact hi)
    have e:updG ms T (c::cs)=updG (ms.set c.toNat (ms.getD c.toNat 0 ^^^ T)) T cs:=rfl
    rw[e,ih]
    have nc:=(List.nodup_cons.mp nd).1
    by_cases z:c.toNat=i
    · have ez:((i:Nat):Int)=c:=by omega
      have g:(ms.set c.toNat (ms.getD c.toNat 0 ^^^ T)).getD i 0=ms.getD i 0 ^^^ T:=by
        subst z
        rw[List.getD_eq_getElem?_getD,List.getElem?_set_self (by omega)]
        rfl
      rw[g,ez,if_neg nc,if_pos (by simp)]
    · have ez:((i:Nat):Int)≠c:=by omega
      have g:(ms.set c.toNat (ms.getD c.toNat 0 ^^^ T)).getD i 0=ms.getD i 0:=by
        rw[List.getD_eq_getElem?_getD,List.getElem?_set_ne z,← List.getD_eq_getElem?_getD]
      rw[g]
      simp[ez]
theorem updG_step {ms:List Nat} {t g n:Nat} (hl:ms.length=n) (n40:n≤40) (hg:g<2 ^ n):updG ms (xorOf ms (bitsL t)) (bitsL g)=stepT ms t g:=by
  have nd:(bitsL g).Nodup:=(bits_asc g).imp fun h=>by omega
  have g64:g<2 ^ 64:=Nat.lt_of_lt_of_le hg (Nat.pow_le_pow_right (by decide) (by omega))
  have hr: ∀c∈bitsL g,0≤c∧c<(ms.length:Nat):=fun c hc=>by have:=bits_below hg hc;omega
  have ls:(stepT ms t g).length=ms.length:=by unfold stepT;rw[List.length_map,List.length_range]
  refine List.ext_getElem (by rw[updG_len,ls]) fun i h1 h2=> ?_
  have hi:i<ms.length:=by rwa [updG_len] at h1
  have a:=updG_get (xorOf ms (bitsL t)) (bitsL g) ms hr nd i hi
  have b:=stepT_get (ms:=ms) (t:=t) (g:=g) hi
  have m:=mask_bit i (fun n hn=>(bits_mem hn).1) nd
  rw[mask_bits g64] at m
  rw[List.getD_eq_getElem?_getD,List.getElem?_eq_getElem h1] at a
  rw[List.getD_eq_getElem?_getD,List.getElem?_eq_getElem h2] at b
  simp only[Option.getD_some] at a b
  rw[a,b,m]
  by_cases c:((i:Nat):Int)∈bitsL g
  · rw[if_pos c,if_pos (by simpa using c)]
  · rw[if_neg c,if_neg (by simpa using c)]
end PC

set_option Elab.async false
set_option linter.all false
set_option maxRecDepth 100000
set_option maxHeartbeats 2000000
namespace PC
open PySem PySem.Spec PyProof.Rows L2

section
variable {prog : Program} {w : World} {A : Around} {E : Value → Shared → Prop} {s : Shared} {K : PySem.W.Frag} {x y C f : Addr} {ox : Obj} {od : Option Obj}
theorem ne_asks (room:A.units<cLine) (X:K.In s.heap) (I:PySem.W.InstAt s.heap x ox C od) (own:PySem.W.findIn K (.ref C) "__eq__" =some (some (.ref f))) (fn:PySem.W.isFn K (.ref f)=true)
    {Q:Fin→Shared→Prop} (run:wpAny (model prog w) A (call (.ref f) [.ref x,.ref y]) (fun v t=> ∃b,v= .bool b∧Q (.done (.ret (.bool (!b)))) t) E s):
    wpAny (model prog w) A (Builtin.«object.__ne__» ⟨[.ref x,.ref y],[]⟩) Q E s:=by
  have got:wpAny (model prog w) A (callSpecialIfBound? (.ref x) (Str.ofString "__eq__") [.ref y]) (fun r t=> ∃b,r=some (.bool b)∧Q (.done (.ret (.bool (!b)))) t) E s:=
    PySem.W.ifBound_K X I own fn (wpAny_mono run (fun v t ⟨b,e,q⟩=>⟨b,by rw[e],q⟩) fun _ _ z=>z)
  unfold Builtin.«object.__ne__»
  repeat (first
    | with_reducible refine wpAny_cRoomFor room ?_
    | (refine wpAny_bind (m:=callSpecialIfBound? (.ref x) (Str.ofString "__eq__") [.ref y]) (wpAny_mono got ?_ fun _ _ z=>z)
       rintro _ t ⟨b,rfl,q⟩)
    | exact q
    | (refine wpAny_bind (m:=truthy (.bool _)) (wpAny_truthy_bool ?_))
    | wp_step)
theorem ne_try (room:A.units+1<cLine) (X:K.In s.heap) (I:PySem.W.InstAt s.heap x ox C od) (top:PySem.W.mroIn K C (.type "object")=some true)
    (own:PySem.W.findIn K (.ref C) "__eq__" =some (some (.ref f))) (fn:PySem.W.isFn K (.ref f)=true) (def_:PySem.W.findIn K (.ref C) "__ne__" =some (some (.builtin "object.__ne__")))
    {Q:Option Value→Shared→Prop} (run:wpAny (model prog w) A.in1 (call (.ref f) [.ref x,.ref y]) (fun v t=> ∃b,v= .bool b∧Q (some (.bool (!b))) t) E s):
    wpAny (model prog w) A (tryCompare (.ref x) "__ne__" (.ref y)) Q E s:=by
  have asked:wpAny (model prog w) A (call (.builtin "object.__ne__") [.ref x,.ref y]) (fun v t=> ∃b,v= .bool b∧Q (some (.bool b)) t) E s:=by
    refine wpAny_call (codeAny_call_builtin F.cmp_object.ne.plain F.cmpEntry_ne (PySem.W.check_slot F.cmpKind_ne F.cmpSplit_ne (I.type.andThen (PySem.W.looks_mroIn X top)) (F.cmpArgs_ne _ _) ?_))
    refine ne_asks (A:=A.in1) room X I own fn (wpAny_mono run (fun v t ⟨b,e,q⟩=>⟨b,e,?_⟩) fun _ _ z=>z)
    exact⟨_,rfl,q⟩
  have fin:wpAny (model prog w) A (call (.builtin "object.__ne__") ([.ref x]++ [.ref y]) >>= fun v=>pure (some v)) (fun r t=> ∃b,r=some (.bool b)∧Q (some (.bool b)) t) E s:=
    wpAny_bind (wpAny_mono asked (fun v t ⟨b,e,q⟩=>wpAny_pure ⟨b,by rw[e],q⟩) fun _ _ z=>z)
  have bound:wpAny (model prog w) A (callSpecialIfBound? (.ref x) "__ne__" [.ref y]) (fun r t=> ∃b,r=some (.bool b)∧Q (some (.bool b)) t) E s:=by
    simp only[callSpecialIfBound?,bindSpecialIfBound?]
    refine wpAny_holding (wpAny_bind (wpAny_bind (wpAny_bind (I.type.here ((PySem.W.looks_findIn X def_).here ?_)))))
    refine wpAny_bind (wpAny_askSetting (wpAny_ite ?_))
    split
    · exact wpAny_bind (wpAny_of_eq (F.cmp_object.ne.bind _) (wpAny_pure (by exact fin)))
    · exact wpAny_tryCatch (wpAny_bind (wpAny_of_eq (F.cmp_object.ne.bind _) (wpAny_pure (by exact fin))))
  unfold tryCompare
  refine wpAny_bind (wpAny_mono bound ?_ fun _ _ z=>z)
  rintro _ t ⟨b,rfl,q⟩
  exact wpAny_pure q
theorem ne_own {oy:Obj} {oe:Option Obj} (room:A.units+1<cLine) (X:K.In s.heap) (I:PySem.W.InstAt s.heap x ox C od) (J:PySem.W.InstAt s.heap y oy C oe) (top:PySem.W.mroIn K C (.type "object")=some true)
    (own:PySem.W.findIn K (.ref C) "__eq__" =some (some (.ref f))) (fn:PySem.W.isFn K (.ref f)=true) (def_:PySem.W.findIn K (.ref C) "__ne__" =some (some (.builtin "object.__ne__")))
    {Q:Value→Shared→Prop} (run:wpAny (model prog w) A.in1 (call (.ref f) [.ref x,.ref y]) (fun v t=> ∃b,v= .bool b∧Q (.bool (!b)) t) E s):
    wpAny (model prog w) A (compareOp .NotEq (.ref x) (.ref y)) Q E s:=by
  unfold compareOp richCompare
  simp only[oneThing_ref]
  refine wpAny_holding (wpAny_bind (wpAny_cRoomFor (Nat.lt_of_succ_lt room) ?_))
  rw[cmpInfo_NotEq]
  dsimp only
  refine wpAny_bind (I.type.here (wpAny_bind (J.type.here ?_)))
  rw[if_neg (by simp)]
  refine wpAny_bind (wpAny_pure ?_)
  simp only[Bool.false_eq_true,if_false]
  refine wpAny_bind (ne_try room X I top own fn def_ (wpAny_mono run (fun v t ⟨b,e,q⟩=>⟨b,e,?_⟩) fun _ _ z=>z))
  exact wpAny_pure q
end

structure EqT (K:PySem.W.Frag) (C f:Addr):Prop where
  own:PySem.W.findIn K (.ref C) "__eq__" =some (some (.ref f))
  fn:PySem.W.isFn K (.ref f)=true
  ne:PySem.W.findIn K (.ref C) "__ne__" =some (some (.builtin "object.__ne__"))
section
variable {X : Cx} {k : Nat} {f C : Addr} {fd : FuncData} {ps : List Str} {sp : Sp}
def rEqI (C:Addr) (sp:Sp):R2:=fun x y H Q=> ∃a b dx dy fs gs,x= .ref a∧y= .ref b∧H a=some (.ins C dx fs)∧H b=some (.ins C dy gs)∧sp [.ref a,.ref b] H (fun v H'=> ∃z:Bool,v= .bl z∧Q (.bl z) H') E0
def rNeI (C:Addr) (sp:Sp):R2:=fun x y H Q=> ∃a b dx dy fs gs,x= .ref a∧y= .ref b∧H a=some (.ins C dx fs)∧H b=some (.ins C dy gs)∧sp [.ref a,.ref b] H (fun v H'=> ∃z:Bool,v= .bl z∧Q (.bl (!z)) H') E0
theorem FnG.own2 (F:FnG X.prog X.w X.K X.mg X.base k f fd ps sp) {A:Around} (hgA:GOkA X.K A X.base) (hr:Room k A)
    (hb:Binds X.K fd ps []) {pins:List (Addr×Obj)} {σ:L2.St} {H:Hp} {s:Shared} {a b:Addr} {Q:VK} (I:Inv X pins σ H s)
    (he:Env0 X.prog X.w X.K X.mg X.base A X.stack s H) (h:sp [.ref a,.ref b] H Q E0):
    wpAny (model X.prog X.w) A (call (.ref f) [.ref a,.ref b]) (EP X pins σ Q) X.xe s:=by
  have hl:([Value.ref a,.ref b]++ []).length=ps.length:=(F.len _ _ _ _ h).symm ▸ rfl
  refine wpAny_call (codeAny_mono (F.run A X.stack s H ⟨[.ref a,.ref b],[]⟩ [.ref a,.ref b] [.ref a,.ref b] Q E0 hgA hr he (hb s [.ref a,.ref b] I.kIn hl) (.cons rfl (.cons rfl .nil)) h) fun r s' hq=> ?_)
  match r,hq with
  | .error e,hq=>exact passN pins σ H s e s' I hq
  | .ok (.ret u),hq=>exact I.after hq
  | .ok .next,hq=>exact hq.elim
  | .ok .brk,hq=>exact hq.elim
  | .ok .cont,hq=>exact hq.elim
theorem op_eqI (F:FnG X.prog X.w X.K X.mg X.base k f fd ps sp) (q0:EqT X.K C f) (hg:GOk X) (hr:Room (k+1) X.A) (hb:Binds X.K fd ps []):OpR X (compareOp .Eq) (rEqI C sp):=by
  intro pins s σ H x y v u Q I rx ry h
  obtain⟨a,b,dx,dy,fs,gs,rfl,rfl,ea,eb,h⟩:=h
  cases (show v=Value.ref a from rx)
  cases (show u=Value.ref b from ry)
  obtain⟨ox,od,J⟩:=inst_of I ea
  obtain⟨oy,oe,J2⟩:=inst_of I eb
  obtain⟨m,fr⟩:=I.fr
  refine PySem.W.cmp_K (op:= .Eq) (tb:= .ref C) hr.units0 fr I.ok.mod.kin J J2.type (by simp[PySem.W.notFirst]) q0.own q0.fn ?_
  refine wpAny_mono (F.own2 (A:=X.A) hg (hr.mono (Nat.le_succ _)) hb I I.env0 h) (fun z s' hz=> ?_) fun _ _ e=>e
  obtain⟨v',H',I',rv,z,rfl,q⟩:=hz
  cases rv
  exact⟨.bl z,H',I',rfl,q⟩
theorem op_neI (F:FnG X.prog X.w X.K X.mg X.base k f fd ps sp) (q0:EqT X.K C f) (t:InstT X.K C) (hg:GOk X) (hr:Room (k+1) X.A) (hb:Binds X.K fd ps []):OpR X (compareOp .NotEq) (rNeI C sp):=by
  intro pins s σ H x y v u Q I rx ry h
  obtain⟨a,b,dx,dy,fs,gs,rfl,rfl,ea,eb,h⟩:=h
  cases (show v=Value.ref a from rx)
  cases (show u=Value.ref b from ry)
  obtain⟨ox,od,J⟩:=inst_of I ea
  obtain⟨oy,oe,J2⟩:=inst_of I eb
  refine ne_own (x:=a) (y:=b) hr.in1.units0 I.kIn J J2 t.ob q0.own q0.fn q0.ne ?_
  refine wpAny_mono (F.own2 (A:=X.A.in1) hg hr.in1 hb I I.env0.in1 h) (fun z s' hz=> ?_) fun _ _ e=>e
  obtain⟨v',H',I',rv,z,rfl,q⟩:=hz
  cases rv
  exact⟨z,rfl,.bl (!z),H',I',rfl,q⟩
end
section
variable {X : Cx} {K : PySem.W.Frag} {H : Hp} {Q : VK} {x y : V} {Z : List Addr} {d : PyData} {ds : List PyData}
end
section
variable {X : Cx}
theorem ip_xor:PIp X .BitXor (ipI fun i j=>Builtin.bitXor i j):=by
  intro pins s σ H x y v u Q I r1 r2 h
  obtain⟨i,j,e1,e2,q⟩:=h
  subst e1;subst e2
  obtain⟨t,rfl⟩:=r1
  obtain⟨t',rfl⟩:=r2
  exact PyProof.Rows.ixor_int ⟨.int _,H,I.tok _,⟨_,rfl⟩,q⟩
end
end PC

set_option Elab.async false
set_option linter.all false
set_option maxRecDepth 100000
set_option maxHeartbeats 2000000
namespace TL
open PySem PySem.Spec PyProof.Rows L2 PC

abbrev Pl:=Addr→Prop
structure Stp (Z:Pl) (H:Hp) (Z':Pl) (H':Hp):Prop where
  keep: ∀b o,¬ Z b→H b=some o→H' b=some o
  zz: ∀b,Z' b→Z b∨H b=none
section
variable {Z Z' Z'' : Pl} {H H' H'' : Hp}
theorem Stp.refl:Stp Z H Z H:=⟨fun _ _ _ e=>e,fun _ h=> .inl h⟩
theorem Stp.trans (a:Stp Z H Z' H') (b:Stp Z' H' Z'' H''):Stp Z H Z'' H'':=
  ⟨fun c o n e=>b.keep c o (fun z=>(a.zz c z).elim n fun w=>by rw[e] at w;cases w) (a.keep c o n e),
   fun c z=>(b.zz c z).elim (a.zz c) fun w=>by
    by_cases n:Z c
    · exact .inl n
    · cases e:H c with
      | none=>exact .inr rfl
      | some o=>rw[a.keep c o n e] at w;cases w⟩
theorem Stp.less (h: ∀a,Z' a→Z a):Stp Z H Z' H:=⟨fun _ _ _ e=>e,fun b z=> .inl (h b z)⟩
theorem Stp.new {n:Addr} {o:HO} (h:H n=none):Stp Z H Z (upd H n o):=⟨fun b u _ e=>by rw[upd_ne (ne_of_none e h)];exact e,fun _ z=> .inl z⟩
theorem Stp.put {a:Addr} {o:HO} (h:Z a):Stp Z H Z (upd H a o):=⟨fun b u n e=>by
  by_cases w:b=a
  · subst w;exact absurd h n
  · rw[upd_ne w];exact e,fun _ z=> .inl z⟩
theorem Stp.more {n:Addr} (h:H n=none):Stp Z H (fun b=>Z b∨b=n) H:=⟨fun _ _ _ e=>e,fun b z=>z.elim .inl fun w=> .inr (w ▸ h)⟩
theorem Stp.same (s:Same H H'):Stp Z H Z H':=⟨fun b o _ e=>s b o e,fun _ z=> .inl z⟩
theorem rd_stp {a:Addr} {u:HO} (r:Stp Z H Z' H') (n: ¬ Z a) (h:Rd H a u):Rd H' a u:=by
  rcases h with h | ⟨o,h⟩
  · exact .inl (r.keep _ _ n h)
  · exact .inr ⟨o,r.keep _ _ n h⟩
theorem rd_some {a:Addr} {u:HO} (h:Rd H a u):H a≠none:=by
  rcases h with h | ⟨o,h⟩ <;> (rw[h];exact fun z=>nomatch z)
theorem nz_stp {a:Addr} (r:Stp Z H Z' H') (n: ¬ Z a) (h:H a≠none): ¬ Z' a:=fun z=>(r.zz a z).elim n h
end

section
variable (K : PySem.W.Frag)
mutual
/-- v shows the data d; none of its own objects stands at a place of Z -/
def DatP (Z:Pl) (H:Hp):PyData→V→Prop
  | .none,v=>v= .non
  | .bool b,v=>v= .bl b
  | .int i,v=>v= .int i
  | .str x,v=>v= .str x
  | .list ds,v=> ∃a xs,v= .ref a∧ ¬ Z a∧Rd H a (.lst xs)∧DatPL Z H ds xs
  | .tuple ds,v=> ∃a xs,v= .ref a∧(¬ Z a∨SqT K (fun _=>none) a xs)∧SqT K H a xs∧DatPL Z H ds xs
  | .dict kvs,v=> ∃a es,v= .ref a∧ ¬ Z a∧H a=some (.dK es)∧DatPK Z H kvs es
def DatPL (Z:Pl) (H:Hp):List PyData→List V→Prop
  | [],vs=>vs= []
  | d::ds,vs=> ∃v r,vs=v::r∧DatP Z H d v∧DatPL Z H ds r
def DatPK (Z:Pl) (H:Hp):List (PyData×PyData)→List (Key×V)→Prop
  | [],es=>es= []
  | (k,d)::r,es=> ∃kk v t,es=(kk,v)::t∧keyD kk=k∧DatP Z H d v∧DatPK Z H r t
end
end
section
variable {K : PySem.W.Frag} {Z Z' : Pl} {H H' : Hp}
theorem sqT_stp {a:Addr} {xs:List V} (r:Stp Z H Z' H') (n: ¬ Z a∨SqT K (fun _=>none) a xs) (h:SqT K H a xs):SqT K H' a xs:=by
  rcases h with h | h
  · rcases n with n | n
    · exact .inl (rd_stp r n h)
    · rcases n with (n | ⟨o,n⟩) | n
      · cases n
      · cases n
      · exact .inr n
  · exact .inr h
theorem nzT_stp {a:Addr} {xs:List V} (r:Stp Z H Z' H') (n: ¬ Z a∨SqT K (fun _=>none) a xs) (h:SqT K H a xs): ¬ Z' a∨SqT K (fun _=>none) a xs:=by
  rcases n with n | n
  · rcases h with h | h
    · exact .inl (nz_stp r n (rd_some h))
    · exact .inr (.inr h)
  · exact .inr n
mutual
theorem DatP.up (r:Stp Z H Z' H'): ∀(d:PyData) (v:V),DatP K Z H d v→DatP K Z' H' d v
  | .none,v,h=>h
  | .bool _,v,h=>h
  | .int _,v,h=>h
  | .str _,v,h=>h
  | .list ds,v,h=>by
    simp only[DatP] at h ⊢
    obtain⟨a,xs,e,n,s,l⟩:=h
    exact⟨a,xs,e,nz_stp r n (rd_some s),rd_stp r n s,DatPL.up r ds xs l⟩
  | .tuple ds,v,h=>by
    simp only[DatP] at h ⊢
    obtain⟨a,xs,e,n,s,l⟩:=h
    exact⟨a,xs,e,nzT_stp r n s,sqT_stp r n s,DatPL.up r ds xs l⟩
  | .dict kvs,v,h=>by
    simp only[DatP] at h ⊢
    obtain⟨a,es,e,n,s,l⟩:=h
    exact⟨a,es,e,nz_stp r n (by rw[s];exact fun z=>nomatch z),r.keep _ _ n s,DatPK.up r kvs es l⟩
theorem DatPL.up (r:Stp Z H Z' H'): ∀(ds:List PyData) (vs:List V),DatPL K Z H ds vs→DatPL K Z' H' ds vs
  | [],vs,h=>h
  | d::ds,vs,h=>by
    simp only[DatPL] at h ⊢
    obtain⟨v,q,e,h1,h2⟩:=h
    exact⟨v,q,e,DatP.up r d v h1,DatPL.up r ds q h2⟩
theorem DatPK.up (r:Stp Z H Z' H'): ∀(ds:List (PyData×PyData)) (es:List (Key×V)),DatPK K Z H ds es→DatPK K Z' H' ds es
  | [],vs,h=>h
  | (k,d)::ds,vs,h=>by
    simp only[DatPK] at h ⊢
    obtain⟨kk,v,q,e,hk,h1,h2⟩:=h
    exact⟨kk,v,q,e,hk,DatP.up r d v h1,DatPK.up r ds q h2⟩
end
mutual
theorem DatP.dat: ∀(d:PyData) (v:V),DatP K Z H d v→Dat K [] H d v
  | .none,v,h=>by simpa only[DatP,Dat] using h
  | .bool _,v,h=>by simpa only[DatP,Dat] using h
  | .int _,v,h=>by simpa only[DatP,Dat] using h
  | .str _,v,h=>by simpa only[DatP,Dat] using h
  | .list ds,v,h=>by
    simp only[DatP] at h
    simp only[Dat]
    obtain⟨a,xs,e,n,s,l⟩:=h
    exact⟨a,xs,e,by simp,s,DatPL.dat ds xs l⟩
  | .tuple ds,v,h=>by
    simp only[DatP] at h
    simp only[Dat]
    obtain⟨a,xs,e,n,s,l⟩:=h
    exact⟨a,xs,e,.inl (by simp),s,DatPL.dat ds xs l⟩
  | .dict kvs,v,h=>by
    simp only[DatP] at h
    simp only[Dat]
    obtain⟨a,es,e,n,s,l⟩:=h
    exact⟨a,es,e,by simp,s,DatPK.dat kvs es l⟩
theorem DatPL.dat: ∀(ds:List PyData) (vs:List V),DatPL K Z H ds vs→DatL K [] H ds vs
  | [],vs,h=>by simpa only[DatPL,DatL] using h
  | d::ds,vs,h=>by
    simp only[DatPL] at h
    simp only[DatL]
    obtain⟨v,q,e,h1,h2⟩:=h
    exact⟨v,q,e,DatP.dat d v h1,DatPL.dat ds q h2⟩
theorem DatPK.dat: ∀(ds:List (PyData×PyData)) (es:List (Key×V)),DatPK K Z H ds es→DatK K [] H ds es
  | [],vs,h=>by simpa only[DatPK,DatK] using h
  | (k,d)::ds,vs,h=>by
    simp only[DatPK] at h
    simp only[DatK]
    obtain⟨kk,v,q,e,hk,h1,h2⟩:=h
    exact⟨kk,v,q,e,hk,DatP.dat d v h1,DatPK.dat ds q h2⟩
end
end

structure Dm (K:PySem.W.Frag) where
  at_:Pl→Hp→V→Prop
  up: ∀ {Z H Z' H' v},Stp Z H Z' H'→at_ Z H v→at_ Z' H' v
def AtL {K:PySem.W.Frag} (Z:Pl) (H:Hp):List (Dm K)→List V→Prop
  | [],vs=>vs= []
  | d::ds,vs=> ∃v r,vs=v::r∧d.at_ Z H v∧AtL Z H ds r
def AtK {K:PySem.W.Frag} {κ:Type} (Z:Pl) (H:Hp):List (κ×Dm K)→List (κ×V)→Prop
  | [],vs=>vs= []
  | d::ds,vs=> ∃v r,vs=(d.1,v)::r∧d.2.at_ Z H v∧AtK Z H ds r
section
variable {K : PySem.W.Frag} {Z Z' : Pl} {H H' : Hp}
theorem AtL.up (r:Stp Z H Z' H'): ∀ {ds:List (Dm K)} {vs:List V},AtL Z H ds vs→AtL Z' H' ds vs
  | [],_,h=>h
  | d::ds,_,⟨v,r',e,h,t⟩=>⟨v,r',e,d.up r h,AtL.up r t⟩
theorem AtL.length: ∀ {ds:List (Dm K)} {vs:List V},AtL Z H ds vs→vs.length=ds.length
  | [],_,h=>by cases h;rfl
  | d::ds,_,⟨v,r',q,h,t⟩=>by rw[q,List.length_cons,List.length_cons,AtL.length t]
theorem AtL.get: ∀ {ds:List (Dm K)} {vs:List V} {i:Nat} {d:Dm K},AtL Z H ds vs→ds[i]?=some d→ ∃v,vs[i]?=some v∧d.at_ Z H v
  | [],_,_,_,_,e=>by simp at e
  | d::ds,_,0,x,⟨v,r',q,h,t⟩,e=>by simp at e;subst e;subst q;exact⟨v,rfl,h⟩
  | d::ds,_,i+1,x,⟨v,r',q,h,t⟩,e=>by
    subst q
    obtain⟨u,e1,e2⟩:=AtL.get (i:=i) t (by simpa using e)
    exact⟨u,by simpa using e1,e2⟩
theorem AtL.getV {ds:List (Dm K)} {vs:List V} {i:Nat} {v:V} (h:AtL Z H ds vs) (e:vs[i]?=some v): ∃d,ds[i]?=some d∧d.at_ Z H v:=by
  have hi:i<ds.length:=by rw[← h.length];exact (List.getElem?_eq_some_iff.mp e).1
  obtain⟨u,e1,e2⟩:=h.get (List.getElem?_eq_getElem hi)
  rw[e] at e1
  cases e1
  exact⟨_,List.getElem?_eq_getElem hi,e2⟩
theorem AtL.append: ∀ {ds es:List (Dm K)} {vs ws:List V},AtL Z H ds vs→AtL Z H es ws→AtL Z H (ds++es) (vs++ws)
  | [],_,_,_,h,g=>by cases h;exact g
  | d::ds,_,_,_,⟨v,r',q,h,t⟩,g=>by subst q;exact⟨v,_,rfl,h,AtL.append t g⟩
theorem AtL.drop: ∀ {ds:List (Dm K)} {vs:List V} (n:Nat),AtL Z H ds vs→AtL Z H (ds.drop n) (vs.drop n)
  | _,_,0,h=>h
  | [],_,n+1,h=>by cases h;exact rfl
  | d::ds,_,n+1,⟨v,r',q,h,t⟩=>by subst q;exact AtL.drop n t
theorem AtL.take: ∀ {ds:List (Dm K)} {vs:List V} (n:Nat),AtL Z H ds vs→AtL Z H (ds.take n) (vs.take n)
  | _,_,0,h=>rfl
  | [],_,n+1,h=>by cases h;exact rfl
  | d::ds,_,n+1,⟨v,r',q,h,t⟩=>by subst q;exact⟨v,_,rfl,h,AtL.take n t⟩
theorem AtL.set: ∀ {ds:List (Dm K)} {vs:List V} (i:Nat) {d:Dm K} {v:V},AtL Z H ds vs→d.at_ Z H v→AtL Z H (ds.set i d) (vs.set i v)
  | [],_,_,_,_,h,_=>by cases h;exact rfl
  | d::ds,_,0,_,_,⟨v,r',q,h,t⟩,g=>by subst q;exact⟨_,_,rfl,g,t⟩
  | d::ds,_,i+1,_,_,⟨v,r',q,h,t⟩,g=>by subst q;exact⟨v,_,rfl,h,AtL.set i t g⟩
theorem AtL.erase: ∀ {ds:List (Dm K)} {vs:List V} (i:Nat),AtL Z H ds vs→AtL Z H (ds.eraseIdx i) (vs.eraseIdx i)
  | [],_,_,h=>by cases h;exact rfl
  | d::ds,_,0,⟨v,r',q,h,t⟩=>by subst q;exact t
  | d::ds,_,i+1,⟨v,r',q,h,t⟩=>by subst q;exact⟨v,_,rfl,h,AtL.erase i t⟩
theorem AtL.one {d:Dm K} {v:V} (h:d.at_ Z H v):AtL Z H [d] [v]:=⟨v,[],rfl,h,rfl⟩
variable {κ : Type}
theorem AtK.up (r:Stp Z H Z' H'): ∀ {ds:List (κ×Dm K)} {vs:List (κ×V)},AtK Z H ds vs→AtK Z' H' ds vs
  | [],_,h=>h
  | d::ds,_,⟨v,r',e,h,t⟩=>⟨v,r',e,d.2.up r h,AtK.up r t⟩
theorem AtK.length: ∀ {ds:List (κ×Dm K)} {vs:List (κ×V)},AtK Z H ds vs→vs.length=ds.length
  | [],_,h=>by cases h;rfl
  | d::ds,_,⟨v,r',q,h,t⟩=>by rw[q,List.length_cons,List.length_cons,AtK.length t]
theorem AtK.keys: ∀ {ds:List (κ×Dm K)} {vs:List (κ×V)},AtK Z H ds vs→vs.map (·.1)=ds.map (·.1)
  | [],_,h=>by cases h;rfl
  | d::ds,_,⟨v,r',q,h,t⟩=>by rw[q,List.map_cons,List.map_cons,AtK.keys t]
def valK [DecidableEq κ] (es:List (κ×Dm K)) (k:κ):Option (Dm K):=(es.find? fun e=>decide (e.1=k)).map (·.2)
def putD [DecidableEq κ] (es:List (κ×Dm K)) (k:κ) (d:Dm K):List (κ×Dm K):=
  if (es.any fun e=>decide (e.1=k))=true then es.map (fun e=>if e.1=k then (e.1,d) else e) else es++ [(k,d)]
theorem AtK.val [DecidableEq κ] (k:κ): ∀ {ds:List (κ×Dm K)} {vs:List (κ×V)},AtK Z H ds vs→
    (valK ds k=none∧valV vs k=none)∨ ∃d v,valK ds k=some d∧valV vs k=some v∧d.at_ Z H v
  | [],_,h=>by cases h;exact .inl ⟨rfl,rfl⟩
  | d::ds,_,⟨v,r',q,h,t⟩=>by
    subst q
    by_cases e:d.1=k
    · exact .inr ⟨d.2,v,by simp[valK,List.find?_cons,e],valV_pos e,h⟩
    · rcases AtK.val k t with ⟨a,b⟩ | ⟨x,y,a,b,c⟩
      · exact .inl ⟨by simpa [valK,List.find?_cons,e] using a,by rw[valV_neg e];exact b⟩
      · exact .inr ⟨x,y,by simpa [valK,List.find?_cons,e] using a,by rw[valV_neg e];exact b,c⟩
theorem AtK.append: ∀ {ds es:List (κ×Dm K)} {vs ws:List (κ×V)},AtK Z H ds vs→AtK Z H es ws→AtK Z H (ds++es) (vs++ws)
  | [],_,_,_,h,g=>by cases h;exact g
  | d::ds,_,_,_,⟨v,r',q,h,t⟩,g=>by subst q;exact⟨v,_,rfl,h,AtK.append t g⟩
theorem AtK.put [DecidableEq κ] {k:κ} {d:Dm K} {v:V} {ds:List (κ×Dm K)} {vs:List (κ×V)} (h:AtK Z H ds vs) (hd:d.at_ Z H v):AtK Z H (putD ds k d) (putK vs k v):=by
  have ha:(vs.any fun kv=>decide (kv.1=k))=(ds.any fun kv=>decide (kv.1=k)):=by
    have e:=h.keys
    have a: ∀l:List (κ×V),(l.any fun kv=>decide (kv.1=k))=((l.map (·.1)).any fun x=>decide (x=k)):=fun l=>by simp[List.any_map,Function.comp_def]
    have b: ∀l:List (κ×Dm K),(l.any fun kv=>decide (kv.1=k))=((l.map (·.1)).any fun x=>decide (x=k)):=fun l=>by simp[List.any_map,Function.comp_def]
    rw[a,b,e]
  unfold putD putK
  rw[ha]
  split
  · have go: ∀ {ds:List (κ×Dm K)} {vs:List (κ×V)},AtK Z H ds vs→AtK Z H (ds.map fun e=>if e.1=k then (e.1,d) else e) (vs.map fun kv=>if kv.1=k then (kv.1,v) else kv):=by
      intro ds
      induction ds with
      | nil=>intro vs h;cases h;exact rfl
      | cons x ds ih=>
        rintro _ ⟨u,r',rfl,h1,t⟩
        by_cases e:x.1=k
        · exact⟨v,_,by simp[e],by simpa [e] using hd,ih t⟩
        · exact⟨u,_,by simp[e],by simpa [e] using h1,ih t⟩
    exact go h
  · exact h.append ⟨v,[],rfl,hd,rfl⟩
def setF (f:Str) (d:Dm K):List (Str×Dm K)→List (Str×Dm K)
  | []=> [(f,d)]
  | e::r=>if e.1=f then (e.1,d)::r else e::setF f d r
theorem AtK.setF {f:Str} {d:Dm K} {v:V} (hd:d.at_ Z H v): ∀ {ds:List (Str×Dm K)} {vs:List (Str×V)},AtK Z H ds vs→AtK Z H (TL.setF f d ds) (putF f v vs)
  | [],_,h=>by cases h;exact⟨v,[],rfl,hd,rfl⟩
  | x::ds,_,⟨u,r',q,h,t⟩=>by
    subst q
    by_cases e:x.1=f
    · have e1:TL.setF f d (x::ds)=(x.1,d)::ds:=by simp[TL.setF,e]
      rw[e1]
      exact⟨v,r',by simp[putF,e],hd,t⟩
    · have e1:TL.setF f d (x::ds)=x::TL.setF f d ds:=by simp[TL.setF,e]
      rw[e1]
      exact⟨u,putF f v r',by simp[putF,e],h,AtK.setF hd t⟩
theorem AtK.look {f:Str}: ∀ {ds:List (Str×Dm K)} {vs:List (Str×V)},AtK Z H ds vs→(ds.lookup f=none∧vs.lookup f=none)∨ ∃d v,ds.lookup f=some d∧vs.lookup f=some v∧d.at_ Z H v
  | [],_,h=>by cases h;exact .inl ⟨rfl,rfl⟩
  | x::ds,_,⟨u,r',q,h,t⟩=>by
    subst q
    by_cases e:f=x.1
    · refine .inr ⟨x.2,u,?_,?_,h⟩
      · show List.lookup f ((x.1,x.2)::ds)=_;rw[List.lookup_cons,beq_iff_eq.mpr e]
      · rw[List.lookup_cons,beq_iff_eq.mpr e]
    · have hb:(f == x.1)=false:=by simpa using e
      have e1:List.lookup f (x::ds)=List.lookup f ds:=by show List.lookup f ((x.1,x.2)::ds)=_;rw[List.lookup_cons,hb]
      have e2:List.lookup f ((x.1,u)::r')=List.lookup f r':=by rw[List.lookup_cons,hb]
      rw[e1,e2]
      exact AtK.look t
def dPy (d:PyData):Dm K:=⟨fun Z H v=>DatP K Z H d v,fun r h=>DatP.up r _ _ h⟩
abbrev kI:Int→Dm K:=fun i=>dPy (.int i)
abbrev kB:Bool→Dm K:=fun i=>dPy (.bool i)
abbrev kS:Str→Dm K:=fun i=>dPy (.str i)
abbrev kN:Unit→Dm K:=fun _=>dPy .none
abbrev kPy:PyData→Dm K:=dPy
def kRef:Addr→Dm K:=fun a=>⟨fun _ _ v=>v= .ref a,fun _ h=>h⟩
def kSc:List Int→Dm K:=fun ns=>⟨fun Z H v=> ∃a,v= .ref a∧(¬ Z a∨SqL K (fun _=>none) a (ns.map V.int))∧SqL K H a (ns.map V.int),by
  rintro Z H Z' H' v r ⟨a,e,n,h⟩
  rcases h with h | h
  · rcases n with n | n
    · exact⟨a,e,.inl (nz_stp r n (rd_some h)),.inl (rd_stp r n h)⟩
    · rcases n with (n | ⟨o,n⟩) | n
      · cases n
      · cases n
      · exact⟨a,e,.inr (.inr n),.inr n⟩
  · exact⟨a,e,.inr (.inr h),.inr h⟩⟩
def dL (ds:List (Dm K)):Dm K:=⟨fun Z H v=> ∃a xs,v= .ref a∧ ¬ Z a∧H a=some (.lst xs)∧AtL Z H ds xs,
  fun r ⟨a,xs,e,n,s,l⟩=>⟨a,xs,e,nz_stp r n (by rw[s];exact fun z=>nomatch z),r.keep _ _ n s,l.up r⟩⟩
def dT (ds:List (Dm K)):Dm K:=⟨fun Z H v=> ∃a xs,v= .ref a∧(¬ Z a∨SqT K (fun _=>none) a xs)∧SqT K H a xs∧AtL Z H ds xs,
  fun r ⟨a,xs,e,n,s,l⟩=>⟨a,xs,e,nzT_stp r n s,sqT_stp r n s,l.up r⟩⟩
def dP (ds:List (Dm K)):Dm K:=⟨fun Z H v=> ∃a xs,v= .ref a∧ ¬ Z a∧H a=some (.tup xs)∧AtL Z H ds xs,
  fun r ⟨a,xs,e,n,s,l⟩=>⟨a,xs,e,nz_stp r n (by rw[s];exact fun z=>nomatch z),r.keep _ _ n s,l.up r⟩⟩
def dI (C:Addr) (fs:List (Str×Dm K)):Dm K:=⟨fun Z H v=> ∃a dx xs,v= .ref a∧ ¬ Z a∧H a=some (.ins C dx xs)∧AtK Z H fs xs,
  fun r ⟨a,dx,xs,e,n,s,l⟩=>⟨a,dx,xs,e,nz_stp r n (by rw[s];exact fun z=>nomatch z),r.keep _ _ n s,l.up r⟩⟩
def kL {α:Type} (r:α→Dm K):List α→Dm K:=fun xs=>dL (xs.map r)
def kT {α:Type} (r:α→Dm K):List α→Dm K:=fun xs=>dT (xs.map r)
def kP {α β:Type} (r:α→Dm K) (s:β→Dm K):α×β→Dm K:=fun x=>dP [r x.1,s x.2]
def AtL.dat {f:α→PyData} {r:α→Dm K} (h: ∀x Z H v,(r x).at_ Z H v→DatP K Z H (f x) v): ∀ {xs:List α} {vs:List V},AtL Z H (xs.map r) vs→DatPL K Z H (xs.map f) vs
  | [],_,e=>by cases e;simp only[List.map_nil,DatPL]
  | x::xs,_,⟨v,r',q,g,t⟩=>by
    subst q
    simp only[List.map_cons,DatPL]
    exact⟨v,r',rfl,h x _ _ _ g,AtL.dat h t⟩
def Co {α β:Type} (r:α→Dm K) (s:β→Dm K) (f:α→β):Prop:= ∀x Z H v,(r x).at_ Z H v→(s (f x)).at_ Z H v
theorem co_id {α:Type} {r:α→Dm K}:Co r r id:=fun _ _ _ _ h=>h
theorem co_I:Co (K:=K) kI kPy PyData.int:=fun _ _ _ _ h=>h
theorem co_B:Co (K:=K) kB kPy PyData.bool:=fun _ _ _ _ h=>h
theorem co_S:Co (K:=K) kS kPy PyData.str:=fun _ _ _ _ h=>h
theorem co_N:Co (K:=K) kN kPy fun _=>PyData.none:=fun _ _ _ _ h=>h
theorem datp_tup {ds:List PyData} {a:Addr} {xs:List V} (n: ¬ Z a∨SqT K (fun _=>none) a xs) (h:SqT K H a xs) (l:DatPL K Z H ds xs):DatP K Z H (.tuple ds) (.ref a):=by
  simp only[DatP];exact⟨a,xs,rfl,n,h,l⟩
theorem datp_lst {ds:List PyData} {a:Addr} {xs:List V} (n: ¬ Z a) (h:Rd H a (.lst xs)) (l:DatPL K Z H ds xs):DatP K Z H (.list ds) (.ref a):=by
  simp only[DatP];exact⟨a,xs,rfl,n,h,l⟩
theorem datpl_nil:DatPL K Z H [] []:=by simp only[DatPL]
theorem co_LP {α:Type} {r:α→Dm K} {f:α→PyData} (h:Co r kPy f):Co (kL r) kPy fun xs=> .list (xs.map f):=fun xs Z H v ⟨a,ys,e,n,s,l⟩=>by
  subst e
  exact datp_lst n (.inl s) (AtL.dat h l)
theorem co_TP {α:Type} {r:α→Dm K} {f:α→PyData} (h:Co r kPy f):Co (kT r) kPy fun xs=> .tuple (xs.map f):=fun xs Z H v ⟨a,ys,e,n,s,l⟩=>by
  subst e
  exact datp_tup n s (AtL.dat h l)
theorem at_int {i:Int} {v:V} (h:(kI (K:=K) i).at_ Z H v):v= .int i:=by simpa only[dPy,DatP] using h
theorem at_bl {i:Bool} {v:V} (h:(kB (K:=K) i).at_ Z H v):v= .bl i:=by simpa only[dPy,DatP] using h
theorem at_str {i:Str} {v:V} (h:(kS (K:=K) i).at_ Z H v):v= .str i:=by simpa only[dPy,DatP] using h
theorem at_non {i:Unit} {v:V} (h:(kN (K:=K) i).at_ Z H v):v= .non:=by simpa only[dPy,DatP] using h
theorem mk_int {i:Int}:(kI (K:=K) i).at_ Z H (.int i):=by simp only[dPy,DatP]
theorem mk_bl {i:Bool}:(kB (K:=K) i).at_ Z H (.bl i):=by simp only[dPy,DatP]
theorem mk_str {i:Str}:(kS (K:=K) i).at_ Z H (.str i):=by simp only[dPy,DatP]
theorem mk_non:(kN (K:=K) ()).at_ Z H .non:=by simp only[dPy,DatP]
end

inductive Cell (K:PySem.W.Frag)
  | pot
  | lst (ds:List (Dm K))
  | dic (es:List (Key×Dm K))
  | dct (es:List (List Key×Dm K))
  | tab (q:Str)
  | ins (C:Addr) (fs:List (Str×Dm K))
def CellOk {K:PySem.W.Frag} (Z:Pl) (H:Hp) (a:Addr):Cell K→Prop
  | .pot=>Pot a H
  | .lst ds=> ∃vs,H a=some (.lst vs)∧AtL Z H ds vs
  | .dic es=> ∃vs,H a=some (.dK vs)∧AtK Z H es vs
  | .dct es=> ∃vs,H a=some (.dT vs)∧AtK Z H es vs
  | .tab q=> ∃ps:Array Value,H a=some (.tbl ps)∧TriplesOk ps.toList∧ ∀(pos:Pos) (cv:Value),codeAmong pos ps.toList=some cv→ ∃c,cv= .ref c∧ ¬ Z c∧H c=some (LamX.CodeO c q)
  | .ins C fs=> ∃dx vs,H a=some (.ins C dx vs)∧AtK Z H fs vs
abbrev Store (K:PySem.W.Frag):=Addr→Option (Cell K)
def Store.set {K:PySem.W.Frag} (S:Store K) (a:Addr) (c:Cell K):Store K:=fun b=>if b=a then some c else S b
def Store.del {K:PySem.W.Frag} (S:Store K) (a:Addr):Store K:=fun b=>if b=a then none else S b
def Zd {K:PySem.W.Frag} (S:Store K) (F:Pl):Pl:=fun a=>S a≠none∨F a
section
variable {K : PySem.W.Frag} {S S' S'' : Store K} {F : Pl} {Z Z' : Pl} {H H' H'' : Hp} {a b : Addr} {c c' : Cell K}
theorem set_same:S.set a c a=some c:=by simp[Store.set]
theorem set_ne (h:b≠a):S.set a c b=S b:=by simp[Store.set,h]
theorem del_same:S.del a a=none:=by simp[Store.del]
theorem del_ne (h:b≠a):S.del a b=S b:=by simp[Store.del,h]
theorem set_set:(S.set a c).set a c'=S.set a c':=by funext b;unfold Store.set;split <;> rfl
theorem set_del:(S.set a c).del a=S.del a:=by
  funext b;unfold Store.set Store.del
  by_cases e:b=a
  · simp[e]
  · simp[e]
theorem del_none (h:S a=none):S.del a=S:=by
  funext b;unfold Store.del;split
  · next e=>rw[e,h]
  · rfl
theorem CellOk.up (r:Stp Z H Z' H') (hH: ∀o,H a=some o→H' a=some o): ∀ {c:Cell K},CellOk Z H a c→CellOk Z' H' a c
  | .pot,⟨x,y,e,q⟩=>⟨x,y,hH _ e,q⟩
  | .lst _,⟨vs,e,l⟩=>⟨vs,hH _ e,l.up r⟩
  | .dic _,⟨vs,e,l⟩=>⟨vs,hH _ e,l.up r⟩
  | .dct _,⟨vs,e,l⟩=>⟨vs,hH _ e,l.up r⟩
  | .tab _,⟨ps,e,t,g⟩=>⟨ps,hH _ e,t,fun pos cv h=>by
    obtain⟨c,e1,n,e2⟩:=g pos cv h
    exact⟨c,e1,nz_stp r n (by rw[e2];exact fun z=>nomatch z),r.keep _ _ n e2⟩⟩
  | .ins _ _,⟨dx,vs,e,l⟩=>⟨dx,vs,hH _ e,l.up r⟩
theorem CellOk.some: ∀ {c:Cell K},CellOk Z H a c→ ∃o,H a=some o∧ ∀x u,o≠ .frz x u
  | .pot,⟨x,y,e,q⟩=>⟨_,e,fun _ _ z=>nomatch z⟩
  | .lst _,⟨vs,e,l⟩=>⟨_,e,fun _ _ z=>nomatch z⟩
  | .dic _,⟨vs,e,l⟩=>⟨_,e,fun _ _ z=>nomatch z⟩
  | .dct _,⟨vs,e,l⟩=>⟨_,e,fun _ _ z=>nomatch z⟩
  | .tab _,⟨ps,e,t,g⟩=>⟨_,e,fun _ _ z=>nomatch z⟩
  | .ins _ _,⟨dx,vs,e,l⟩=>⟨_,e,fun _ _ z=>nomatch z⟩
end
def Raw (H:Hp) (a:Addr):Prop:=(∃xs,H a=some (.lst xs))∨(∃xs,H a=some (.dK xs))∨ ∃xs,H a=some (.dT xs)
structure Wd {K:PySem.W.Frag} (S:Store K) (F:Pl) (H:Hp):Prop where
  one:One H
  cell: ∀a c,S a=some c→CellOk (Zd S F) H a c
  foc: ∀a,F a→Raw H a
  dis: ∀a,F a→S a=none
structure Stq {K:PySem.W.Frag} (S:Store K) (H:Hp) (S':Store K) (H':Hp):Prop where
  keep: ∀b o,S b=none→H b=some o→H' b=some o
  dom: ∀b,S' b≠none→S b≠none∨H b=none
  occ: ∀b,H b≠none→H' b≠none
structure Nxt {K:PySem.W.Frag} (S:Store K) (F:Pl) (H:Hp) (S':Store K) (H':Hp):Prop where
  st:Stq S H S' H'
  wd:Wd S' F H'
section
variable {K : PySem.W.Frag} {S S1 S2 S' S'' : Store K} {F F' : Pl} {Z Z' : Pl} {H H1 H2 H' H'' : Hp} {a b n : Addr} {c c' : Cell K}
theorem Raw.some (h:Raw H a): ∃o,H a=some o∧ ∀x u,o≠ .frz x u:=by
  rcases h with ⟨x,h⟩ | ⟨x,h⟩ | ⟨x,h⟩ <;> exact⟨_,h,fun _ _ z=>nomatch z⟩
theorem Raw.keep (h:Raw H a) (k: ∀o,H a= .some o→H' a= .some o):Raw H' a:=by
  rcases h with ⟨x,h⟩ | ⟨x,h⟩ | ⟨x,h⟩
  · exact .inl ⟨x,k _ h⟩
  · exact .inr (.inl ⟨x,k _ h⟩)
  · exact .inr (.inr ⟨x,k _ h⟩)
theorem Wd.zsome (w:Wd S F H) (z:Zd S F a): ∃o,H a=some o∧ ∀x u,o≠ .frz x u:=by
  rcases z with z | z
  · cases e:S a with
    | none=>exact absurd e z
    | some c=>exact (w.cell a c e).some
  · exact (w.foc a z).some
theorem Wd.free (w:Wd S F H) (h:H n=none): ¬ Zd S F n:=fun z=>by
  obtain⟨o,e,_⟩:=w.zsome z
  rw[h] at e;cases e
theorem Wd.sfree (w:Wd S F H) (h:H n=none):S n=none:=by
  cases e:S n with
  | none=>rfl
  | some c=>exact absurd (.inl (by rw[e];exact fun z=>nomatch z)) (w.free h)
theorem Wd.sys (w:Wd S F H): ¬ Zd S F sysModules:=fun z=>by
  obtain⟨o,e,q⟩:=w.zsome z
  obtain⟨x,u,e2⟩:=w.one
  rw[e2] at e;cases e
  exact q _ _ rfl
theorem Stq.refl:Stq S H S H:=⟨fun _ _ _ e=>e,fun _ h=> .inl h,fun _ h=>h⟩
theorem Stq.trans (a:Stq S H S1 H1) (b:Stq S1 H1 S2 H2):Stq S H S2 H2:=
  ⟨fun c o n e=>b.keep c o (by
      cases q:S1 c with
      | none=>rfl
      | some x=>exact ((a.dom c (by rw[q];exact fun z=>nomatch z)).elim (fun z=>absurd n z) fun z=>by rw[e] at z;cases z)) (a.keep c o n e),
   fun c h=>(b.dom c h).elim (a.dom c) fun z=>by
      cases e:H c with
      | none=>exact .inr rfl
      | some o=>exact absurd z (a.occ c (by rw[e];exact fun w=>nomatch w)),
   fun c h=>b.occ c (a.occ c h)⟩
theorem Stq.stp (r:Stq S H S' H'):Stp (Zd S F) H (Zd S' F) H':=
  ⟨fun b o n e=>r.keep b o (by
      cases q:S b with
      | none=>rfl
      | some c=>exact absurd (.inl (by rw[q];exact fun z=>nomatch z)) n) e,
   fun b z=>z.elim (fun h=>(r.dom b h).imp .inl id) fun h=> .inl (.inr h)⟩
theorem Stq.one (r:Stq S H S' H') (w:Wd S F H):One H':=by
  obtain⟨o,u,e⟩:=w.one
  refine⟨o,u,r.keep _ _ ?_ e⟩
  cases q:S sysModules with
  | none=>rfl
  | some c=>exact absurd (.inl (by rw[q];exact fun z=>nomatch z)) w.sys
theorem Nxt.refl (w:Wd S F H):Nxt S F H S H:=⟨.refl,w⟩
theorem Nxt.trans (a:Nxt S F H S1 H1) (b:Nxt S1 F H1 S2 H2):Nxt S F H S2 H2:=⟨a.st.trans b.st,b.wd⟩
theorem Nxt.stp (r:Nxt S F H S' H'):Stp (Zd S F) H (Zd S' F) H':=r.st.stp
theorem Nxt.up (r:Nxt S F H S' H') {d:Dm K} {v:V} (h:d.at_ (Zd S F) H v):d.at_ (Zd S' F) H' v:=d.up r.stp h
theorem Nxt.upL (r:Nxt S F H S' H') {d:List (Dm K)} {v:List V} (h:AtL (Zd S F) H d v):AtL (Zd S' F) H' d v:=h.up r.stp
theorem Wd.new (w:Wd S F H) (h:H n=none) {o:HO}:Nxt S F H S (upd H n o):=by
  have k: ∀b u,H b=some u→upd H n o b=some u:=fun b u e=>by rw[upd_ne (ne_of_none e h)];exact e
  refine⟨⟨fun b u _ e=>k b u e,fun _ z=> .inl z,fun b z=> ?_⟩,⟨?_,fun a c e=>(w.cell a c e).up (Stp.new h) (k a),fun a z=>(w.foc a z).keep (k a),w.dis⟩⟩
  · cases e:H b with
    | none=>exact absurd e z
    | some u=>rw[k b u e];exact fun w=>nomatch w
  · obtain⟨x,u,e⟩:=w.one
    exact⟨x,u,k _ _ e⟩
theorem Wd.newS (w:Wd S F H) (h:H n=none) {o:HO} {c:Cell K} (ok:CellOk (Zd (S.set n c) F) (upd H n o) n c):Nxt S F H (S.set n c) (upd H n o):=by
  have k: ∀b u,H b=some u→upd H n o b=some u:=fun b u e=>by rw[upd_ne (ne_of_none e h)];exact e
  have st:Stp (Zd S F) H (Zd (S.set n c) F) (upd H n o):=⟨fun b u _ e=>k b u e,fun b z=>z.elim (fun z=>by
    by_cases e:b=n
    · subst e;exact .inr h
    · rw[set_ne e] at z;exact .inl (.inl z)) fun z=> .inl (.inr z)⟩
  refine⟨⟨fun b u _ e=>k b u e,fun b z=> ?_,fun b z=> ?_⟩,⟨?_,fun a c' e=> ?_,fun a z=>(w.foc a z).keep (k a),fun a z=> ?_⟩⟩
  · by_cases e:b=n
    · subst e;exact .inr h
    · rw[set_ne e] at z;exact .inl z
  · cases e:H b with
    | none=>exact absurd e z
    | some u=>rw[k b u e];exact fun w=>nomatch w
  · obtain⟨x,u,e⟩:=w.one
    exact⟨x,u,k _ _ e⟩
  · by_cases q:a=n
    · subst q;rw[set_same] at e;cases e;exact ok
    · rw[set_ne q] at e;exact (w.cell a c' e).up st (k a)
  · have q:a≠n:=fun q=>by
      obtain⟨o,e,_⟩:=(w.foc a z).some
      subst q;rw[h] at e;cases e
    rw[set_ne q];exact w.dis a z
theorem Wd.putS (w:Wd S F H) {c0:Cell K} (h:S a=some c0) {o:HO} {c:Cell K} (ok:CellOk (Zd S F) (upd H a o) a c):Nxt S F H (S.set a c) (upd H a o):=by
  have zz:Zd (S.set a c) F=Zd S F:=by
    funext b
    unfold Zd
    by_cases e:b=a
    · subst e;rw[set_same,h];simp
    · rw[set_ne e]
  have st:Stp (Zd S F) H (Zd S F) (upd H a o):=Stp.put (.inl (by rw[h];exact fun z=>nomatch z))
  have far: ∀b u,b≠a→H b=some u→upd H a o b=some u:=fun b u n e=>by rw[upd_ne n];exact e
  refine⟨⟨fun b u n e=>far b u (fun q=>by subst q;rw[h] at n;cases n) e,fun b z=> ?_,fun b z=> ?_⟩,⟨?_,fun b c' e=> ?_,fun b z=>(w.foc b z).keep fun u e=>far b u (fun q=>by subst q;rw[w.dis _ z] at h;cases h) e,fun b z=> ?_⟩⟩
  · by_cases e:b=a
    · subst e;exact .inl (by rw[h];exact fun w=>nomatch w)
    · rw[set_ne e] at z;exact .inl z
  · by_cases e:b=a
    · subst e;rw[upd_same];exact fun w=>nomatch w
    · rw[upd_ne e];exact z
  · obtain⟨x,u,e⟩:=w.one
    exact⟨x,u,far _ _ (fun q=>w.sys (.inl (by rw[q,h];exact fun w=>nomatch w))) e⟩
  · rw[zz]
    by_cases q:b=a
    · subst q;rw[set_same] at e;cases e;exact ok
    · rw[set_ne q] at e;exact (w.cell b c' e).up st fun u e=>far b u q e
  · have q:b≠a:=fun q=>by rw[q] at z;rw[w.dis _ z] at h;cases h
    rw[set_ne q];exact w.dis b z
theorem Wd.delS (w:Wd S F H):Nxt S F H (S.del a) H:=by
  have sub: ∀b,S.del a b≠none→S b≠none:=fun b z=>by
    by_cases e:b=a
    · subst e;rw[del_same] at z;exact absurd rfl z
    · rw[del_ne e] at z;exact z
  refine⟨⟨fun b u _ e=>e,fun b z=> .inl (sub b z),fun b z=>z⟩,⟨w.one,fun b c' e=> ?_,w.foc,fun b z=> ?_⟩⟩
  · have q:b≠a:=fun q=>by subst q;rw[del_same] at e;cases e
    rw[del_ne q] at e
    exact (w.cell b c' e).up (Stp.less fun x z=>z.imp (sub x) id) fun _ e=>e
  · by_cases e:b=a
    · subst e;exact del_same
    · rw[del_ne e];exact w.dis b z
theorem Wd.del_at (w:Wd S F H) {c:Cell K} (h:S a=some c): ¬ Zd (S.del a) F a:=fun z=>z.elim (fun z=>z del_same) fun z=>by rw[w.dis a z] at h;cases h
theorem Wd.lessF (w:Wd S F H) (h: ∀a,F' a→F a):Wd S F' H:=
  ⟨w.one,fun a c e=>(w.cell a c e).up (Stp.less fun x z=>z.imp id (h x)) fun _ e=>e,fun a z=>w.foc a (h a z),fun a z=>w.dis a (h a z)⟩
theorem Zd.lessF {d:Dm K} {v:V} (h: ∀a,F' a→F a) (q:d.at_ (Zd S F) H v):d.at_ (Zd S F') H v:=d.up (Stp.less fun x z=>z.imp id (h x)) q
theorem Wd.moreF (w:Wd S F H) {o:HO} (h:H n=none) (r:Raw (upd H n o) n):Wd S (fun b=>F b∨b=n) (upd H n o):=by
  have k: ∀b u,H b=some u→upd H n o b=some u:=fun b u e=>by rw[upd_ne (ne_of_none e h)];exact e
  have st:Stp (Zd S F) H (Zd S fun b=>F b∨b=n) (upd H n o):=⟨fun b u _ e=>k b u e,fun b z=>z.elim (fun z=> .inl (.inl z)) fun z=>z.elim (fun z=> .inl (.inr z)) fun z=> .inr (z ▸ h)⟩
  refine⟨?_,fun a c e=>(w.cell a c e).up st (k a),fun a z=>z.elim (fun z=>(w.foc a z).keep (k a)) fun z=>z ▸ r,fun a z=>z.elim (w.dis a) fun z=>z ▸ w.sfree h⟩
  obtain⟨x,u,e⟩:=w.one
  exact⟨x,u,k _ _ e⟩
theorem Stp.moreF (w:Wd S F H) {o:HO} (h:H n=none):Stp (Zd S F) H (Zd S fun b=>F b∨b=n) (upd H n o):=
  ⟨fun b u _ e=>by rw[upd_ne (ne_of_none e h)];exact e,fun b z=>z.elim (fun z=> .inl (.inl z)) fun z=>z.elim (fun z=> .inl (.inr z)) fun z=> .inr (z ▸ h)⟩
theorem Wd.putF (w:Wd S F H) {o:HO} (h:F n) (r:Raw (upd H n o) n):Wd S F (upd H n o):=by
  have far: ∀b u,b≠n→H b=some u→upd H n o b=some u:=fun b u m e=>by rw[upd_ne m];exact e
  have st:Stp (Zd S F) H (Zd S F) (upd H n o):=Stp.put (.inr h)
  refine⟨?_,fun a c e=>(w.cell a c e).up st fun u q=>far a u (fun z=>by subst z;rw[w.dis _ h] at e;cases e) q,fun a z=> ?_,w.dis⟩
  · obtain⟨x,u,e⟩:=w.one
    exact⟨x,u,far _ _ (fun q=>w.sys (.inr (q ▸ h))) e⟩
  · by_cases e:a=n
    · subst e;exact r
    · exact (w.foc a z).keep fun u q=>far a u e q
end

abbrev Err (K:PySem.W.Frag):=Addr×List (Str×Dm K)
def W (K:PySem.W.Frag) (α:Type):=(α→Store K→Prop)→(Err K→Store K→Prop)→Store K→Prop
section
variable {K : PySem.W.Frag} {α β : Type}
def ret (x:α):W K α:=fun Q _ S=>Q x S
def bnd (m:W K α) (k:α→W K β):W K β:=fun Q E S=>m (fun x S'=>k x Q E S') E S
def wRaise (e:Err K):W K α:=fun _ E S=>E e S
def wAss (c:Prop) (m:W K α):W K α:=fun Q E S=>c∧m Q E S
def wIf (b:Bool) (m n:W K α):W K α:=fun Q E S=>if b=true then m Q E S else n Q E S
def wCalm (m:W K α):W K α:=fun Q _ S=>m Q (fun _ _=>False) S
end
inductive Flow (S ρ:Type)
  | nx (s:S)
  | bk (s:S)
  | rt (x:ρ)
def ErrAt {K:PySem.W.Frag} (e:Err K) (Z:Pl) (H:Hp) (c:Value) (d:Option Addr):Prop:=
  c= .ref e.1∧ ∃b kvs,d=some b∧ ¬ Z b∧H b=some (.xd kvs)∧AtK Z H e.2 kvs
theorem ErrAt.up {K:PySem.W.Frag} {e:Err K} {Z Z':Pl} {H H':Hp} {c:Value} {d:Option Addr} (r:Stp Z H Z' H') (h:ErrAt e Z H c d):ErrAt e Z' H' c d:=
  let ⟨h1,b,kvs,h2,h3,h4,h5⟩:=h
  ⟨h1,b,kvs,h2,nz_stp r h3 (by rw[h4];exact fun z=>nomatch z),r.keep _ _ h3 h4,h5.up r⟩

abbrev Gm (K:PySem.W.Frag):=List (Option (Dm K))
structure Sat {K:PySem.W.Frag} (G:Gm K) (Z:Pl) (H:Hp) (σ:L2.St):Prop where
  len:σ.length=G.length
  slot: ∀(i:Nat) (d:Dm K),G[i]?=some (some d)→ ∃v,σ[i]?=some (some v)∧d.at_ Z H v
section
variable {K : PySem.W.Frag} {Z Z' : Pl} {H H' : Hp} {G : Gm K} {σ : L2.St}
theorem Sat.up (h:Sat G Z H σ) (r:Stp Z H Z' H'):Sat G Z' H' σ:=⟨h.len,fun i d e=>let ⟨v,e1,e2⟩:=h.slot i d e;⟨v,e1,d.up r e2⟩⟩
theorem Sat.set {i:Nat} {d:Dm K} {v:V} (h:Sat G Z H σ) (hd:d.at_ Z H v):Sat (G.set i (some d)) Z H (σ.set i (some v)):=by
  refine⟨by simp[h.len],fun j e hj=> ?_⟩
  rw[List.getElem?_set] at hj
  by_cases z:i=j
  · subst z
    rw[if_pos rfl] at hj
    by_cases l:i<G.length
    · rw[if_pos l] at hj
      cases hj
      exact⟨v,by rw[List.getElem?_set,if_pos rfl,if_pos (by rw[h.len];exact l)],hd⟩
    · rw[if_neg l] at hj;cases hj
  · rw[if_neg z] at hj
    obtain⟨u,e1,e2⟩:=h.slot j e hj
    exact⟨u,by rw[List.getElem?_set,if_neg z];exact e1,e2⟩
theorem Sat.wipe1 {i:Nat} (h:Sat G Z H σ):Sat (G.set i none) Z H (σ.set i none):=by
  refine⟨by simp[h.len],fun j e hj=> ?_⟩
  rw[List.getElem?_set] at hj
  by_cases z:i=j
  · subst z
    rw[if_pos rfl] at hj
    split at hj <;> cases hj
  · rw[if_neg z] at hj
    obtain⟨u,e1,e2⟩:=h.slot j e hj
    exact⟨u,by rw[List.getElem?_set,if_neg z];exact e1,e2⟩
def gwipe (G:Gm K):List Nat→Gm K
  | []=>G
  | v::vs=>(gwipe G vs).set v none
theorem Sat.wipe (h:Sat G Z H σ): ∀vs:List Nat,Sat (gwipe G vs) Z H (L2.wipe σ vs)
  | []=>h
  | v::vs=>(Sat.wipe h vs).wipe1
inductive Wk:Gm K→Gm K→Prop
  | nil:Wk [] []
  | no {a b x}:Wk a b→Wk (x::a) (Option.none::b)
  | so {a b d}:Wk a b→Wk (Option.some d::a) (Option.some d::b)
theorem Wk.len {a b:Gm K} (h:Wk a b):a.length=b.length:=by
  induction h with
  | nil=>rfl
  | no _ ih=>simp[ih]
  | so _ ih=>simp[ih]
theorem Wk.get {a b:Gm K} (h:Wk a b): ∀(i:Nat) (d:Dm K),b[i]?=some (some d)→a[i]?=some (some d):=by
  induction h with
  | nil=>intro i d e;simp at e
  | no _ ih=>
    intro i d e
    cases i with
    | zero=>simp at e
    | succ i=>simpa using ih i d (by simpa using e)
  | so _ ih=>
    intro i d e
    cases i with
    | zero=>simpa using e
    | succ i=>simpa using ih i d (by simpa using e)
theorem Sat.wk {G':Gm K} (h:Sat G Z H σ) (k:Wk G G'):Sat G' Z H σ:=⟨by rw[h.len,k.len],fun i d q=>h.slot i d (k.get i d q)⟩
end
end TL

set_option Elab.async false
set_option linter.all false
set_option maxRecDepth 100000
set_option maxHeartbeats 2000000
namespace TL
open PySem PySem.Spec PyProof.Rows L2 PC

section
variable {K : PySem.W.Frag}
def HanE (ε:WX) (S:Store K) (F:Pl) (H:Hp) (σ:L2.St) (Ep:Err K→Store K→Prop):Prop:=
  ∀e S' H' c d,Ep e S'→Nxt S F H S' H'→ErrAt e (Zd S' F) H' c d→ε c d σ H'
def Sim (ε:WX) (G:Gm K) (te:TE) {α:Type} (r:α→Dm K) (m:W K α):Prop:=
  ∀S F σ H (Q:VK) (Qp:α→Store K→Prop) (Ep:Err K→Store K→Prop),Wd S F H→Sat G (Zd S F) H σ→m Qp Ep S→
    (∀x S' H' v,Qp x S'→Nxt S F H S' H'→(r x).at_ (Zd S' F) H' v→Q v H')→HanE ε S F H σ Ep→te σ H Q
def SimB (ε:WX) (G:Gm K) (tt:TT) (m:W K Bool):Prop:=
  ∀S F σ H (Q:Bool→Hp→Prop) (Qp:Bool→Store K→Prop) (Ep:Err K→Store K→Prop),Wd S F H→Sat G (Zd S F) H σ→m Qp Ep S→
    (∀x S' H',Qp x S'→Nxt S F H S' H'→Q x H')→HanE ε S F H σ Ep→tt σ H Q
def SimA (ε:WX) (G:Gm K) (ta:TA) {τ:Type} (δ:τ→List (Dm K)) (m:W K τ):Prop:=
  ∀S F σ H (Q:List V→Hp→Prop) (Qp:τ→Store K→Prop) (Ep:Err K→Store K→Prop),Wd S F H→Sat G (Zd S F) H σ→m Qp Ep S→
    (∀x S' H' vs,Qp x S'→Nxt S F H S' H'→AtL (Zd S' F) H' (δ x) vs→Q vs H')→HanE ε S F H σ Ep→ta σ H Q
variable {ε : WX} {G : Gm K} {α β γ τ : Type} {S S1 : Store K} {F : Pl} {H H1 : Hp} {σ : L2.St}
theorem HanE.to {Ep:Err K→Store K→Prop} (h:HanE ε S F H σ Ep) (r:Nxt S F H S1 H1):HanE ε S1 F H1 σ Ep:=
  fun e S' H' c d he hr=>h e S' H' c d he (r.trans hr)
theorem hanE_no:HanE (K:=K) ε S F H σ (fun _ _=>False):=fun _ _ _ _ _ z=>z.elim
theorem wIf_t {b:Bool} {m n:W K α} {Q:α→Store K→Prop} {E:Err K→Store K→Prop} (h:wIf true m n Q E S):m Q E S:=by unfold wIf at h;rw[if_pos rfl] at h;exact h
theorem wIf_f {b:Bool} {m n:W K α} {Q:α→Store K→Prop} {E:Err K→Store K→Prop} (h:wIf false m n Q E S):n Q E S:=by unfold wIf at h;rw[if_neg (by decide)] at h;exact h
theorem sim_var {i:Nat} {r:α→Dm K} {x:α} (h:G[i]?=some (some (r x))):Sim ε G (tVar i) r (ret x):=by
  intro S F σ H Q Qp Ep w s hm hQ _
  obtain⟨v,e,hv⟩:=s.slot i _ h
  exact⟨v,e,hQ x S H v hm (.refl w) hv⟩
theorem sim_i {i:Int}:Sim ε G (tC (.int i)) kI (ret i):=fun S F σ H Q Qp Ep w s hm hQ _=>hQ _ S H _ hm (.refl w) mk_int
theorem sim_s {i:Str}:Sim ε G (tC (.str i)) kS (ret i):=fun S F σ H Q Qp Ep w s hm hQ _=>hQ _ S H _ hm (.refl w) mk_str
theorem sim_b {i:Bool}:Sim ε G (tC (.bl i)) kB (ret i):=fun S F σ H Q Qp Ep w s hm hQ _=>hQ _ S H _ hm (.refl w) mk_bl
theorem sim_n:Sim ε G (tC .non) kN (ret ()):=fun S F σ H Q Qp Ep w s hm hQ _=>hQ _ S H _ hm (.refl w) mk_non
theorem sim_co {te:TE} {r:α→Dm K} {s:β→Dm K} {f:α→β} {m:W K α} (h:Sim ε G te r m) (c:Co r s f):Sim ε G te s (bnd m fun x=>ret (f x)):=
  fun S F σ H Q Qp Ep w sa hm hQ hE=>h S F σ H Q _ Ep w sa hm (fun x S' H' v hx rr ha=>hQ (f x) S' H' v hx rr (c _ _ _ _ ha)) hE
def OpS (K:PySem.W.Frag) (r:R2) {α β γ:Type} (r1:α→Dm K) (r2:β→Dm K) (r3:γ→Dm K) (f:α→β→W K γ):Prop:=
  ∀S F H x y v w Q (Qp:γ→Store K→Prop) (Ep:Err K→Store K→Prop),Wd S F H→(r1 x).at_ (Zd S F) H v→(r2 y).at_ (Zd S F) H w→f x y Qp Ep S→
    (∀z S' H' u,Qp z S'→Nxt S F H S' H'→(r3 z).at_ (Zd S' F) H' u→Q u H')→r v w H Q
theorem sim_op {r:R2} {ta tb:TE} {r1:α→Dm K} {r2:β→Dm K} {r3:γ→Dm K} {ma:W K α} {mb:W K β} {f:α→β→W K γ}
    (o:OpS K r r1 r2 r3 f) (a:Sim ε G ta r1 ma) (b:Sim ε G tb r2 mb):Sim ε G (tOp r ta tb) r3 (bnd ma fun x=>bnd mb fun y=>f x y):=by
  intro S F σ H Q Qp Ep w s hm hQ hE
  refine a S F σ H _ _ Ep w s hm (fun x S1 H1 v hx h1 hv=> ?_) hE
  refine b S1 F σ H1 _ _ Ep h1.wd (s.up h1.stp) hx (fun y S2 H2 u hy h2 hu=> ?_) (hE.to h1)
  exact o S2 F H2 x y v u Q _ Ep h2.wd (h2.up hv) hu hy (fun z S' H' t hz h3 ht=>hQ z S' H' t hz (h1.trans (h2.trans h3)) ht)
theorem simB_test {te:TE} {m:W K Bool} (h:Sim ε G te kB m):SimB ε G (tTest te) m:=by
  intro S F σ H Q Qp Ep w s hm hQ hE
  exact h S F σ H _ _ Ep w s hm (fun x S' H' v hx hr hv=>⟨x,at_bl hv,hQ x S' H' hx hr⟩) hE
theorem simB_B {te:TE} {m:W K Bool} (h:Sim ε G te kB m):SimB ε G (tB te) m:=by
  intro S F σ H Q Qp Ep w s hm hQ hE
  exact h S F σ H _ _ Ep w s hm (fun x S' H' v hx hr hv=>⟨x,at_bl hv,hQ x S' H' hx hr⟩) hE
theorem simB_not {t:TT} {m:W K Bool} (h:SimB ε G t m):SimB ε G (tNot t) (bnd m fun b=>ret (!b)):=
  fun S F σ H Q Qp Ep w s hm hQ hE=>h S F σ H _ _ Ep w s hm (fun x S' H' hx hr=>hQ _ S' H' hx hr) hE
theorem simB_or {t u:TT} {m n:W K Bool} (h:SimB ε G t m) (g:SimB ε G u n):SimB ε G (tOr t u) (bnd m fun b=>wIf b (ret true) n):=by
  intro S F σ H Q Qp Ep w s hm hQ hE
  refine h S F σ H _ _ Ep w s hm (fun x S1 H1 hx h1=> ?_) hE
  cases x with
  | false=>exact iteF (g S1 F σ H1 _ _ Ep h1.wd (s.up h1.stp) (wIf_f (b:=true) hx) (fun y S' H' hy h2=>hQ y S' H' hy (h1.trans h2)) (hE.to h1))
  | true=>exact iteT (hQ true S1 H1 (wIf_t (b:=true) hx) h1)
theorem simB_yes:SimB ε G tYes (ret true):=fun S F σ H Q Qp Ep w s hm hQ hE=>hQ true S H hm (.refl w)
theorem sim_andV {t u:TE} {m n:W K Bool} (h:Sim ε G t kB m) (g:Sim ε G u kB n):Sim ε G (tAndV t u) kB (bnd m fun b=>wIf b n (ret false)):=by
  intro S F σ H Q Qp Ep w s hm hQ hE
  refine h S F σ H _ _ Ep w s hm (fun x S1 H1 v hx h1 hv=>⟨x,at_bl hv,?_⟩) hE
  cases x with
  | true=>exact iteT (g S1 F σ H1 _ _ Ep h1.wd (s.up h1.stp) (wIf_t (b:=true) hx) (fun y S' H' v hy h2 hv=>hQ y S' H' v hy (h1.trans h2) hv) (hE.to h1))
  | false=>exact iteF (hQ false S1 H1 _ (wIf_f (b:=true) hx) h1 mk_bl)
theorem sim_orV {t u:TE} {m n:W K Bool} (h:Sim ε G t kB m) (g:Sim ε G u kB n):Sim ε G (tOrV t u) kB (bnd m fun b=>wIf b (ret true) n):=by
  intro S F σ H Q Qp Ep w s hm hQ hE
  refine h S F σ H _ _ Ep w s hm (fun x S1 H1 v hx h1 hv=>⟨x,at_bl hv,?_⟩) hE
  cases x with
  | false=>exact iteF (g S1 F σ H1 _ _ Ep h1.wd (s.up h1.stp) (wIf_f (b:=true) hx) (fun y S' H' v hy h2 hv=>hQ y S' H' v hy (h1.trans h2) hv) (hE.to h1))
  | true=>exact iteT (hQ true S1 H1 _ (wIf_t (b:=true) hx) h1 mk_bl)
theorem sim_notV {t:TE} {m:W K Bool} (h:Sim ε G t kB m):Sim ε G (tNotV t) kB (bnd m fun b=>ret (!b)):=
  fun S F σ H Q Qp Ep w s hm hQ hE=>h S F σ H _ _ Ep w s hm (fun x S' H' v hx hr hv=>⟨x,at_bl hv,hQ _ S' H' _ hx hr mk_bl⟩) hE
theorem sim_if {c:TT} {t u:TE} {r:α→Dm K} {mc:W K Bool} {m n:W K α} (hc:SimB ε G c mc) (h:Sim ε G t r m) (g:Sim ε G u r n):
    Sim ε G (tIf c t u) r (bnd mc fun b=>wIf b m n):=by
  intro S F σ H Q Qp Ep w s hm hQ hE
  refine hc S F σ H _ _ Ep w s hm (fun x S1 H1 hx h1=> ?_) hE
  cases x with
  | true=>exact iteT (h S1 F σ H1 _ _ Ep h1.wd (s.up h1.stp) (wIf_t (b:=true) hx) (fun y S' H' v hy h2 hv=>hQ y S' H' v hy (h1.trans h2) hv) (hE.to h1))
  | false=>exact iteF (g S1 F σ H1 _ _ Ep h1.wd (s.up h1.stp) (wIf_f (b:=true) hx) (fun y S' H' v hy h2 hv=>hQ y S' H' v hy (h1.trans h2) hv) (hE.to h1))
theorem sim_chain {r r':R2} {ta tb tc:TE} {r1:α→Dm K} {r2:β→Dm K} {r3:γ→Dm K} {ma:W K α} {mb:W K β} {mc:W K γ} {f:α→β→W K Bool} {g:β→γ→W K Bool}
    (o:OpS K r r1 r2 kB f) (o':OpS K r' r2 r3 kB g) (a:Sim ε G ta r1 ma) (b:Sim ε G tb r2 mb) (c:Sim ε G tc r3 mc):
    Sim ε G (tChain r r' ta tb tc) kB (bnd ma fun x=>bnd mb fun y=>bnd (f x y) fun k=>wIf k (bnd mc fun z=>g y z) (ret false)):=by
  intro S F σ H Q Qp Ep w s hm hQ hE
  refine a S F σ H _ _ Ep w s hm (fun x S1 H1 v hx h1 hv=> ?_) hE
  refine b S1 F σ H1 _ _ Ep h1.wd (s.up h1.stp) hx (fun y S2 H2 u hy h2 hu=> ?_) (hE.to h1)
  refine o S2 F H2 x y v u _ _ Ep h2.wd (h2.up hv) hu hy (fun k S3 H3 t hk h3 ht=>⟨k,at_bl ht,?_⟩)
  have h13:=h1.trans (h2.trans h3)
  cases k with
  | true=>
    refine iteT (c S3 F σ H3 _ _ Ep h3.wd (s.up h13.stp) (by have q:=hk;unfold wIf at q;rw[if_pos rfl] at q;exact q) (fun z S4 H4 t2 hz h4 ht2=> ?_) (hE.to h13))
    exact o' S4 F H4 y z u t2 Q _ Ep h4.wd ((h3.trans h4).up hu) ht2 hz (fun b S' H' t3 hb h5 ht3=>hQ b S' H' t3 hb (h13.trans (h4.trans h5)) ht3)
  | false=>exact iteF (hQ false S3 H3 _ (wIf_f (b:=true) hk) h13 mk_bl)
theorem simA_nil:SimA ε G tNil (fun _:Unit=> []) (ret ()):=fun S F σ H Q Qp Ep w s hm hQ hE=>hQ () S H [] hm (.refl w) rfl
theorem simA_cons {te:TE} {tr:TA} {r:α→Dm K} {δ:τ→List (Dm K)} {m:W K α} {n:W K τ} (a:Sim ε G te r m) (b:SimA ε G tr δ n):
    SimA ε G (tCons te tr) (fun x:α×τ=>r x.1::δ x.2) (bnd m fun x=>bnd n fun y=>ret (x,y)):=by
  intro S F σ H Q Qp Ep w s hm hQ hE
  refine a S F σ H _ _ Ep w s hm (fun x S1 H1 v hx h1 hv=> ?_) hE
  refine b S1 F σ H1 _ _ Ep h1.wd (s.up h1.stp) hx (fun y S2 H2 vs hy h2 hvs=> ?_) (hE.to h1)
  exact hQ (x,y) S2 H2 _ hy (h1.trans h2) ⟨v,vs,rfl,h2.up hv,hvs⟩
theorem new_lst {ds:List (Dm K)} {vs:List V} {Q:VK} (w:Wd S F H) (h:AtL (Zd S F) H ds vs) (q: ∀H' v,Nxt S F H S H'→(dL ds).at_ (Zd S F) H' v→Q v H'):
    ∀n,H n=none→Q (.ref n) (upd H n (.lst vs)):=fun n hn=>
  q _ _ (w.new hn) ⟨n,vs,rfl,w.free hn,upd_same,h.up (Stp.new hn)⟩
theorem new_tup {ds:List (Dm K)} {vs:List V} {Q:VK} (w:Wd S F H) (h:AtL (Zd S F) H ds vs) (q: ∀H' v,Nxt S F H S H'→(dP ds).at_ (Zd S F) H' v→Q v H'):
    ∀n,H n=none→Q (.ref n) (upd H n (.tup vs)):=fun n hn=>
  q _ _ (w.new hn) ⟨n,vs,rfl,w.free hn,upd_same,h.up (Stp.new hn)⟩
theorem dP_dT {ds:List (Dm K)} {Z:Pl} {v:V} (h:(dP ds).at_ Z H v):(dT ds).at_ Z H v:=
  let ⟨a,xs,e,n,q,l⟩:=h
  ⟨a,xs,e,.inl n,.inl (.inl q),l⟩
theorem sim_lstK {tr:TA} {δ:τ→List (Dm K)} {n:W K τ} {r:α→Dm K} (f:τ→List α) (e: ∀y,δ y=(f y).map r) (hl: ∀y,(f y).length≤50000) (h:SimA ε G tr δ n):Sim ε G (tLst tr) (kL r) (bnd n fun y=>ret (f y)):=by
  intro S F σ H Q Qp Ep w s hm hQ hE
  refine h S F σ H _ _ Ep w s hm (fun x S1 H1 vs hx h1 hvs=>⟨sl_of (by rw[hvs.length,e,List.length_map];exact hl x),?_⟩) hE
  exact new_lst h1.wd hvs fun H' v h2 hv=>hQ _ S1 H' v hx (h1.trans h2) (by rw[e] at hv;exact hv)
theorem sim_tupK {tr:TA} {δ:τ→List (Dm K)} {n:W K τ} {r:α→Dm K} (f:τ→List α) (e: ∀y,δ y=(f y).map r) (hl: ∀y,(f y).length≤50000) (h:SimA ε G tr δ n):Sim ε G (tTup tr) (kT r) (bnd n fun y=>ret (f y)):=by
  intro S F σ H Q Qp Ep w s hm hQ hE
  refine h S F σ H _ _ Ep w s hm (fun x S1 H1 vs hx h1 hvs=>⟨sl_of (by rw[hvs.length,e,List.length_map];exact hl x),?_⟩) hE
  exact new_tup h1.wd hvs fun H' v h2 hv=>hQ _ S1 H' v hx (h1.trans h2) (by rw[e] at hv;exact dP_dT hv)
theorem sim_tup {tr:TA} {δ:τ→List (Dm K)} {n:W K τ} {r:α→Dm K} {f:τ→α} (h:SimA ε G tr δ n) (e: ∀y,r (f y)=dP (δ y)) (hl: ∀y,(δ y).length≤50000):
    Sim ε G (tTup tr) r (bnd n fun y=>ret (f y)):=by
  intro S F σ H Q Qp Ep w s hm hQ hE
  refine h S F σ H _ _ Ep w s hm (fun x S1 H1 vs hx h1 hvs=>⟨sl_of (by rw[hvs.length];exact hl x),?_⟩) hE
  exact new_tup h1.wd hvs fun H' v h2 hv=>hQ _ S1 H' v hx (h1.trans h2) (by rw[e];exact hv)
def wNew (c:Cell K):W K Addr:=fun Q _ S=> ∀a,S a=none→Q a (S.set a c)
theorem sim_lstC {tr:TA} {δ:τ→List (Dm K)} {n:W K τ} (hl: ∀y,(δ y).length≤50000) (h:SimA ε G tr δ n):Sim ε G (tLst tr) kRef (bnd n fun y=>wNew (.lst (δ y))):=by
  intro S F σ H Q Qp Ep w s hm hQ hE
  refine h S F σ H _ _ Ep w s hm (fun x S1 H1 vs hx h1 hvs=>⟨sl_of (by rw[hvs.length];exact hl x),fun a ha=> ?_⟩) hE
  have nx:Nxt S1 F H1 (S1.set a (.lst (δ x))) (upd H1 a (.lst vs)):=h1.wd.newS ha ⟨vs,upd_same,?_⟩
  · exact hQ a _ _ _ (hx a (h1.wd.sfree ha)) (h1.trans nx) rfl
  · refine hvs.up ⟨fun b u _ e=>by rw[upd_ne (ne_of_none e ha)];exact e,fun b z=>z.elim (fun z=> ?_) fun z=> .inl (.inr z)⟩
    by_cases e:b=a
    · subst e;exact .inr ha
    · rw[set_ne e] at z;exact .inl (.inl z)
def CalS (ε:WX) (r:L2.St→List V→Hp→VK→Prop) {τ α:Type} (δ:τ→List (Dm K)) (r3:α→Dm K) (w:τ→W K α):Prop:=
  ∀S F σ H x vs Q (Qp:α→Store K→Prop) (Ep:Err K→Store K→Prop),Wd S F H→AtL (Zd S F) H (δ x) vs→w x Qp Ep S→(∀y S' H' v,Qp y S'→Nxt S F H S' H'→(r3 y).at_ (Zd S' F) H' v→Q v H')→
    HanE ε S F H σ Ep→r σ vs H Q
def CalKS (ε:WX) (r:L2.St→List V→List V→Hp→VK→Prop) {τ κ α:Type} (δ:τ→List (Dm K)) (δk:κ→List (Dm K)) (r3:α→Dm K) (w:τ→κ→W K α):Prop:=
  ∀S F σ H x y vs zs Q (Qp:α→Store K→Prop) (Ep:Err K→Store K→Prop),Wd S F H→AtL (Zd S F) H (δ x) vs→AtL (Zd S F) H (δk y) zs→w x y Qp Ep S→(∀y S' H' v,Qp y S'→Nxt S F H S' H'→(r3 y).at_ (Zd S' F) H' v→Q v H')→
    HanE ε S F H σ Ep→r σ vs zs H Q
theorem sim_call {r:L2.St→List V→Hp→VK→Prop} {ta:TA} {δ:τ→List (Dm K)} {r3:α→Dm K} {w:τ→W K α} {ma:W K τ}
    (c:CalS ε r δ r3 w) (a:SimA ε G ta δ ma):Sim ε G (tCS r ta) r3 (bnd ma w):=by
  intro S F σ H Q Qp Ep wd s hm hQ hE
  refine a S F σ H _ _ Ep wd s hm (fun x S1 H1 vs hx h1 hvs=> ?_) hE
  exact c S1 F σ H1 x vs Q _ Ep h1.wd hvs hx (fun y S' H' v hy h2 hv=>hQ y S' H' v hy (h1.trans h2) hv) (hE.to h1)
def CalB (K:PySem.W.Frag) (r:List V→Hp→VK→Prop) {τ α:Type} (δ:τ→List (Dm K)) (r3:α→Dm K) (w:τ→W K α):Prop:=
  ∀S F H x vs Q (Qp:α→Store K→Prop) (Ep:Err K→Store K→Prop),Wd S F H→AtL (Zd S F) H (δ x) vs→w x Qp Ep S→(∀y S' H' v,Qp y S'→Nxt S F H S' H'→(r3 y).at_ (Zd S' F) H' v→Q v H')→r vs H Q
theorem sim_callB {r:List V→Hp→VK→Prop} {ta:TA} {δ:τ→List (Dm K)} {r3:α→Dm K} {w:τ→W K α} {ma:W K τ}
    (c:CalB K r δ r3 w) (a:SimA ε G ta δ ma):Sim ε G (tCB r ta) r3 (bnd ma w):=by
  intro S F σ H Q Qp Ep wd s hm hQ hE
  refine a S F σ H _ _ Ep wd s hm (fun x S1 H1 vs hx h1 hvs=> ?_) hE
  exact c S1 F H1 x vs Q _ _ h1.wd hvs hx (fun y S' H' v hy h2 hv=>hQ y S' H' v hy (h1.trans h2) hv)
theorem sim_callK {r:L2.St→List V→List V→Hp→VK→Prop} {ta tk:TA} {κ:Type} {δ:τ→List (Dm K)} {δk:κ→List (Dm K)} {r3:α→Dm K} {w:τ→κ→W K α} {ma:W K τ} {mk:W K κ}
    (c:CalKS ε r δ δk r3 w) (a:SimA ε G ta δ ma) (k:SimA ε G tk δk mk):Sim ε G (tCKS r ta tk) r3 (bnd ma fun x=>bnd mk fun y=>w x y):=by
  intro S F σ H Q Qp Ep wd s hm hQ hE
  refine a S F σ H _ _ Ep wd s hm (fun x S1 H1 vs hx h1 hvs=> ?_) hE
  refine k S1 F σ H1 _ _ Ep h1.wd (s.up h1.stp) hx (fun y S2 H2 zs hy h2 hzs=> ?_) (hE.to h1)
  have h12:=h1.trans h2
  exact c S2 F σ H2 x y vs zs Q _ Ep h2.wd (h2.upL hvs) hzs hy (fun y S' H' v hy h3 hv=>hQ y S' H' v hy (h12.trans h3) hv) (hE.to h12)
def Rcv (K:PySem.W.Frag) {β:Type} (r1:β→Dm K) (C:Addr) (m:Str) (g:β→Store K→Prop):Prop:=
  ∀S F H x v,Wd S F H→(r1 x).at_ (Zd S F) H v→g x S→ ∃a dx fs,v= .ref a∧H a=some (.ins C dx fs)∧fs.lookup m=none
def wRcv {K:PySem.W.Frag} {α:Type} (g:Store K→Prop) (m:W K α):W K α:=fun Q E S=>g S∧m Q E S
theorem rcv_I {fs:β→List (Str×Dm K)} {r1:β→Dm K} {C:Addr} {m:Str} (e: ∀x,r1 x=dI C (fs x)) (l: ∀x,(fs x).lookup m=none):Rcv K r1 C m fun _ _=>True:=by
  intro S F H x v w h _
  rw[e] at h
  obtain⟨a,dx,vs,e1,_,e2,q⟩:=h
  refine⟨a,dx,vs,e1,e2,?_⟩
  rcases q.look (f:=m) with ⟨_,h⟩ | ⟨d,u,h1,_⟩
  · exact h
  · rw[l] at h1;cases h1
def IsC {K:PySem.W.Frag} (C:Addr) (m:Str) (a:Addr) (S:Store K):Prop:= ∃fs,S a=some (.ins C fs)∧fs.lookup m=none
theorem rcv_C {C:Addr} {m:Str}:Rcv K kRef C m (IsC C m):=by
  intro S F H a v w h ⟨fs,e,l⟩
  cases (show v= .ref a from h)
  obtain⟨dx,vs,e2,q⟩:=w.cell a _ e
  refine⟨a,dx,vs,rfl,e2,?_⟩
  rcases q.look (f:=m) with ⟨_,h⟩ | ⟨d,u,h1,_⟩
  · exact h
  · rw[l] at h1;cases h1
theorem sim_ms {m:Str} {C:Addr} {r:L2.St→List V→Hp→VK→Prop} {to:TE} {ta:TA} {r1:β→Dm K} {δ:τ→List (Dm K)} {r3:α→Dm K} {w:β×τ→W K α} {mo:W K β} {ma:W K τ} {g:β→Store K→Prop}
    (c:CalS ε r (fun x:β×τ=>r1 x.1::δ x.2) r3 w) (i:Rcv K r1 C m g) (o:Sim ε G to r1 mo) (a:SimA ε G ta δ ma):
    Sim ε G (tMS m C r to ta) r3 (bnd mo fun x=>wRcv (g x) (bnd ma fun y=>w (x,y))):=by
  intro S F σ H Q Qp Ep wd s hm hQ hE
  refine o S F σ H _ _ Ep wd s hm (fun x S1 H1 v hx h1 hv=> ?_) hE
  obtain⟨hg,hx⟩:=hx
  obtain⟨b,dx,fs,e1,e2,e3⟩:=i _ _ _ _ _ h1.wd hv hg
  refine⟨b,dx,fs,e1,e2,e3,?_⟩
  refine a S1 F σ H1 _ _ Ep h1.wd (s.up h1.stp) hx (fun y S2 H2 vs hy h2 hvs=> ?_) (hE.to h1)
  have h12:=h1.trans h2
  exact c S2 F σ H2 (x,y) (v::vs) Q _ Ep h2.wd ⟨v,vs,rfl,h2.up hv,hvs⟩ hy (fun y S' H' v hy h3 hv=>hQ y S' H' v hy (h12.trans h3) hv) (hE.to h12)
def lift (K:PySem.W.Frag) {τ α:Type} (δ:τ→List (Dm K)) (r:α→Dm K) (w:τ→W K α):Sp:=fun vs H Q E=> ∃S F x Qp Ep,Wd S F H∧AtL (Zd S F) H (δ x) vs∧
  w x Qp Ep S∧(∀y S' H' v,Qp y S'→Nxt S F H S' H'→(r y).at_ (Zd S' F) H' v→Q v H')∧(∀e S' H' c d,Ep e S'→Nxt S F H S' H'→ErrAt e (Zd S' F) H' c d→E c d H')
theorem cal_lift {δ:τ→List (Dm K)} {r3:α→Dm K} {w:τ→W K α}:
    CalS ε (fun σ vs H Q=>lift K δ r3 w (vs++ []) H Q (fun c d H=>ε c d σ H)) δ r3 w:=
  fun S F σ H x vs Q Qp Ep wd h hw hQ hE=>⟨S,F,x,Qp,Ep,wd,by rw[List.append_nil];exact h,hw,hQ,hE⟩
theorem cal_liftK {κ τ':Type} {δ:τ→List (Dm K)} {δk:κ→List (Dm K)} {δ':τ'→List (Dm K)} {r3:α→Dm K} {w:τ'→W K α} {gV:List V→List V→List V} (g:τ→κ→τ')
    (e: ∀Z H x y vs zs,AtL Z H (δ x) vs→AtL Z H (δk y) zs→AtL Z H (δ' (g x y)) (gV vs zs)):
    CalKS ε (fun σ vs zs H Q=>lift K δ' r3 w (gV vs zs) H Q (fun c d H=>ε c d σ H)) δ δk r3 (fun x y=>w (g x y)):=
  fun S F σ H x y vs zs Q Qp Ep wd h hk hw hQ hE=>⟨S,F,g x y,Qp,Ep,wd,e _ _ _ _ _ _ h hk,hw,hQ,hE⟩
def wMk {K:PySem.W.Frag} {τ:Type} (C:Addr) (w:Addr×τ→W K Unit) (x:τ):W K Addr:=fun Q E S=> ∀a,S a=none→w (a,x) (fun _ S'=>Q a S') (fun e S'=>E e (S'.del a)) (S.set a (.ins C []))
theorem made_at {C:Addr} {a dx:Addr} (w:Wd S F H) (ha:H a=none) (hd:H dx=none) (n:dx≠a):
    Nxt S F H (S.set a (.ins C [])) (upd (upd H dx (.own a)) a (.ins C dx [])):=by
  have h1:Nxt S F H S (upd H dx (.own a)):=w.new hd
  have ha':upd H dx (.own a) a=none:=by rw[upd_ne n.symm];exact ha
  exact h1.trans (h1.wd.newS ha' ⟨dx,[],upd_same,rfl⟩)
theorem cal_mk {C:Addr} {δ:τ→List (Dm K)} {w:Addr×τ→W K Unit}:
    CalS ε (mkSp C (lift K (fun x:Addr×τ=>kRef x.1::δ x.2) kN w) [] ε) δ kRef (wMk C w):=by
  intro S F σ H x vs Q Qp Ep wd h hw hQ hE a dx ha hd n
  have nx:=made_at (C:=C) wd ha hd n
  refine⟨S.set a (.ins C []),F,(a,x),_,_,nx.wd,?_,hw a (wd.sfree ha),fun y S' H' v hq h2 hv=>⟨at_non hv,?_⟩,fun e S' H' c d he h2 hk=> ?_⟩
  · rw[List.append_nil]
    exact⟨.ref a,vs,rfl,rfl,nx.upL h⟩
  · exact hQ a S' H' _ hq (nx.trans h2) rfl
  · have h3:=nx.trans (h2.trans (h2.wd.delS (a:=a)))
    exact hE e _ H' c d he h3 (hk.up (Stp.less fun b z=>z.imp (fun z=>by
      by_cases e:b=a
      · subst e;rw[del_same] at z;exact absurd rfl z
      · rw[del_ne e] at z;exact z) id))
theorem cal_mkD {τ':Type} {C:Addr} {δ:τ→List (Dm K)} {δ':τ'→List (Dm K)} {w:Addr×τ'→W K Unit} {dvs:List V} (g:τ→τ') (ds:List (Dm K)) (e: ∀x,δ' (g x)=δ x++ds) (hd: ∀Z H,AtL Z H ds dvs):
    CalS ε (mkSp C (lift K (fun x:Addr×τ'=>kRef x.1::δ' x.2) kN w) dvs ε) δ kRef (fun x=>wMk C w (g x)):=by
  intro S F σ H x vs Q Qp Ep wd h hw hQ hE a dx ha hd' n
  have nx:=made_at (C:=C) wd ha hd' n
  refine⟨S.set a (.ins C []),F,(a,g x),_,_,nx.wd,?_,hw a (wd.sfree ha),fun y S' H' v hq h2 hv=>⟨at_non hv,?_⟩,fun e S' H' c d he h2 hk=> ?_⟩
  · exact⟨.ref a,vs++dvs,rfl,rfl,by rw[e];exact (nx.upL h).append (hd _ _)⟩
  · exact hQ a S' H' _ hq (nx.trans h2) rfl
  · have h3:=nx.trans (h2.trans (h2.wd.delS (a:=a)))
    exact hE e _ H' c d he h3 (hk.up (Stp.less fun b z=>z.imp (fun z=>by
      by_cases e:b=a
      · subst e;rw[del_same] at z;exact absurd rfl z
      · rw[del_ne e] at z;exact z) id))
def wFrz {α:Type} (C:Addr) (fs:α→List (Str×Dm K)) (a:Addr):W K α:=fun Q _ S=> ∃x,S a=some (.ins C (fs x))∧Q x (S.del a)
theorem sim_frz {te:TE} {m:W K Addr} {C:Addr} {fs:α→List (Str×Dm K)} {r:α→Dm K} (e: ∀x,r x=dI C (fs x)) (h:Sim ε G te kRef m):Sim ε G te r (bnd m (wFrz C fs)):=by
  intro S F σ H Q Qp Ep w s hm hQ hE
  refine h S F σ H _ _ Ep w s hm (fun a S1 H1 v hx h1 hv=> ?_) hE
  obtain⟨x,ea,hq⟩:=hx
  cases (show v= .ref a from hv)
  obtain⟨dx,vs,e1,l⟩:=h1.wd.cell a _ ea
  have nx:Nxt S1 F H1 (S1.del a) H1:=h1.wd.delS (a:=a)
  refine hQ x _ H1 _ hq (h1.trans nx) ?_
  rw[e]
  exact⟨a,dx,vs,rfl,h1.wd.del_at ea,e1,l.up nx.stp⟩
theorem sim_fld {ta:TE} {C:Addr} {f:Str} {r:α→Dm K} {s:β→Dm K} {fs:α→List (Str×Dm K)} (g:α→β) {m:W K α} (e: ∀x,r x=dI C (fs x)) (l: ∀x,(fs x).lookup f=some (s (g x))) (c:Cls K C) (n:NoAttr K C f) (h:Sim ε G ta r m):
    Sim ε G (tFld K ta f) s (bnd m fun x=>ret (g x)):=by
  intro S F σ H Q Qp Ep w sa hm hQ hE
  refine h S F σ H _ _ Ep w sa hm (fun x S1 H1 v hx h1 hv=> ?_) hE
  rw[e] at hv
  obtain⟨a,dx,vs,e1,_,e2,q⟩:=hv
  rcases q.look (f:=f) with ⟨z,_⟩ | ⟨d,u,z1,z2,z3⟩
  · rw[l] at z;cases z
  · rw[l] at z1;cases z1
    exact⟨a,C,dx,vs,u,e1,e2,c,n,z2,hQ _ S1 H1 u hx h1 z3⟩
def wGetF {β:Type} (C:Addr) (f:Str) (s:β→Dm K) (a:Addr):W K β:=fun Q _ S=> ∃fs x,S a=some (.ins C fs)∧fs.lookup f=some (s x)∧Q x S
theorem sim_fldC {ta:TE} {C:Addr} {f:Str} {s:β→Dm K} {m:W K Addr} (c:Cls K C) (n:NoAttr K C f) (h:Sim ε G ta kRef m):Sim ε G (tFld K ta f) s (bnd m (wGetF C f s)):=by
  intro S F σ H Q Qp Ep w sa hm hQ hE
  refine h S F σ H _ _ Ep w sa hm (fun a S1 H1 v hx h1 hv=> ?_) hE
  obtain⟨fs,x,ea,l,hq⟩:=hx
  cases (show v= .ref a from hv)
  obtain⟨dx,vs,e2,q⟩:=h1.wd.cell a _ ea
  rcases q.look (f:=f) with ⟨z,_⟩ | ⟨d,u,z1,z2,z3⟩
  · rw[l] at z;cases z
  · rw[l] at z1;cases z1
    exact⟨a,C,dx,vs,u,rfl,e2,c,n,z2,hQ _ S1 H1 u hq h1 z3⟩
end
end TL

set_option Elab.async false
set_option linter.all false
set_option maxRecDepth 100000
set_option maxHeartbeats 2000000
namespace TL
open PySem PySem.Spec PyProof.Rows L2 PC

section
variable {K : PySem.W.Frag} {ε : WX} {G : Gm K} {α β γ τ S' ρ : Type} {S S1 : Store K} {F : Pl} {H H1 : Hp}
def nI {K:PySem.W.Frag}:Store K→Prop:=fun _=>True
def Fx (F:Pl) (H1:Hp) (F':Pl):Prop:=F'=F∨ ∃D,H1 D=none∧F'=fun b=>F b∨b=D
structure Iter (S1:Store K) (F:Pl) (J:It) {α:Type} (xs:List α) (r:α→Dm K) (I:Store K→Prop) (H1:Hp):Prop where
  ex: ∃(G:Hp→Prop) (Y:Nat→Hp→V→Hp→Prop),Walk J xs.length G Y∧ ∀F' S2 H2,Fx F H1 F'→Stp (Zd S1 F) H1 (Zd S2 F') H2→Wd S2 F' H2→I S2→G H2∧
    ∀i v H3 x,Y i H2 v H3→xs[i]?=some x→Nxt S2 F' H2 S2 H3∧(r x).at_ (Zd S2 F') H3 v
def SimI (ε:WX) (G:Gm K) (wi:TI) {α:Type} (r:α→Dm K) (m:W K (List α×(Store K→Prop))):Prop:=
  ∀S F σ H (RI:It→Hp→Prop) (Qp:List α×(Store K→Prop)→Store K→Prop) (Ep:Err K→Store K→Prop),Wd S F H→Sat G (Zd S F) H σ→m Qp Ep S→
    (∀xs I J S' H',Qp (xs,I) S'→Nxt S F H S' H'→Iter S' F J xs r I H'→RI J H')→HanE ε S F H σ Ep→wi σ H RI
theorem atL_at {r:α→Dm K} {xs:List α} {vs:List V} {i:Nat} {v:V} {x:α} {Z:Pl} (l:AtL Z H (xs.map r) vs) (e:vs[i]?=some v) (ex:xs[i]?=some x):(r x).at_ Z H v:=by
  obtain⟨d,e1,e2⟩:=l.getV e
  rw[List.getElem?_map,ex] at e1
  cases e1
  exact e2
theorem iter_yat {J:It} {xs:List α} {r:α→Dm K} {vs:List V} {I:Store K→Prop} {Gi:Hp→Prop} (w:Walk J xs.length Gi (YAt vs)) (l:AtL (Zd S1 F) H1 (xs.map r) vs)
    (hG: ∀F' S2 H2,Fx F H1 F'→Stp (Zd S1 F) H1 (Zd S2 F') H2→Wd S2 F' H2→I S2→Gi H2):Iter S1 F J xs r I H1:=by
  refine⟨Gi,_,w,fun F' S2 H2 hf st w2 i2=>⟨hG F' S2 H2 hf st w2 i2,?_⟩⟩
  rintro i v H3 x ⟨rfl,e⟩ ex
  exact⟨.refl w2,atL_at (l.up st) e ex⟩
theorem iter_list {a:Addr} {xs:List α} {r:α→Dm K} {vs:List V} (n: ¬ Zd S1 F a) (h:Rd H1 a (.lst vs)) (l:AtL (Zd S1 F) H1 (xs.map r) vs):Iter S1 F (Itl K a) xs r nI H1:=by
  have hl:vs.length=xs.length:=by rw[l.length,List.length_map]
  exact iter_yat (hl ▸ walk_list (K:=K) (a:=a) (xs:=vs)) l fun F' S2 H2 _ st _ _=> .inl (rd_stp st n h)
theorem iter_tup {a:Addr} {xs:List α} {r:α→Dm K} {vs:List V} (n: ¬ Zd S1 F a∨SqT K (fun _=>none) a vs) (h:SqT K H1 a vs) (l:AtL (Zd S1 F) H1 (xs.map r) vs):Iter S1 F (Itt K a) xs r nI H1:=by
  have hl:vs.length=xs.length:=by rw[l.length,List.length_map]
  exact iter_yat (hl ▸ walk_tup (K:=K) (a:=a) (xs:=vs)) l fun F' S2 H2 _ st _ _=>sqT_stp st n h
theorem simI_list {te:TE} {r:α→Dm K} {m:W K (List α)} (h:Sim ε G te (kL r) m):SimI ε G (iList K te) r (bnd m fun xs=>ret (xs,nI)):=by
  intro S F σ H RI Qp Ep w s hm hQ hE
  refine h S F σ H _ _ Ep w s hm (fun xs S' H' v hx hr hv=> ?_) hE
  obtain⟨a,vs,rfl,n,hs,l⟩:=hv
  exact⟨a,rfl,⟨vs,.inl (.inl hs)⟩,hQ xs _ _ S' H' hx hr (iter_list n (.inl hs) l)⟩
theorem simI_tup {te:TE} {r:α→Dm K} {m:W K (List α)} (h:Sim ε G te (kT r) m):SimI ε G (iTup K te) r (bnd m fun xs=>ret (xs,nI)):=by
  intro S F σ H RI Qp Ep w s hm hQ hE
  refine h S F σ H _ _ Ep w s hm (fun xs S' H' v hx hr hv=> ?_) hE
  obtain⟨a,vs,rfl,n,hs,l⟩:=hv
  exact⟨a,rfl,⟨vs,hs⟩,hQ xs _ _ S' H' hx hr (iter_tup n hs l)⟩
def wPk {β:Type} (r:α→Dm K) (a:Addr) (k:List α→W K β):W K β:=fun Q E S=> ∃xs,S a=some (.lst (xs.map r))∧k xs Q E S
def Stays (a:Addr) (ds:List (Dm K)):Store K→Prop:=fun S=>S a=some (.lst ds)
theorem simI_cell {te:TE} {r:α→Dm K} {m:W K Addr} (h:Sim ε G te kRef m):SimI ε G (iList K te) r (bnd m fun a=>wPk r a fun xs=>ret (xs,Stays a (xs.map r))):=by
  intro S F σ H RI Qp Ep w s hm hQ hE
  refine h S F σ H _ _ Ep w s hm (fun a S' H' v hx hr hv=> ?_) hE
  obtain⟨xs,ea,hq⟩:=hx
  cases (show v= .ref a from hv)
  obtain⟨vs,e1,l⟩:=hr.wd.cell a _ ea
  have hl:vs.length=xs.length:=by rw[l.length,List.length_map]
  refine⟨a,rfl,⟨vs,.inl (.inl e1)⟩,hQ xs _ _ S' H' hq hr ⟨fun H2=> ∃ws,SqL K H2 a ws∧ws.length=xs.length,fun i H2 v H3=>H3=H2∧ ∀ws,SqL K H2 a ws→ws[i]?=some v,?_,fun F' S2 H2 hf st w2 i2=> ?_⟩⟩
  · refine⟨fun i H2 hi ⟨ws,q,hw⟩=> ?_,fun H2 ⟨ws,q,hw⟩=> ?_,fun i H2 x H3 hi ⟨ws,q,hw⟩ y=>⟨?_,fun us hu=> ?_⟩⟩
    · exact (walk_list (K:=K) (a:=a) (xs:=ws)).goes i H2 (by omega) q
    · rw[← hw];exact (walk_list (K:=K) (a:=a) (xs:=ws)).stops H2 q
    · exact ((walk_list (K:=K) (a:=a) (xs:=ws)).yields i H2 x H3 (by omega) q y).1
    · exact y.2 us hu
  · obtain⟨ws,e2,l2⟩:=w2.cell a _ i2
    refine⟨⟨ws,.inl (.inl e2),by rw[l2.length,List.length_map]⟩,?_⟩
    rintro i v H3 x ⟨rfl,q⟩ ex
    exact⟨.refl w2,atL_at l2 (q ws (.inl (.inl e2))) ex⟩
def rng (a b:Int):List Int:=(List.range (b - a).toNat).map fun i:Nat=>a+(i:Int)
theorem rng_len (a b:Int):(rng a b).length=(b - a).toNat:=by simp[rng]
theorem iter_rng {a b:Int} {n:Nat} (hn:n=(b - a).toNat):Iter S1 F (Itr a n) (rng a b) (kI (K:=K)) nI H1:=by
  subst hn
  refine⟨fun _=>True,YFn fun i=> .int (a+i),by rw[rng_len];exact walk_range,fun F' S2 H2 hf st w2 i2=>⟨trivial,?_⟩⟩
  rintro i v H3 x ⟨rfl,e⟩ ex
  refine⟨.refl w2,?_⟩
  subst e
  have hi:=(List.getElem?_eq_some_iff.mp ex).1
  rw[rng_len] at hi
  unfold rng at ex
  rw[List.getElem?_map,List.getElem?_range hi] at ex
  obtain rfl:=Option.some.inj ex
  exact mk_int
theorem simI_r1 {ta:TA} {m:W K (Int×Unit)} (h:SimA ε G ta (fun x:Int×Unit=> [kI x.1]) m):
    SimI ε G (iRng1 ta) kI (bnd m fun x=>wAss (-(2 ^ 62)≤x.1∧x.1<2 ^ 62) (ret (rng 0 x.1,nI))):=by
  intro S F σ H RI Qp Ep w s hm hQ hE
  refine h S F σ H _ _ Ep w s hm (fun x S' H' vs hx hr hv=> ?_) hE
  obtain⟨v,t,rfl,q,rfl⟩:=hv
  obtain rfl:=at_int q
  exact⟨x.1,rfl,hx.1.1,hx.1.2,hQ _ _ _ S' H' hx.2 hr (iter_rng (by simp))⟩
theorem simI_r2 {ta:TA} {m:W K (Int×Int×Unit)} (h:SimA ε G ta (fun x:Int×Int×Unit=> [kI x.1,kI x.2.1]) m):
    SimI ε G (iRng2 ta) kI (bnd m fun x=>wAss (-(2 ^ 62)≤x.1∧x.1<2 ^ 62∧ -(2 ^ 62)≤x.2.1∧x.2.1<2 ^ 62) (ret (rng x.1 x.2.1,nI))):=by
  intro S F σ H RI Qp Ep w s hm hQ hE
  refine h S F σ H _ _ Ep w s hm (fun x S' H' vs hx hr hv=> ?_) hE
  obtain⟨v,t,rfl,q,v2,t2,rfl,q2,rfl⟩:=hv
  obtain rfl:=at_int q
  obtain rfl:=at_int q2
  exact⟨x.1,x.2.1,rfl,hx.1,hQ _ _ _ S' H' hx.2 hr (iter_rng rfl)⟩
theorem iter_pair {J:It} {r:α→Dm K} {s:β→Dm K} {f g:Nat→Option V} {Gi:Hp→Prop} (zs:List (α×β)) (w:Walk J zs.length Gi (YPair f g))
    (h: ∀(F':Pl) (S2:Store K) (H2:Hp),Fx F H1 F'→Stp (Zd S1 F) H1 (Zd S2 F') H2→Wd S2 F' H2→Gi H2∧(∀i v z,f i=some v→zs[i]?=some z→(r z.1).at_ (Zd S2 F') H2 v)∧ ∀i v z,g i=some v→zs[i]?=some z→(s z.2).at_ (Zd S2 F') H2 v):
    Iter S1 F J zs (kP r s) nI H1:=by
  refine⟨Gi,_,w,fun F' S2 H2 hf st w2 _=> ?_⟩
  obtain⟨hG,hx,hy⟩:=h F' S2 H2 hf st w2
  refine⟨hG,?_⟩
  rintro i v H3 z ⟨T,x,y,rfl,hT,rfl,h1,h2⟩ ez
  have nx:Nxt S2 F' H2 S2 (upd H2 T (.tup [x,y])):=w2.new hT
  exact⟨nx,T,[x,y],rfl,w2.free hT,upd_same,x,[y],rfl,nx.up (hx i x z h1 ez),y,[],rfl,nx.up (hy i y z h2 ez),rfl⟩
theorem zip_get {xs:List α} {ys:List β} {i:Nat} {z:α×β} (h:(xs.zip ys)[i]?=some z):xs[i]?=some z.1∧ys[i]?=some z.2:=by
  rw[List.getElem?_zip_eq_some] at h
  exact h
theorem simI_zip {ta:TA} {r:α→Dm K} {s:β→Dm K} {m:W K (List α×List β×Unit)} (h:SimA ε G ta (fun x:List α×List β×Unit=> [kL r x.1,kL s x.2.1]) m):
    SimI ε G (RZ.iZipA K ta) (kP r s) (bnd m fun x=>ret (x.1.zip x.2.1,nI)):=by
  intro S F σ H RI Qp Ep w st hm hQ hE
  refine h S F σ H _ _ Ep w st hm (fun x S' H' vs hx hr hv=> ?_) hE
  obtain⟨_,_,rfl,⟨a,xs,rfl,na,ha,la⟩,_,_,rfl,⟨b,ys,rfl,nb,hb,lb⟩,rfl⟩:=hv
  refine⟨a,b,xs,ys,rfl,.inl ⟨.inl (.inl ha),.inl (.inl hb),hQ _ _ _ S' H' hx hr ?_⟩⟩
  refine iter_pair _ (walk_zip (xs:=xs) (ys:=ys) ?_) (fun F' S2 H2 hf st w2=>⟨⟨.inl (rd_stp st na (.inl ha)),.inl (rd_stp st nb (.inl hb))⟩,fun i v z e ez=> ?_,fun i v z e ez=> ?_⟩)
  · rw[List.length_zip,la.length,lb.length,List.length_map,List.length_map]
  · exact atL_at (la.up st) e (zip_get ez).1
  · exact atL_at (lb.up st) e (zip_get ez).2
def enumI {α:Type} (xs:List α):List (Int×α):=xs.zipIdx.map fun y=>((y.2:Nat),y.1)
theorem enumI_len (xs:List α):(enumI xs).length=xs.length:=by simp[enumI]
theorem enumI_get {xs:List α} {i:Nat} {z:Int×α} (h:(enumI xs)[i]?=some z):z.1=(i:Nat)∧xs[i]?=some z.2:=by
  unfold enumI at h
  rw[List.getElem?_map,List.getElem?_zipIdx] at h
  cases e:xs[i]? with
  | none=>rw[e] at h;simp at h
  | some x=>rw[e] at h;simp at h;rw[← h];simp
theorem simI_enumL {ta:TA} {r:α→Dm K} {m:W K (List α×Unit)} (h:SimA ε G ta (fun x:List α×Unit=> [kL r x.1]) m):
    SimI ε G (iEnumA K ta) (kP kI r) (bnd m fun x=>ret (enumI x.1,nI)):=by
  intro S F σ H RI Qp Ep w st hm hQ hE
  refine h S F σ H _ _ Ep w st hm (fun x S' H' vs hx hr hv=> ?_) hE
  obtain⟨_,_,rfl,⟨a,xs,rfl,na,ha,la⟩,rfl⟩:=hv
  refine⟨a,xs,rfl,.inl ⟨.inl (.inl ha),hQ _ _ _ S' H' hx hr ?_⟩⟩
  have hl:xs.length=(enumI x.1).length:=by rw[la.length,List.length_map,enumI_len]
  refine iter_pair _ (hl ▸ walk_enum (K:=K) (a:=a) (xs:=xs)) (fun F' S2 H2 hf st w2=>⟨.inl (rd_stp st na (.inl ha)),fun i v z e ez=> ?_,fun i v z e ez=> ?_⟩)
  · cases e
    rw[(enumI_get ez).1]
    exact mk_int
  · exact atL_at (la.up st) e (enumI_get ez).2
def setAll:L2.St→List Nat→List V→L2.St
  | σ,i::is,v::vs=>setAll (σ.set i (some v)) is vs
  | σ,_,_=>σ
def gsets:Gm K→List (Nat×Dm K)→Gm K
  | G,[]=>G
  | G,x::r=>gsets (G.set x.1 (some x.2)) r
theorem Sat.sets {Z:Pl}: ∀ {l:List (Nat×Dm K)} {G:Gm K} {σ:L2.St} {vs:List V},Sat G Z H σ→AtL Z H (l.map (·.2)) vs→Sat (gsets G l) Z H (setAll σ (l.map (·.1)) vs)
  | [],G,σ,vs,h,a=>by cases a;exact h
  | x::r,G,σ,_,h,⟨v,t,e,a,b⟩=>by
    subst e
    exact Sat.sets (l:=r) (h.set a) b
def SimG (g:TG) {α:Type} (r:α→Dm K) (sets:α→List (Nat×Dm K)):Prop:= ∀Z H v x σ (N:L2.St→Hp→Prop),(r x).at_ Z H v→
  (∀vs,AtL Z H ((sets x).map (·.2)) vs→N (setAll σ ((sets x).map (·.1)) vs) H)→g v σ H N
def SimGs (t:TGs) {α:Type} (δ:α→List (Dm K)) (sets:α→List (Nat×Dm K)):Prop:= ∀Z H vs x σ (N:L2.St→Hp→Prop),AtL Z H (δ x) vs→
  (∀vs,AtL Z H ((sets x).map (·.2)) vs→N (setAll σ ((sets x).map (·.1)) vs) H)→t vs σ H N
theorem simG_name {i:Nat} {r:α→Dm K}:SimG (gName i) r fun x=> [(i,r x)]:=fun Z H v x σ N h q=>q [v] (AtL.one h)
theorem simGs_nil:SimGs (K:=K) gNil (fun _:Unit=> []) fun _=> []:=fun Z H vs x σ N h q=>⟨h,q [] rfl⟩
theorem setAll_app: ∀(is:List Nat) (vs:List V) (js:List Nat) (ws:List V) (σ:L2.St),is.length=vs.length→setAll σ (is++js) (vs++ws)=setAll (setAll σ is vs) js ws
  | [],[],_,_,_,_=>rfl
  | i::is,v::vs,js,ws,σ,h=>setAll_app is vs js ws _ (by simpa using h)
  | [],_::_,_,_,_,h=>by simp at h
  | _::_,[],_,_,_,h=>by simp at h
theorem simGs_cons {g:TG} {t:TGs} {r:α→Dm K} {δ:τ→List (Dm K)} {s:α→List (Nat×Dm K)} {ss:τ→List (Nat×Dm K)} (a:SimG g r s) (b:SimGs t δ ss):
    SimGs (gCons g t) (fun x:α×τ=>r x.1::δ x.2) fun x=>s x.1++ss x.2:=by
  rintro Z H _ x σ N ⟨v,vs,rfl,h1,h2⟩ q
  refine⟨v,vs,rfl,a Z H v x.1 σ _ h1 fun us hu=>b Z H vs x.2 _ N h2 fun ws hw=> ?_⟩
  have:=q (us++ws) (by rw[List.map_append];exact hu.append hw)
  rw[List.map_append,setAll_app _ _ _ _ _ (by rw[hu.length,List.length_map,List.length_map])] at this
  exact this
theorem simG_tup {n:Nat} {t:TGs} {r:α→Dm K} {δ:τ→List (Dm K)} {ss:τ→List (Nat×Dm K)} (f:α→τ) (b:SimGs t δ ss) (e: ∀x,r x=dP (δ (f x))) (hn: ∀x,(δ (f x)).length=n):
    SimG (gTup K n t) r fun x=>ss (f x):=by
  intro Z H v x σ N h q
  rw[e] at h
  obtain⟨a,xs,rfl,_,hs,l⟩:=h
  exact⟨a,xs,rfl,.inl (.inl hs),by rw[l.length,hn],b Z H xs (f x) σ N l q⟩
theorem simG_pair {g1 g2:TG} {r:α→Dm K} {s:β→Dm K} {s1:α→List (Nat×Dm K)} {s2:β→List (Nat×Dm K)} (a:SimG g1 r s1) (b:SimG g2 s s2):
    SimG (gTup K 2 (gCons g1 (gCons g2 gNil))) (kP r s) (fun x=>s1 x.1++(s2 x.2++ [])):=simG_tup (fun x:α×β=>(x.1,x.2,())) (simGs_cons a (simGs_cons b simGs_nil)) (fun _=>rfl) (fun _=>rfl)
def fmapW {K:PySem.W.Frag} {α β:Type} (I:Store K→Prop) (c:α→W K Bool) (f:α→W K β):List α→W K (List β)
  | []=>fun Q E S=>I S∧Q [] S
  | x::xs=>fun Q E S=>I S∧bnd (c x) (fun b=>wIf b (bnd (f x) fun y=>bnd (fmapW I c f xs) fun ys=>ret (y::ys)) (fmapW I c f xs)) Q E S
theorem getElem?_set_none {σ:L2.St} {i:Nat} {j:Nat}:(σ.set i none)[j]?=if i=j∧i<σ.length then some none else σ[j]?:=by
  rw[List.getElem?_set]
  by_cases h:i=j
  · subst h
    by_cases l:i<σ.length
    · simp[l]
    · simp[l]
  · simp[h]
theorem wipe_get (σ:L2.St) (j:Nat): ∀vs:List Nat,(L2.wipe σ vs)[j]?=if j∈vs∧j<σ.length then some none else σ[j]?
  | []=>by simp[L2.wipe]
  | v::vs=>by
    show ((L2.wipe σ vs).set v none)[j]?=_
    rw[getElem?_set_none,wipe_get σ j vs,wipe_length]
    by_cases a:v=j
    · subst a
      by_cases l:v<σ.length
      · simp[l]
      · simp[l]
    · by_cases l:j<σ.length
      · have a': ¬ j=v:=fun z=>a z.symm
        simp[a,a']
      · simp[l,a]
theorem setAll_len: ∀(is:List Nat) (ws:List V) (σ:L2.St),(setAll σ is ws).length=σ.length
  | [],_,_=>rfl
  | _::_,[],_=>rfl
  | i::is,v::ws,σ=>by
    show (setAll (σ.set i (some v)) is ws).length=_
    rw[setAll_len,List.length_set]
theorem setAll_out {j:Nat}: ∀(is:List Nat) (ws:List V) (σ:L2.St),j ∉ is→(setAll σ is ws)[j]?=σ[j]?
  | [],_,_,_=>rfl
  | _::_,[],_,_=>rfl
  | i::is,v::ws,σ,h=>by
    show (setAll (σ.set i (some v)) is ws)[j]?=_
    have a:i≠j:=fun z=>h (z ▸ List.mem_cons_self)
    rw[setAll_out is ws _ fun z=>h (List.mem_cons_of_mem _ z),List.getElem?_set,if_neg a]
theorem wipe_setAll {σ:L2.St} {vs is:List Nat} {ws:List V} (h: ∀i∈is,i∈vs):L2.wipe (setAll (L2.wipe σ vs) is ws) vs=L2.wipe σ vs:=by
  apply List.ext_getElem?
  intro j
  rw[wipe_get,wipe_get,setAll_len,wipe_length]
  by_cases m:j∈vs
  · by_cases l:j<σ.length
    · simp[m,l]
    · simp only[m,l,and_false,if_false]
      rw[List.getElem?_eq_none (by rw[setAll_len,wipe_length];omega),List.getElem?_eq_none (by omega)]
  · simp only[m,false_and,if_false]
    rw[setAll_out _ _ _ fun z=>m (h j z),wipe_get]
    simp[m]
def SimN (ε:WX) (G:Gm K) (te:TE) {α:Type} (r:α→Dm K) (m:W K (List α)):Prop:=
  ∀S F σ H (Q:VK) (Qp:List α→Store K→Prop) (Ep:Err K→Store K→Prop),Wd S F H→Sat G (Zd S F) H σ→m Qp Ep S→
    (∀xs S' H' a vs,Qp xs S'→Nxt S F H S' H'→H a=none→Wd S' (fun b=>F b∨b=a) H'→ ¬ F a→H' a=some (.lst vs)→AtL (Zd S' fun b=>F b∨b=a) H' (xs.map r) vs→Q (.ref a) H')→HanE ε S F H σ Ep→te σ H Q
theorem sim_new {te:TE} {r:α→Dm K} {m:W K (List α)} (h:SimN ε G te r m):Sim ε G te (kL r) m:=by
  intro S F σ H Q Qp Ep w s hm hQ hE
  refine h S F σ H Q Qp Ep w s hm (fun xs S' H' a vs hx hr ha hs hf e l=> ?_) hE
  exact hQ xs S' H' _ hx hr ⟨a,vs,rfl,fun z=>z.elim (fun z=>z (hs.dis a (.inr rfl))) hf,e,l.up (Stp.less fun b z=>z.imp id .inl)⟩
def wThaw {α:Type} (r:α→Dm K) (xs:List α):W K Addr:=wNew (.lst (xs.map r))
theorem sim_thaw {te:TE} {r:α→Dm K} {m:W K (List α)} (h:SimN ε G te r m):Sim ε G te kRef (bnd m (wThaw r)):=by
  intro S F σ H Q Qp Ep w s hm hQ hE
  refine h S F σ H Q _ Ep w s hm (fun xs S' H' a vs hx hr ha hs hf e l=> ?_) hE
  have hs':S' a=none:=hs.dis a (.inr rfl)
  have zz:Zd (S'.set a (.lst (xs.map r))) F=Zd S' fun b=>F b∨b=a:=by
    funext b
    unfold Zd
    by_cases q:b=a
    · subst q;rw[set_same];simp
    · rw[set_ne q];simp[q]
  have wd:Wd (S'.set a (.lst (xs.map r))) F H':=by
    refine⟨hs.one,fun b c eb=> ?_,fun b z=>hs.foc b (.inl z),fun b z=> ?_⟩
    · rw[zz]
      by_cases q:b=a
      · subst q
        rw[set_same] at eb
        cases eb
        exact⟨vs,e,l⟩
      · rw[set_ne q] at eb
        exact hs.cell b c eb
    · have q:b≠a:=fun q=>hf (q ▸ z)
      rw[set_ne q];exact hs.dis b (.inl z)
  refine hQ a _ H' _ (hx a hs') ⟨⟨hr.st.keep,fun b z=> ?_,hr.st.occ⟩,wd⟩ rfl
  by_cases q:b=a
  · exact .inr (q ▸ ha)
  · rw[set_ne q] at z;exact hr.st.dom b z
theorem simN_lc {wi:TI} {g:TG} {tt:TT} {te:TE} {vs:List Nat} {r:α→Dm K} {r2:β→Dm K} {sets:α→List (Nat×Dm K)} {m:W K (List α×(Store K→Prop))} {mc:α→W K Bool} {me:α→W K β}
    (i:SimI ε G wi r m) (t:SimG g r sets) (hs: ∀x,∀y∈(sets x).map (·.1),y∈vs)
    (c: ∀x,SimB (fun _ _ _ _=>False) (gsets (gwipe G vs) (sets x)) tt (mc x)) (e: ∀x,Sim (fun _ _ _ _=>False) (gsets (gwipe G vs) (sets x)) te r2 (me x)):
    SimN ε G (tLc wi g tt te vs) r2 (bnd m fun xs=>wAss (xs.1.length≤50000) (wCalm (fmapW xs.2 mc me xs.1))):=by
  intro S F σ H Q Qp Ep w s hm hQ hE
  refine i S F σ H _ _ Ep w s hm (fun xs I J S1 H1 hx h1 it=> ?_) hE
  intro D hD
  have w1:=h1.wd
  obtain⟨Gi,Y,wk,hz⟩:=it.ex
  let F':Pl:=fun b=>F b∨b=D
  have fD:F' D:= .inr rfl
  have wD0:Wd S1 F' (upd H1 D (.lst [])):=w1.moreF hD (.inl ⟨[],upd_same⟩)
  have st0:Stp (Zd S1 F) H1 (Zd S1 F') (upd H1 D (.lst [])):=Stp.moreF w1 hD
  obtain⟨hl,hx⟩:=hx
  have hl:xs.length≤50000:=hl
  have fx:Fx F H1 F':= .inr ⟨D,hD,rfl⟩
  have nF: ¬ F D:=fun z=>by
    obtain⟨o,e,_⟩:=(w1.foc D z).some
    rw[hD] at e;cases e
  have sub: ∀b,F b→F' b:=fun b z=> .inl z
  have stF: ∀ {S':Store K} {H':Hp},Stq S1 H1 S' H'→Stp (Zd S1 F) H1 (Zd S' F') H':=fun q=>⟨q.stp.keep,fun b z=>z.elim (fun z=>(q.dom b z).imp .inl id) fun z=>z.elim (fun z=> .inl (.inr z)) fun z=> .inr (z ▸ hD)⟩
  have over: ∀ {S':Store K} {H':Hp} {o:HO},Stq S1 H1 S' H'→Stq S1 H1 S' (upd H' D o):=fun q=>⟨fun b u n e=>by rw[upd_ne (ne_of_none e hD)];exact q.keep b u n e,q.dom,fun b z=>by
    by_cases e:b=D
    · rw[e,upd_same];exact fun w=>nomatch w
    · rw[upd_ne e];exact q.occ b z⟩
  refine lc_it wk (Pv:=fun i H'=> ∃S' ys acc,H' D=some (.lst acc)∧Stq S1 H1 S' H'∧Wd S' F' H'∧AtL (Zd S' F') H' (ys.map r2) acc∧ys.length≤i∧fmapW I mc me (xs.drop i) (fun zs S2=>Qp (ys++zs) S2) (fun _ _=>False) S') ?_ ?_ ?_ ?_
  · exact⟨S1,[],[],upd_same,over .refl,wD0,rfl,Nat.le_refl _,by simpa [wCalm] using hx⟩
  · rintro i H' hi ⟨S',ys,acc,e1,q1,w',l,le,hf⟩
    refine (hz F' S' H' fx (stF q1) w' ?_).1
    cases q:xs.drop i with
    | nil=>rw[q] at hf;exact hf.1
    | cons x t=>rw[q] at hf;exact hf.1
  · rintro i x H' H3 hi ⟨S',ys,acc,e1,q1,w',l,le,hf⟩ y
    obtain⟨x0,hx0⟩: ∃x0,xs[i]?=some x0:=⟨_,List.getElem?_eq_getElem hi⟩
    have ed:xs.drop i=x0::xs.drop (i+1):=by
      rw[List.drop_eq_getElem_cons hi]
      have:=List.getElem?_eq_some_iff.mp hx0
      rw[this.2]
    rw[ed] at hf
    obtain⟨nx3,hv⟩:=(hz F' S' H' fx (stF q1) w' hf.1).2 i x H3 x0 y hx0
    have q3:=q1.trans nx3.st
    refine t _ H3 x x0 (L2.wipe σ vs) _ hv fun ws hws=>⟨wipe_setAll (hs x0),?_⟩
    have s3:Sat (gsets (gwipe G vs) (sets x0)) (Zd S' F') H3 (setAll (L2.wipe σ vs) ((sets x0).map (·.1)) ws):=(((s.up h1.stp).up (stF q3)).wipe vs).sets hws
    have eD: ∀ {S4:Store K} {H4:Hp},Nxt S' F' H' S4 H4→H4 D=some (.lst acc):=fun n=>n.st.keep D _ (w'.dis D fD) e1
    refine c x0 S' F' _ H3 _ _ _ nx3.wd s3 hf.2 (fun b S4 H4 hb h4=> ?_) hanE_no
    cases b with
    | true=>
      refine iteT (e x0 S4 F' _ H4 _ _ _ h4.wd (s3.up h4.stp) (by have q:=hb;unfold wIf at q;rw[if_pos rfl] at q;exact q) (fun z S5 H5 v hz h5 hv=> ?_) hanE_no)
      have h35:=nx3.trans (h4.trans h5)
      refine⟨acc,eD h35,by rw[l.length,List.length_map];exact sl_lt (by omega),S5,ys++ [z],acc++ [v],upd_same,over (q1.trans h35.st),h5.wd.putF fD (.inl ⟨_,upd_same⟩),?_,by simp;omega,by simpa [bnd,ret] using hz⟩
      rw[List.map_append]
      have sp:Stp (Zd S5 F') H5 (Zd S5 F') (upd H5 D (.lst (acc++ [v]))):=Stp.put (.inr fD)
      exact AtL.append ((l.up h35.stp).up sp) (AtL.one (Dm.up _ sp hv))
    | false=>
      have h34:=nx3.trans h4
      exact iteF ⟨S4,ys,acc,eD h34,q1.trans h34.st,h4.wd,l.up h34.stp,by omega,by have q:=hb;unfold wIf at q;rw[if_neg (by decide)] at q;exact q⟩
  · rintro H' ⟨S',ys,acc,e1,q1,w',l,le,hf⟩
    rw[List.drop_eq_nil_of_le (Nat.le_refl _)] at hf
    have hq:Qp ys S':=by simpa using hf.2
    have nx:Nxt S1 F H1 S' H':=⟨q1,w'.lessF sub⟩
    have hD0:H D=none:=by
      cases e:H D with
      | none=>rfl
      | some o=>exact absurd hD (h1.st.occ D (by rw[e];exact fun z=>nomatch z))
    exact hQ ys S' H' D acc hq (h1.trans nx) hD0 w' nF e1 l
theorem sim_lc {wi:TI} {g:TG} {tt:TT} {te:TE} {vs:List Nat} {r:α→Dm K} {r2:β→Dm K} {sets:α→List (Nat×Dm K)} {m:W K (List α×(Store K→Prop))} {mc:α→W K Bool} {me:α→W K β}
    (i:SimI ε G wi r m) (t:SimG g r sets) (hs: ∀x,∀y∈(sets x).map (·.1),y∈vs)
    (c: ∀x,SimB (fun _ _ _ _=>False) (gsets (gwipe G vs) (sets x)) tt (mc x)) (e: ∀x,Sim (fun _ _ _ _=>False) (gsets (gwipe G vs) (sets x)) te r2 (me x)):
    Sim ε G (tLc wi g tt te vs) (kL r2) (bnd m fun xs=>wAss (xs.1.length≤50000) (wCalm (fmapW xs.2 mc me xs.1))):=sim_new (simN_lc i t hs c e)
end
end TL

set_option Elab.async false
set_option linter.all false
set_option maxRecDepth 100000
set_option maxHeartbeats 2000000
namespace TL
open PySem PySem.Spec PyProof.Rows L2 PC

section
variable {K : PySem.W.Frag} {ε : WX} {Gh : Option (Gm K)} {G : Gm K} {α β γ τ S' ρ : Type} {T : Type}
def runs:List TS→TS
  | []=>fun D σ H=>D.nx σ H
  | t::ts=>fun D σ H=>t { D with nx:=runs ts D } σ H
structure Cf (S0:Store K) (F:Pl) (H0:Hp) (G:Gm K) (S:Store K) (H:Hp) (σ:L2.St):Prop where
  nx:Nxt S0 F H0 S H
  sat:Sat G (Zd S F) H σ
def SatO:Option (Gm K)→Pl→Hp→L2.St→Prop
  | none,_,_,_=>True
  | some G,Z,H,σ=>Sat G Z H σ
def HanS (ε:WX) (Gh:Option (Gm K)) (S0:Store K) (F:Pl) (H0:Hp) (Ep:Err K→Store K→Prop):Prop:=
  ∀e S' H' c d σ',Ep e S'→Nxt S0 F H0 S' H'→SatO Gh (Zd S' F) H' σ'→ErrAt e (Zd S' F) H' c d→ε c d σ' H'
def SimS (ε:WX) (Gh:Option (Gm K)) (G:Gm K) (ts:List TS) {T ρ:Type} (Gof:T→Gm K) (rr:ρ→Dm K) (m:W K (Flow T ρ)):Prop:=
  ∀S0 F H0 S H σ (D:Ends) (Qp:Flow T ρ→Store K→Prop) (Ep:Err K→Store K→Prop),Cf S0 F H0 G S H σ→m Qp Ep S→
    (∀s S' H' σ',Qp (.nx s) S'→Cf S0 F H0 (Gof s) S' H' σ'→D.nx σ' H')→
    (∀s S' H' σ',Qp (.bk s) S'→Cf S0 F H0 (Gof s) S' H' σ'→D.bk σ' H')→
    (∀x S' H' v,Qp (.rt x) S'→Nxt S0 F H0 S' H'→(rr x).at_ (Zd S' F) H' v→D.rt v H')→
    HanS ε Gh S0 F H0 Ep→runs ts D σ H
def Le (G:Gm K):Option (Gm K)→Prop
  | none=>True
  | some G'=>Wk G G'
theorem le_none:Le G none:=trivial
theorem Le.sat {Z:Pl} {H:Hp} {σ:L2.St} (l:Le G Gh) (s:Sat G Z H σ):SatO Gh Z H σ:=by
  cases Gh with
  | none=>trivial
  | some G'=>exact s.wk l
variable {Gof : T → Gm K} {rr : ρ → Dm K} {ts : List TS}
section
variable {S0 S S1 : Store K} {F : Pl} {H0 H H1 : Hp} {σ : L2.St} {Ep : Err K → Store K → Prop}
theorem Cf.wd (c:Cf S0 F H0 G S H σ):Wd S F H:=c.nx.wd
theorem Cf.to (c:Cf S0 F H0 G S H σ) (r:Nxt S F H S1 H1):Cf S0 F H0 G S1 H1 σ:=⟨c.nx.trans r,c.sat.up r.stp⟩
theorem HanS.e (h:HanS ε Gh S0 F H0 Ep) (c:Cf S0 F H0 G S H σ) (l:Le G Gh):HanE ε S F H σ Ep:=
  fun e S' H' k d he r hk=>h e S' H' k d σ he (c.nx.trans r) (l.sat (c.sat.up r.stp)) hk
end
theorem HanS.to {S0 S1:Store K} {F:Pl} {H0 H1:Hp} {Ep:Err K→Store K→Prop} (h:HanS ε Gh S0 F H0 Ep) (n:Nxt S0 F H0 S1 H1):HanS ε Gh S1 F H1 Ep:=
  fun e S' H' c d σ' he r hs hk=>h e S' H' c d σ' he (n.trans r) hs hk
theorem Cf.base {S0 S1 S:Store K} {F:Pl} {H0 H1 H:Hp} {σ:L2.St} (c:Cf S1 F H1 G S H σ) (n:Nxt S0 F H0 S1 H1):Cf S0 F H0 G S H σ:=⟨n.trans c.nx,c.sat⟩
theorem simS_seq {a b:TS} {m:W K (Flow T ρ)} (h:SimS ε Gh G (a::b::ts) Gof rr m):SimS ε Gh G (tSeq a b::ts) Gof rr m:=h
theorem simS_end {s:T} (k:Wk G (Gof s)):SimS ε Gh G [] Gof rr (ret (.nx s)):=
  fun S0 F H0 S H σ D Qp Ep c hm h1 _ _ _=>h1 s S H σ hm ⟨c.nx,c.sat.wk k⟩
theorem simS_next {m:W K (Flow T ρ)} (h:SimS ε Gh G ts Gof rr m):SimS ε Gh G (tNext::ts) Gof rr m:=h
theorem simS_asg {te:TE} {g:TG} {r:α→Dm K} {sets:α→List (Nat×Dm K)} {m:W K α} {k:α→W K (Flow T ρ)} (t:SimG g r sets) (l:Le G Gh) (e:Sim ε G te r m) (h: ∀x,SimS ε Gh (gsets G (sets x)) ts Gof rr (k x)):
    SimS ε Gh G (tAsg te g::ts) Gof rr (bnd m k):=by
  intro S0 F H0 S H σ D Qp Ep c hm h1 h2 h3 h4
  refine e S F σ H _ _ Ep c.wd c.sat hm (fun x S1 H1 v hx r1 hv=> ?_) (h4.e c l)
  refine t _ H1 v x σ _ hv fun vs hvs=>h x S0 F H0 S1 H1 _ D _ Ep ⟨c.nx.trans r1,(c.sat.up r1.stp).sets hvs⟩ hx h1 h2 h3 h4
theorem simS_ret {te:TE} {m:W K ρ} (l:Le G Gh) (e:Sim ε G te rr m):SimS ε Gh G (tRet te::ts) Gof rr (bnd m fun x=>ret (.rt x)):=by
  intro S0 F H0 S H σ D Qp Ep c hm h1 h2 h3 h4
  exact e S F σ H _ _ Ep c.wd c.sat hm (fun x S1 H1 v hx r1 hv=>h3 x S1 H1 v hx (c.nx.trans r1) hv) (h4.e c l)
theorem simS_drop {te:TE} {r:α→Dm K} {m:W K α} {k:W K (Flow T ρ)} (l:Le G Gh) (e:Sim ε G te r m) (h:SimS ε Gh G ts Gof rr k):SimS ε Gh G (tDrop te::ts) Gof rr (bnd m fun _=>k):=by
  intro S0 F H0 S H σ D Qp Ep c hm h1 h2 h3 h4
  refine e S F σ H _ _ Ep c.wd c.sat hm (fun x S1 H1 v hx r1 hv=> ?_) (h4.e c l)
  exact h S0 F H0 S1 H1 σ D _ Ep (c.to r1) hx h1 h2 h3 h4
theorem simS_if {c:TT} {a b:TS} {mc:W K Bool} {m n:W K (Flow T ρ)} (l:Le G Gh) (hc:SimB ε G c mc) (ha:SimS ε Gh G (a::ts) Gof rr m) (hb:SimS ε Gh G (b::ts) Gof rr n):
    SimS ε Gh G (tIfS c a b::ts) Gof rr (bnd mc fun x=>wIf x m n):=by
  intro S0 F H0 S H σ D Qp Ep cf hm h1 h2 h3 h4
  refine hc S F σ H _ _ Ep cf.wd cf.sat hm (fun x S1 H1 hx r1=> ?_) (h4.e cf l)
  cases x with
  | true=>exact iteT (ha S0 F H0 S1 H1 σ D _ Ep (cf.to r1) (by have q:=hx;unfold wIf at q;rw[if_pos rfl] at q;exact q) h1 h2 h3 h4)
  | false=>exact iteF (hb S0 F H0 S1 H1 σ D _ Ep (cf.to r1) (by have q:=hx;unfold wIf at q;rw[if_neg (by decide)] at q;exact q) h1 h2 h3 h4)
theorem simS_par {i j:Nat} {ta:TA} {r:α→Dm K} {s:β→Dm K} {m:W K (α×β×Unit)} {k:α×β×Unit→W K (Flow T ρ)} (l:Le G Gh) (e:SimA ε G ta (fun x:α×β×Unit=> [r x.1,s x.2.1]) m)
    (h: ∀x,SimS ε Gh ((G.set i (some (r x.1))).set j (some (s x.2.1))) ts Gof rr (k x)):SimS ε Gh G (tPar i j ta::ts) Gof rr (bnd m k):=by
  intro S0 F H0 S H σ D Qp Ep c hm h1 h2 h3 h4
  refine e S F σ H _ _ Ep c.wd c.sat hm (fun x S1 H1 vs hx r1 hv=> ?_) (h4.e c l)
  obtain⟨v,_,rfl,q1,u,_,rfl,q2,rfl⟩:=hv
  refine⟨v,u,rfl,?_⟩
  exact h x S0 F H0 S1 H1 _ D _ Ep ⟨c.nx.trans r1,((c.sat.up r1.stp).set q1).set q2⟩ hx h1 h2 h3 h4
theorem simS_augI {i:Nat} {te:TE} {f:Int→Int→Int} {x:Int} {m:W K Int} {k:Int→W K (Flow T ρ)} (l:Le G Gh) (hx:G[i]?=some (some (kI x))) (e:Sim ε G te kI m) (h: ∀z,SimS ε Gh (G.set i (some (kI z))) ts Gof rr (k z)):
    SimS ε Gh G (tAug i te (ipI f)::ts) Gof rr (bnd m fun y=>k (f x y)):=by
  intro S0 F H0 S H σ D Qp Ep c hm h1 h2 h3 h4
  obtain⟨v,e1,e2⟩:=c.sat.slot i _ hx
  obtain rfl:=at_int e2
  refine⟨.int x,e1,e S F σ H _ _ Ep c.wd c.sat hm (fun y S1 H1 u hy r1 hu=> ?_) (h4.e c l)⟩
  obtain rfl:=at_int hu
  refine⟨x,y,rfl,rfl,?_⟩
  exact h (f x y) S0 F H0 S1 H1 _ D _ Ep ⟨c.nx.trans r1,(c.sat.up r1.stp).set mk_int⟩ hy h1 h2 h3 h4
theorem simS_raise {C:Addr} {f:Str} {fs:List Str} {ta:TA} {δ:τ→List (Dm K)} {m:W K τ} (l:Le G Gh) (e:SimA ε G ta δ m) (er:τ→List (Str×Dm K))
    (he: ∀y Z H vs,AtL Z H (δ y) vs→ ∃v ws,vs=v::ws∧ws.length=fs.length∧AtK Z H (er y) ((fs.zip ws).reverse++ [(f,v)])):
    SimS ε Gh G ((fun _ σ H=>tErr C f fs ta σ H fun cls d H'=>ε cls d σ H')::ts) Gof rr (bnd m fun y=>wRaise (C,er y)):=by
  intro S0 F H0 S H σ D Qp Ep c hm h1 h2 h3 h4
  refine e S F σ H _ _ Ep c.wd c.sat hm (fun y S1 H1 vs hy r1 hv=> ?_) (h4.e c l)
  obtain⟨v,ws,rfl,hl,hf⟩:=he y _ H1 vs hv
  refine⟨v,ws,rfl,hl,fun d hd=> ?_⟩
  have nx:Nxt S1 F H1 S1 (upd H1 d (.xd ((fs.zip ws).reverse++ [(f,v)]))):=r1.wd.new hd
  exact h4 _ S1 _ _ _ σ hy (c.nx.trans (r1.trans nx)) (l.sat (c.sat.up (r1.trans nx).stp)) ⟨rfl,d,_,rfl,r1.wd.free hd,upd_same,hf.up nx.stp⟩
theorem one_run {t:TS} {D:Ends} {σ:L2.St} {H:Hp} (h:runs [t] D σ H):t D σ H:=h
def wSetF {K:PySem.W.Frag} {β:Type} (C:Addr) (f:Str) (a:Addr) (d:Dm K) (k:W K β):W K β:=fun Q E S=> ∃fs,S a=some (.ins C fs)∧fs.length<1000∧k Q E (S.set a (.ins C (setF f d fs)))
theorem simS_fld {te to:TE} {C:Addr} {f:Str} {r:α→Dm K} {m:W K α} {mo:W K Addr} {k:W K (Flow T ρ)} (c:Cls K C) (n:NoAttr K C f) (l:Le G Gh) (e:Sim ε G te r m) (o:Sim ε G to kRef mo) (h:SimS ε Gh G ts Gof rr k):
    SimS ε Gh G (sFld K to te f::ts) Gof rr (bnd m fun x=>bnd mo fun a=>wSetF C f a (r x) k):=by
  intro S0 F H0 S H σ D Qp Ep cf hm h1 h2 h3 h4
  refine e S F σ H _ _ Ep cf.wd cf.sat hm (fun x S1 H1 v hx r1 hv=> ?_) (h4.e cf l)
  have c1:=cf.to r1
  refine o S1 F σ H1 _ _ Ep c1.wd c1.sat hx (fun a S2 H2 u hy r2 hu=> ?_) (h4.e c1 l)
  have c2:=c1.to r2
  obtain⟨fs,ea,hl,hk⟩:=hy
  cases (show u= .ref a from hu)
  obtain⟨dx,vs,e2,q⟩:=c2.wd.cell a _ ea
  refine⟨a,C,dx,vs,rfl,e2,c,n,by rw[q.length];exact hl,?_⟩
  have st:Stp (Zd S2 F) H2 (Zd S2 F) (upd H2 a (.ins C dx (putF f v vs))):=Stp.put (.inl (by rw[ea];exact fun z=>nomatch z))
  have nx:Nxt S2 F H2 (S2.set a (.ins C (setF f (r x) fs))) (upd H2 a (.ins C dx (putF f v vs))):=
    c2.wd.putS ea ⟨dx,_,upd_same,(q.up st).setF (Dm.up _ st (r2.up hv))⟩
  exact h S0 F H0 _ _ σ D _ Ep (c2.to nx) hk h1 h2 h3 h4
def forW {K:PySem.W.Frag} {α T ρ:Type} (I:Store K→Prop) (f:α→T→W K (Flow T ρ)):List α→T→W K (Flow T ρ)
  | [],s=>fun Q E S=>I S∧Q (.nx s) S
  | x::xs,s=>fun Q E S=>I S∧f x s (fun q S'=>match q with
    | .nx s'=>forW I f xs s' Q E S'
    | .bk s'=>Q (.nx s') S'
    | .rt y=>Q (.rt y) S') E S
def aft {K:PySem.W.Frag} {T T' ρ:Type} (k:T'→W K (Flow T ρ)):Flow T' ρ→W K (Flow T ρ)
  | .nx s=>k s
  | .bk s=>k s
  | .rt x=>ret (.rt x)
theorem simS_for {T':Type} {wi:TI} {g:TG} {tb:TS} {r:α→Dm K} {sets:α→List (Nat×Dm K)} {m:W K (List α×(Store K→Prop))} {Gl:T'→Gm K} {s0:T'} {mb:α→T'→W K (Flow T' ρ)} {k:T'→W K (Flow T ρ)}
    (l:Le G Gh) (i:SimI ε G wi r m) (t:SimG g r sets) (w0:Wk G (Gl s0))
    (b: ∀x s,SimS ε Gh (gsets (Gl s) (sets x)) [tb] Gl rr (mb x s)) (h: ∀s,SimS ε Gh (Gl s) ts Gof rr (k s)):
    SimS ε Gh G (tFor wi g tb::ts) Gof rr (bnd m fun xs=>bnd (forW xs.2 mb xs.1 s0) (aft k)):=by
  intro S0 F H0 S H σ D Qp Ep c hm h1 h2 h3 h4
  refine i S F σ H _ _ Ep c.wd c.sat hm (fun xs I J S1 H1 hx r1 it=> ?_) (h4.e c l)
  obtain⟨Gi,Y,wk,hz⟩:=it.ex
  have n01:=c.nx.trans r1
  have cont: ∀s σ' S' H',k s Qp Ep S'→Cf S1 F H1 (Gl s) S' H' σ'→runs ts D σ' H':=fun s σ' S' H' hk c'=>h s S0 F H0 S' H' σ' D _ Ep (c'.base n01) hk h1 h2 h3 h4
  refine for_it wk (Pv:=fun i σ' H'=> ∃s S',Cf S1 F H1 (Gl s) S' H' σ'∧forW I mb (xs.drop i) s (fun q=>aft k q Qp Ep) Ep S') ?_ ?_ ?_ ?_
  · exact⟨s0,S1,⟨.refl r1.wd,(c.sat.up r1.stp).wk w0⟩,hx⟩
  · rintro i σ' H' hi ⟨s,S',c',hf⟩
    refine (hz F S' H' (.inl rfl) c'.nx.stp c'.wd ?_).1
    cases q:xs.drop i with
    | nil=>rw[q] at hf;exact hf.1
    | cons x t=>rw[q] at hf;exact hf.1
  · rintro i x σ' H' H3 hi ⟨s,S',c',hf⟩ y
    obtain⟨x0,hx0⟩: ∃x0,xs[i]?=some x0:=⟨_,List.getElem?_eq_getElem hi⟩
    have ed:xs.drop i=x0::xs.drop (i+1):=by
      rw[List.drop_eq_getElem_cons hi]
      have:=List.getElem?_eq_some_iff.mp hx0
      rw[this.2]
    rw[ed] at hf
    obtain⟨r3,hv⟩:=(hz F S' H' (.inl rfl) c'.nx.stp c'.wd hf.1).2 i x H3 x0 y hx0
    refine t _ H3 x x0 σ' _ hv fun ws hws=> ?_
    refine one_run (b x0 s S1 F H1 S' H3 _ _ _ Ep ⟨c'.nx.trans r3,(c'.sat.up r3.stp).sets hws⟩ hf.2 ?_ ?_ ?_ (h4.to n01))
    · intro s2 S4 H4 σ4 q c4
      exact⟨s2,S4,c4,q⟩
    · intro s2 S4 H4 σ4 q c4
      exact cont s2 σ4 S4 H4 q c4
    · intro x2 S4 H4 u q r4 hu
      exact h3 x2 S4 H4 u q (n01.trans r4) hu
  · rintro σ' H' ⟨s,S',c',hf⟩
    rw[List.drop_eq_nil_of_le (Nat.le_refl _)] at hf
    exact cont s σ' S' H' hf.2 c'
def whileW {K:PySem.W.Frag} {T ρ:Type} (c:T→W K Bool) (f:T→W K (Flow T ρ)) (s0:T):W K (Flow T ρ):=fun Q E S0=> ∃I:Nat→T→Store K→Prop,(∃n,I n s0 S0)∧ ∀n s S,I n s S→
  c s (fun b=>wIf b (fun Q' E=>f s (fun q S'=>match q with
    | .nx s'=> ∃n',n'<n∧I n' s' S'
    | .bk s'=>Q' (.nx s') S'
    | .rt y=>Q' (.rt y) S') E) (ret (.nx s)) Q E) E S
theorem simS_while {T':Type} {c:TT} {tb:TS} {Gl:T'→Gm K} {s0:T'} {mc:T'→W K Bool} {mb:T'→W K (Flow T' ρ)} {k:T'→W K (Flow T ρ)} (l: ∀s,Le (Gl s) Gh) (w0:Wk G (Gl s0))
    (hc: ∀s,SimB ε (Gl s) c (mc s)) (b: ∀s,SimS ε Gh (Gl s) [tb] Gl rr (mb s)) (h: ∀s,SimS ε Gh (Gl s) ts Gof rr (k s)):
    SimS ε Gh G (tWhile c tb::ts) Gof rr (bnd (whileW mc mb s0) (aft k)):=by
  intro S0 F H0 S H σ D Qp Ep cf hm h1 h2 h3 h4
  obtain⟨I,⟨n0,i0⟩,step⟩:=hm
  refine⟨fun n σ' H'=> ∃s S',Cf S0 F H0 (Gl s) S' H' σ'∧I n s S',⟨n0,s0,S,⟨cf.nx,cf.sat.wk w0⟩,i0⟩,?_⟩
  rintro n σ' H' ⟨s,S',c',hi⟩
  refine hc s S' F σ' H' _ _ Ep c'.wd c'.sat (step n s S' hi) (fun x S2 H2 hx r2=> ?_) (h4.e c' (l s))
  have c2:=c'.to r2
  cases x with
  | true=>
    refine iteT ⟨fun σ3 H3=> ∃n',n'<n∧ ∃s S',Cf S0 F H0 (Gl s) S' H3 σ3∧I n' s S',fun σ3 H3 q=>q,?_⟩
    refine one_run (b s S0 F H0 S2 H2 σ' _ _ Ep c2 (by have q:=hx;unfold wIf at q;rw[if_pos rfl] at q;exact q) ?_ ?_ ?_ h4)
    · rintro s2 S4 H4 σ4 ⟨n',hn,q⟩ c4
      exact⟨n',hn,s2,S4,c4,q⟩
    · intro s2 S4 H4 σ4 q c4
      exact h s2 S0 F H0 S4 H4 σ4 D _ Ep c4 q h1 h2 h3 h4
    · intro x2 S4 H4 u q r4 hu
      exact h3 x2 S4 H4 u q r4 hu
  | false=>
    exact iteF (h s S0 F H0 S2 H2 σ' D _ Ep c2 (by have q:=hx;unfold wIf at q;rw[if_neg (by decide)] at q;exact q) h1 h2 h3 h4)
def wTry {K:PySem.W.Frag} {α:Type} (m:W K α) (h:Err K→W K α):W K α:=fun Q E S=>m Q (fun e S'=>h e Q E S') S
def wCatch {K:PySem.W.Frag} {α:Type} (C:Addr) (h n:Err K→W K α):Err K→W K α:=fun e Q E S=> ∃b,PySem.W.exmOne K (.ref e.1) (.ref C)=some b∧(b=true→h e Q E S)∧(b=false→n e Q E S)
def kErr (a:Addr) (k:Value) (d:Option Addr) (e:Err K):Dm K:=⟨fun Z H v=>v= .ref a∧ErrAt e Z H k d,fun r h=>⟨h.1,h.2.up r⟩⟩
inductive SimC (ε:WX) (Gh:Option (Gm K)) (Gc:Gm K) {T ρ:Type} (Gof:T→Gm K) (rr:ρ→Dm K):List Clause→(Err K→W K (Flow T ρ))→Prop
  | nil (l:Le Gc Gh):SimC ε Gh Gc Gof rr [] wRaise
  | cons {C:Addr} {i:Nat} {t:Addr→Value→Option Addr→TS} {r:List Clause} {h n:Err K→W K (Flow T ρ)} {Gs:T→Gm K}
      (b: ∀a k d e,SimS ε Gh (Gc.set i (some (kErr a k d e))) [t a k d] Gs rr (h e)) (w: ∀s,Wk ((Gs s).set i none) (Gof s)) (rest:SimC ε Gh Gc Gof rr r n):
      SimC ε Gh Gc Gof rr ((.ref C,i,t)::r) (wCatch C h n)
theorem SimC.run {Gc:Gm K} {l:List Clause} {hd:Err K→W K (Flow T ρ)} (s:SimC ε Gh Gc Gof rr l hd): ∀ {S0:Store K} {F:Pl} {H0:Hp} {S:Store K} {H:Hp} {σ:L2.St} {D:Ends} {Qp:Flow T ρ→Store K→Prop} {Ep:Err K→Store K→Prop} {e:Err K} {c:Value} {d:Option Addr},
    Cf S0 F H0 Gc S H σ→ErrAt e (Zd S F) H c d→hd e Qp Ep S→
    (∀s S' H' σ',Qp (.nx s) S'→Cf S0 F H0 (Gof s) S' H' σ'→D.nx σ' H')→
    (∀s S' H' σ',Qp (.bk s) S'→Cf S0 F H0 (Gof s) S' H' σ'→D.bk σ' H')→
    (∀x S' H' v,Qp (.rt x) S'→Nxt S0 F H0 S' H'→(rr x).at_ (Zd S' F) H' v→D.rt v H')→
    HanS ε Gh S0 F H0 Ep→wCl K ε D l c d σ H:=by
  induction s with
  | nil l=>
    intro S0 F H0 S H σ D Qp Ep e c d cf hk hm h1 h2 h3 h4
    exact h4 e S H c d σ hm cf.nx (l.sat cf.sat) hk
  | @cons C i t r h n Gs b w rest ih=>
    intro S0 F H0 S H σ D Qp Ep e c d cf hk hm h1 h2 h3 h4
    obtain⟨bb,e1,hy,hn⟩:=hm
    obtain rfl:c= .ref e.1:=hk.1
    refine⟨bb,e1,fun eb a ha=> ?_,fun eb=>ih cf hk (hn eb) h1 h2 h3 h4⟩
    refine one_run (b a (.ref e.1) d e S0 F H0 S H _ _ _ Ep ⟨cf.nx,cf.sat.set ⟨rfl,hk⟩⟩ (hy eb) ?_ ?_ ?_ h4)
    · intro s S' H' σ' q c'
      exact h1 s S' H' _ q ⟨c'.nx,(Sat.wipe1 (i:=i) c'.sat).wk (w s)⟩
    · intro s S' H' σ' q c'
      exact h2 s S' H' _ q ⟨c'.nx,(Sat.wipe1 (i:=i) c'.sat).wk (w s)⟩
    · intro x S' H' v q n' hv
      exact h3 x S' H' v q n' hv
def aftT {K:PySem.W.Frag} {T T' ρ:Type} (k:T'→W K (Flow T ρ)):Flow T' ρ→W K (Flow T ρ)
  | .nx s=>k s
  | .bk _=>fun _ _ _=>False
  | .rt x=>ret (.rt x)
theorem simS_try {T':Type} {tb:WX→TS} {l:List Clause} {Gc:Gm K} {G1:T'→Gm K} {mb:W K (Flow T' ρ)} {hd:Err K→W K (Flow T' ρ)} {k:T'→W K (Flow T ρ)}
    (b: ∀ε',SimS ε' (some Gc) G [tb ε'] G1 rr mb) (c:SimC ε Gh Gc G1 rr l hd) (h: ∀s,SimS ε Gh (G1 s) ts Gof rr (k s)):
    SimS ε Gh G ((fun D σ H=>tb (wCl K ε D l) D σ H)::ts) Gof rr (bnd (wTry mb hd) (aftT k)):=by
  intro S0 F H0 S H σ D Qp Ep cf hm h1 h2 h3 h4
  have g1: ∀s S' H' σ',aftT k (.nx s) Qp Ep S'→Cf S0 F H0 (G1 s) S' H' σ'→runs ts D σ' H':=fun s S' H' σ' q c'=>h s S0 F H0 S' H' σ' D _ Ep c' q h1 h2 h3 h4
  show runs [tb (wCl K ε { D with nx:=runs ts D } l)] { D with nx:=runs ts D } σ H
  refine b _ S0 F H0 S H σ { D with nx:=runs ts D } _ _ cf hm g1 (fun s S' H' σ' q c'=>q.elim) h3 ?_
  intro e S' H' c' d σ' he n' hs hk
  exact c.run ⟨n',hs⟩ hk he g1 (fun s S' H' σ' q c'=>q.elim) h3 h4
def outW {K:PySem.W.Frag} {α:Type} (m:W K (Flow Unit α)) (d:Option α):W K α:=fun Q E S=>m (fun q S'=>match q with
  | .rt y=>Q y S'
  | .nx _=>match d with | some y=>Q y S' | none=>False
  | .bk _=>False) E S
def envOf (ds:List (Dm K)) (n:Nat):Gm K:=ds.map some++List.replicate (n - ds.length) none
theorem sat_start {N:List Str} {ds:List (Dm K)} {vs:List V} {Z:Pl} {H:Hp} (h:AtL Z H ds vs):Sat (envOf ds N.length) Z H (L2.start N vs):=by
  have hl:=h.length
  refine⟨by simp[L2.start,envOf,hl],fun i d e=> ?_⟩
  unfold envOf at e
  rw[List.getElem?_append] at e
  unfold L2.start
  rw[List.getElem?_append]
  simp only[List.length_map] at e ⊢
  by_cases c:i<ds.length
  · rw[if_pos c,List.getElem?_map] at e
    rw[if_pos (by omega),List.getElem?_map]
    cases q:ds[i]? with
    | none=>rw[q] at e;cases e
    | some x=>
      rw[q] at e
      cases e
      obtain⟨v,e1,e2⟩:=h.get q
      exact⟨v,by rw[e1];rfl,e2⟩
  · rw[if_neg c,List.getElem?_replicate] at e
    split at e <;> cases e
variable {P : Program} {w : World} {mg : Str → Option Value} {base : Heap}
theorem okL {x qual:Str} {st:Stmt} {f:Addr} {fd:FuncData} {N ps:List Str} {k:Nat} {δ:τ→List (Dm K)} {r:α→Dm K} {wf:τ→W K α}
    (F:Fun K x qual st f fd) (S:FnScope N ps (defScope st)) (hl: ∀x,(δ x).length=ps.length) (d:Option α) (hd: ∀y,d=some y→r y=dPy .none)
    (body: ∀(cdv:Value) (A:Around) (outer:List Env) (s:Shared) (H:Hp) (E:XK),GOkA K A base→Room k (A.deeper (envOfC qual (defScope st) s.heap.objs.size f cdv))→
      ∃t,PSs (cxg P w K mg base N qual st f cdv A outer s H E) (defBody st) t∧ ∃m:τ→W K (Flow Unit α),
        (∀x,SimS (fun c d _ H=>E c d H) none (envOf (δ x) N.length) [t] (fun _:Unit=>List.replicate N.length none) r (m x))∧ ∀x Q E S,wf x Q E S→outW (m x) d Q E S):
    FnG P w K mg base (k+1) f fd ps (lift K δ r wf):=by
  refine FnG.okX F S (fun vs H Q E h=> ?_) (fun cdv A outer s H vs Q E hg hr h=> ?_)
  · obtain⟨S0,F0,x,Qp,Ep,wd,ha,_⟩:=h
    rw[ha.length,hl]
  · obtain⟨t,ht,m,hs,hw⟩:=body cdv A outer s H E hg hr
    refine⟨t,ht,?_⟩
    obtain⟨S0,F0,x,Qp,Ep,wd,ha,hf,hQ,hE⟩:=h
    have q:=hw x Qp Ep S0 hf
    refine hs x S0 F0 H S0 H _ { nx:=fun _ H'=>Q .non H',rt:=Q } _ Ep ⟨.refl wd,sat_start ha⟩ q (fun _ S' H' σ' z c'=> ?_) (fun _ _ _ _ z _=>z.elim) (fun y S' H' v z r' hv=>hQ y S' H' v z r' hv)
      (fun e S' H' c dd σ' he r' _ hk=>hE e S' H' c dd he r' hk)
    cases d with
    | none=>exact z.elim
    | some y=>exact hQ y S' H' .non z c'.nx (by rw[hd y rfl];exact mk_non)
end
end TL

set_option Elab.async false
set_option linter.all false
set_option maxRecDepth 100000
set_option maxHeartbeats 2000000
namespace TL
open PySem PySem.Spec PyProof.Rows L2 PC

section
variable {K : PySem.W.Frag} {ε : WX} {G : Gm K} {α β γ τ : Type} {S : Store K} {F : Pl}
theorem os_I0 {g:Int→Int→Int}:OpS K (rI0 fun i j=> .int (g i j)) kI kI kI (fun x y=>ret (g x y)):=by
  intro S F H x y v w Q Qp Ep wd hv hw hf hQ
  obtain rfl:=at_int hv
  obtain rfl:=at_int hw
  exact⟨x,y,rfl,rfl,hQ _ S H _ hf (.refl wd) mk_int⟩
theorem os_I {C:Int→Int→Prop} {g:Int→Int→Int}:OpS K (rI C fun i j=> .int (g i j)) kI kI kI (fun x y=>wAss (C x y) (ret (g x y))):=by
  intro S F H x y v w Q Qp Ep wd hv hw hf hQ
  obtain rfl:=at_int hv
  obtain rfl:=at_int hw
  exact⟨x,y,rfl,rfl,hf.1,hQ _ S H _ hf.2 (.refl wd) mk_int⟩
theorem os_B0 {g:Int→Int→Bool}:OpS K (rI0 fun i j=> .bl (g i j)) kI kI kB (fun x y=>ret (g x y)):=by
  intro S F H x y v w Q Qp Ep wd hv hw hf hQ
  obtain rfl:=at_int hv
  obtain rfl:=at_int hw
  exact⟨x,y,rfl,rfl,hQ _ S H _ hf (.refl wd) mk_bl⟩
theorem os_add:OpS K (rAdd K) kI kI kI (fun x y=>ret (x+y)):=by
  intro S F H x y v w Q Qp Ep wd hv hw hf hQ
  obtain rfl:=at_int hv
  obtain rfl:=at_int hw
  exact s_add_int (hQ _ S H _ hf (.refl wd) mk_int)
theorem os_addS:OpS K (rAdd K) kS kS kS (fun x y=>wAss (x.length+y.length≤50000) (ret (x++y))):=by
  intro S F H x y v w Q Qp Ep wd hv hw hf hQ
  obtain rfl:=at_str hv
  obtain rfl:=at_str hw
  exact s_add_str (sl_of hf.1) (hQ _ S H _ hf.2 (.refl wd) mk_str)
theorem os_addL {r:α→Dm K}:OpS K (rAdd K) (kL r) (kL r) (kL r) (fun x y=>wAss (x.length+y.length≤50000) (ret (x++y))):=by
  intro S F H x y v w Q Qp Ep wd ⟨a,xs,e1,na,ha,la⟩ ⟨b,ys,e2,nb,hb,lb⟩ hf hQ
  subst e1 e2
  refine .inr (.inr (.inl ⟨a,b,xs,ys,rfl,rfl,.inl ha,.inl hb,by rw[la.length,lb.length,List.length_map,List.length_map];exact sl_of hf.1,?_⟩))
  exact new_lst wd (la.append lb) fun H' v r' h=>hQ _ S H' v hf.2 r' (by rw[← List.map_append] at h;exact h)
def wIx {K:PySem.W.Frag} {α:Type} (xs:List α) (i:Int):W K α:=fun Q _ S=>0≤i∧ ∃x,xs[i.toNat]?=some x∧Q x S
theorem at_map {r:α→Dm K} {Z:Pl} {H:Hp} {xs:List α} {vs:List V} {i:Nat} {x:α} (l:AtL Z H (xs.map r) vs) (e:xs[i]?=some x): ∃v,vs[i]?=some v∧(r x).at_ Z H v:=
  l.get (by rw[List.getElem?_map,e];rfl)
theorem os_ixL {r:α→Dm K}:OpS K (rIx K) (kL r) kI r (fun xs i=>wIx xs i):=by
  intro S F H xs i v w Q Qp Ep wd ⟨a,vs,e1,na,ha,la⟩ hw ⟨h0,x,ex,hf⟩ hQ
  obtain rfl:=at_int hw
  subst e1
  obtain⟨u,hu,hd⟩:=at_map la ex
  have e:((i.toNat:Nat):Int)=i:=Int.toNat_of_nonneg h0
  exact .inl ⟨a,vs,i,u,rfl,rfl,.inl (.inl ha),by rw[← e];exact atI_nat hu,hQ x S H u hf (.refl wd) hd⟩
theorem os_eqI:OpS K (rEqA K) kI kI kB (fun x y=>ret (decide (x=y))):=by
  intro S F H x y v w Q Qp Ep wd hv hw hf hQ
  obtain rfl:=at_int hv
  obtain rfl:=at_int hw
  exact s_eq_int (hQ _ S H _ hf (.refl wd) mk_bl)
theorem os_neI:OpS K (rNeA K) kI kI kB (fun x y=>ret (!decide (x=y))):=by
  intro S F H x y v w Q Qp Ep wd hv hw hf hQ
  obtain rfl:=at_int hv
  obtain rfl:=at_int hw
  exact s_ne_int (hQ _ S H _ hf (.refl wd) mk_bl)
theorem os_eqS:OpS K (rEqA K) kS kS kB (fun x y=>ret (decide (x=y))):=by
  intro S F H x y v w Q Qp Ep wd hv hw hf hQ
  obtain rfl:=at_str hv
  obtain rfl:=at_str hw
  exact s_eq_str (hQ _ S H _ hf (.refl wd) mk_bl)
theorem os_neS:OpS K (rNeA K) kS kS kB (fun x y=>ret (!decide (x=y))):=by
  intro S F H x y v w Q Qp Ep wd hv hw hf hQ
  obtain rfl:=at_str hv
  obtain rfl:=at_str hw
  exact s_ne_str (hQ _ S H _ hf (.refl wd) mk_bl)
theorem os_eqP:OpS K (rEqA K) kPy kPy kB (fun d e=>wAss (SeqAt.shaped d=true∧SeqAt.shaped e=true) (ret (PyData.eqv d e))):=by
  intro S F H x y v w Q Qp Ep wd hv hw hf hQ
  exact .inr ⟨[],x,y,wd.one,DatP.dat _ _ hv,DatP.dat _ _ hw,hf.1.1,hf.1.2,hQ _ S H _ hf.2 (.refl wd) mk_bl⟩
def isNone:PyData→Bool
  | .none=>true
  | _=>false
theorem atL_ints {Z:Pl} {H:Hp} {ns:List Int} {vs:List V} (l:AtL Z H (ns.map (kI (K:=K))) vs):vs=ns.map V.int:=by
  exact (DatPL.dat _ _ (AtL.dat (K:=K) (f:=PyData.int) (r:=kI) (fun x Z H v h=>h) l)).ints
theorem atL_bls {Z:Pl} {H:Hp} {ns:List Bool} {vs:List V} (l:AtL Z H (ns.map (kB (K:=K))) vs):vs=ns.map V.bl:=by
  exact (DatPL.dat _ _ (AtL.dat (K:=K) (f:=PyData.bool) (r:=kB) (fun x Z H v h=>h) l)).bls
theorem ints_at {Z:Pl} {H:Hp}: ∀ns:List Int,AtL Z H (ns.map (kI (K:=K))) (ns.map V.int)
  | []=>rfl
  | n::ns=>⟨.int n,_,rfl,mk_int,ints_at ns⟩
theorem os_inI:OpS K (rInA K) kI (kL kI) kB (fun x y=>ret (decide (x∈y))):=by
  intro S F H x y v w Q Qp Ep wd hv ⟨a,vs,e,na,ha,la⟩ hf hQ
  obtain rfl:=at_int hv
  subst e
  obtain rfl:=atL_ints la
  refine .inr ⟨a,_,rfl,.inl (.inl (.inl ha)),rfl,flat_ints y,?_⟩
  show Q (.bl (inV _ _)) H
  rw[inV_ints]
  exact hQ _ S H _ hf (.refl wd) mk_bl
theorem os_niI:OpS K (rNotInA K) kI (kL kI) kB (fun x y=>ret (!decide (x∈y))):=by
  intro S F H x y v w Q Qp Ep wd hv ⟨a,vs,e,na,ha,la⟩ hf hQ
  obtain rfl:=at_int hv
  subst e
  obtain rfl:=atL_ints la
  refine .inr ⟨a,_,rfl,.inl (.inl (.inl ha)),rfl,flat_ints y,?_⟩
  show Q (.bl (!inV _ _)) H
  rw[inV_ints]
  exact hQ _ S H _ hf (.refl wd) mk_bl
theorem at1 {Z:Pl} {H:Hp} {d:Dm K} {vs:List V} (h:AtL Z H [d] vs): ∃v,vs= [v]∧d.at_ Z H v:=by
  obtain⟨v,r,rfl,h1,rfl⟩:=h
  exact⟨v,rfl,h1⟩
theorem at2 {Z:Pl} {H:Hp} {d e:Dm K} {vs:List V} (h:AtL Z H [d,e] vs): ∃v w,vs= [v,w]∧d.at_ Z H v∧e.at_ Z H w:=by
  obtain⟨v,r,rfl,h1,w,r,rfl,h2,rfl⟩:=h
  exact⟨v,w,rfl,h1,h2⟩
theorem cb_lenL {r:α→Dm K}:CalB K (PC.rLen K) (fun x:List α×Unit=> [kL r x.1]) kI (fun x=>ret (x.1.length:Int)):=by
  intro S F H x vs Q Qp Ep wd h hf hQ
  obtain⟨v,rfl,⟨a,xs,rfl,n,s,l⟩⟩:=at1 h
  exact .inl ⟨a,xs,rfl,.inl (.inl (.inl s)),by rw[l.length,List.length_map];exact hQ _ S H _ hf (.refl wd) mk_int⟩
theorem cb_listL {r:α→Dm K}:CalB K (rList K) (fun x:List α×Unit=> [kL r x.1]) (kL r) (fun x=>ret x.1):=by
  intro S F H x vs Q Qp Ep wd h hf hQ
  obtain⟨v,rfl,⟨a,xs,rfl,n,s,l⟩⟩:=at1 h
  exact⟨a,xs,rfl,.inl (.inl (.inl s)),new_lst wd l fun H' v r' h=>hQ _ S H' v hf r' h⟩
theorem cb_listT {r:α→Dm K}:CalB K (rList K) (fun x:List α×Unit=> [kT r x.1]) (kL r) (fun x=>ret x.1):=by
  intro S F H x vs Q Qp Ep wd h hf hQ
  obtain⟨v,rfl,⟨a,xs,rfl,n,s,l⟩⟩:=at1 h
  exact⟨a,xs,rfl,.inr s,new_lst wd l fun H' v r' h=>hQ _ S H' v hf r' h⟩
theorem cb_tupleL {r:α→Dm K}:CalB K (rTuple K) (fun x:List α×Unit=> [kL r x.1]) (kT r) (fun x=>ret x.1):=by
  intro S F H x vs Q Qp Ep wd h hf hQ
  obtain⟨v,rfl,⟨a,xs,rfl,n,s,l⟩⟩:=at1 h
  exact⟨a,xs,rfl,.inl ⟨.inl (.inl s),new_tup wd l fun H' v r' h=>hQ _ S H' v hf r' (dP_dT h)⟩⟩
theorem cb_sum:CalB K (rSum K) (fun x:List Int×Unit=> [kL kI x.1]) kI (fun x=>ret x.1.sum):=by
  intro S F H x vs Q Qp Ep wd h hf hQ
  obtain⟨v,rfl,⟨a,xs,rfl,n,s,l⟩⟩:=at1 h
  obtain rfl:=atL_ints l
  exact⟨a,x.1,rfl,.inl (.inl s),hQ _ S H _ hf (.refl wd) mk_int⟩
theorem cb_all:CalB K (rAll K) (fun x:List Bool×Unit=> [kL kB x.1]) kB (fun x=>ret (x.1.all id)):=by
  intro S F H x vs Q Qp Ep wd h hf hQ
  obtain⟨v,rfl,⟨a,xs,rfl,n,s,l⟩⟩:=at1 h
  obtain rfl:=atL_bls l
  exact⟨a,x.1,rfl,.inl (.inl s),hQ _ S H _ hf (.refl wd) mk_bl⟩
theorem cb_any:CalB K (rAny K) (fun x:List Bool×Unit=> [kL kB x.1]) kB (fun x=>ret (x.1.any id)):=by
  intro S F H x vs Q Qp Ep wd h hf hQ
  obtain⟨v,rfl,⟨a,xs,rfl,n,s,l⟩⟩:=at1 h
  obtain rfl:=atL_bls l
  exact⟨a,x.1,rfl,.inl (.inl s),hQ _ S H _ hf (.refl wd) mk_bl⟩
theorem cb_max2:CalB K (fun xs H Q=> ∃i j,xs= [.int i,.int j]∧Q (.int (if j > i then j else i)) H) (fun x:Int×Int×Unit=> [kI x.1,kI x.2.1]) kI (fun x=>ret (max x.1 x.2.1)):=by
  intro S F H x vs Q Qp Ep wd h hf hQ
  obtain⟨v,w,rfl,h1,h2⟩:=at2 h
  obtain rfl:=at_int h1
  obtain rfl:=at_int h2
  refine⟨_,_,rfl,?_⟩
  have e:(if x.2.1 > x.1 then x.2.1 else x.1)=max x.1 x.2.1:=by omega
  rw[e]
  exact hQ _ S H _ hf (.refl wd) mk_int
theorem cb_min2:CalB K (fun xs H Q=> ∃i j,xs= [.int i,.int j]∧Q (.int (if j<i then j else i)) H) (fun x:Int×Int×Unit=> [kI x.1,kI x.2.1]) kI (fun x=>ret (min x.1 x.2.1)):=by
  intro S F H x vs Q Qp Ep wd h hf hQ
  obtain⟨v,w,rfl,h1,h2⟩:=at2 h
  obtain rfl:=at_int h1
  obtain rfl:=at_int h2
  refine⟨_,_,rfl,?_⟩
  have e:(if x.2.1<x.1 then x.2.1 else x.1)=min x.1 x.2.1:=by omega
  rw[e]
  exact hQ _ S H _ hf (.refl wd) mk_int
theorem cb_sortedL:CalB K (PC.rSorted K) (fun x:List Int×Unit=> [kL kI x.1]) (kL kI) (fun x=>ret (isort x.1)):=by
  intro S F H x vs Q Qp Ep wd h hf hQ
  obtain⟨v,rfl,⟨a,xs,rfl,n,s,l⟩⟩:=at1 h
  obtain rfl:=atL_ints l
  refine⟨a,x.1,rfl,.inl (.inl (.inl s)),fun ms b hp hs hb=> ?_⟩
  obtain rfl:=isort_is hp hs
  exact hQ _ S _ _ hf (wd.new hb) ⟨b,_,rfl,wd.free hb,upd_same,ints_at _⟩
theorem cb_sortedT:CalB K (PC.rSorted K) (fun x:List Int×Unit=> [kT kI x.1]) (kL kI) (fun x=>ret (isort x.1)):=by
  intro S F H x vs Q Qp Ep wd h hf hQ
  obtain⟨v,rfl,⟨a,xs,rfl,n,s,l⟩⟩:=at1 h
  obtain rfl:=atL_ints l
  refine⟨a,x.1,rfl,.inr s,fun ms b hp hs hb=> ?_⟩
  obtain rfl:=isort_is hp hs
  exact hQ _ S _ _ hf (wd.new hb) ⟨b,_,rfl,wd.free hb,upd_same,ints_at _⟩
theorem cb_repr:CalB K (rRepr K) (fun x:PyData×Unit=> [kPy x.1]) kS (fun x=>wAss (Tame x.1 40 50000) (ret x.1.shown)):=by
  intro S F H x vs Q Qp Ep wd h hf hQ
  obtain⟨v,rfl,h1⟩:=at1 h
  exact⟨[],v,x.1,rfl,wd.one,DatP.dat _ _ h1,hf.1,hQ _ S H _ hf.2 (.refl wd) mk_str⟩
def kTy:String→Dm K:=fun T=>⟨fun _ _ v=>v= .ty T,fun _ h=>h⟩
theorem sim_ty {T:String}:Sim ε G (tC (.ty T)) kTy (ret T):=fun S F σ H Q Qp Ep w s hm hQ _=>hQ _ S H _ hm (.refl w) rfl
theorem sim_cls {C:Addr}:Sim ε G (tC (.ref C)) kRef (ret C):=fun S F σ H Q Qp Ep w s hm hQ _=>hQ _ S H _ hm (.refl w) rfl
def IsTy (T:String):Prop:=T= "int" ∨T= "bool" ∨T= "str" ∨T= "list" ∨T= "tuple" ∨T= "dict"
theorem cb_isi:CalB K (rIsi K) (fun x:PyData×String×Unit=> [kPy x.1,kTy x.2.1]) kB (fun x=>wAss (IsTy x.2.1) (ret (isD x.1 x.2.1))):=by
  intro S F H x vs Q Qp Ep wd h hf hQ
  obtain⟨v,w,rfl,h1,h2⟩:=at2 h
  obtain rfl:w= .ty x.2.1:=h2
  exact s_isi (DatP.dat _ _ h1) hf.1 (hQ _ S H _ hf.2 (.refl wd) mk_bl)
theorem cb_isC {C:Addr} {fs:α→List (Str×Dm K)} {r:α→Dm K} (e: ∀x,r x=dI C (fs x)) (c:Cls K C) (t:InstT K C) (q0:ClsQ K):CalB K (rIsi K) (fun x:α×Addr×Unit=> [r x.1,kRef x.2.1]) kB (fun x=>wAss (x.2.1=C) (ret true)):=by
  intro S F H x vs Q Qp Ep wd h hf hQ
  obtain⟨v,w,rfl,h1,h2⟩:=at2 h
  obtain rfl:w= .ref x.2.1:=h2
  rw[e] at h1
  obtain⟨a,dx,xs,rfl,_,e2,_⟩:=h1
  rw[hf.1]
  exact s_isiC c t q0 e2 (hQ _ S H _ hf.2 (.refl wd) mk_bl)
theorem sim_bits {te:TE} {m:W K Int} (h:Sim ε G te kI m):Sim ε G (tBits te) kI (bnd m fun i=>ret (Builtin.Int.intBits i:Int)):=by
  intro S F σ H Q Qp Ep w s hm hQ hE
  exact h S F σ H _ _ Ep w s hm (fun x S' H' v hx hr hv=>⟨x,at_int hv,hQ _ S' H' _ hx hr mk_int⟩) hE
theorem at_rng {Z:Pl} {H:Hp} (a b:Int):AtL Z H ((rng a b).map (kI (K:=K))) (rgV a b):=by
  have e:(rng a b).map V.int=rgV a b:=by simp[rng,rgV,List.map_map,Function.comp_def]
  rw[← e]
  exact ints_at _
def SimO (ε:WX) (G:Gm K) (to:TO) (m:W K (Option Int)):Prop:=
  ∀S F σ H (Q:Option Int→Hp→Prop) (Qp:Option Int→Store K→Prop) (Ep:Err K→Store K→Prop),Wd S F H→Sat G (Zd S F) H σ→m Qp Ep S→
    (∀x S' H',Qp x S'→Nxt S F H S' H'→Q x H')→HanE ε S F H σ Ep→to σ H Q
theorem simO_no:SimO ε G tNoPart (ret none):=fun S F σ H Q Qp Ep w s hm hQ hE=>hQ none S H hm (.refl w)
theorem simO_some {te:TE} {m:W K Int} (h:Sim ε G te kI m):SimO ε G (tPart te) (bnd m fun i=>ret (some i)):=by
  intro S F σ H Q Qp Ep w s hm hQ hE
  exact h S F σ H _ _ Ep w s hm (fun x S' H' v hx hr hv=>⟨x,at_int hv,hQ _ S' H' hx hr⟩) hE
def sli {α:Type} (xs:List α) (lo hi:Option Int):List α:=(xs.drop (HT.sIx xs.length 0 lo)).take (HT.sIx xs.length xs.length hi - HT.sIx xs.length 0 lo)
theorem atL_cut {Z:Pl} {H:Hp} {r:α→Dm K} {xs:List α} {vs:List V} {lo hi:Option Int} (l:AtL Z H (xs.map r) vs):AtL Z H ((sli xs lo hi).map r) (cutV vs lo hi):=by
  unfold sli cutV
  rw[l.length,List.length_map,List.map_take,List.map_drop]
  exact (l.drop _).take _
def SlS (K:PySem.W.Frag) (r:V→Option Int→Option Int→Hp→VK→Prop) {α γ:Type} (r1:α→Dm K) (r3:γ→Dm K) (f:α→Option Int→Option Int→W K γ):Prop:=
  ∀S F H x lo hi v Q (Qp:γ→Store K→Prop) (Ep:Err K→Store K→Prop),Wd S F H→(r1 x).at_ (Zd S F) H v→f x lo hi Qp Ep S→(∀z S' H' u,Qp z S'→Nxt S F H S' H'→(r3 z).at_ (Zd S' F) H' u→Q u H')→r v lo hi H Q
theorem sim_sl {r:V→Option Int→Option Int→Hp→VK→Prop} {te:TE} {tl th:TO} {r1:α→Dm K} {r3:γ→Dm K} {m:W K α} {ml mh:W K (Option Int)} {f:α→Option Int→Option Int→W K γ}
    (o:SlS K r r1 r3 f) (a:Sim ε G te r1 m) (l:SimO ε G tl ml) (h:SimO ε G th mh):Sim ε G (tSl r te tl th) r3 (bnd m fun x=>bnd ml fun lo=>bnd mh fun hi=>f x lo hi):=by
  intro S F σ H Q Qp Ep w s hm hQ hE
  refine a S F σ H _ _ Ep w s hm (fun x S1 H1 v hx h1 hv=> ?_) hE
  refine l S1 F σ H1 _ _ Ep h1.wd (s.up h1.stp) hx (fun lo S2 H2 hy h2=> ?_) (hE.to h1)
  have h12:=h1.trans h2
  refine h S2 F σ H2 _ _ Ep h2.wd (s.up h12.stp) hy (fun hi S3 H3 hz h3=> ?_) (hE.to h12)
  have h13:=h12.trans h3
  exact o S3 F H3 x lo hi v Q _ Ep h3.wd ((h2.trans h3).up hv) hz (fun z S' H' u q r' hu=>hQ z S' H' u q (h13.trans r') hu)
theorem ss_L {r:α→Dm K}:SlS K (PC.rSl K) (kL r) (kL r) (fun x lo hi=>ret (sli x lo hi)):=by
  intro S F H x lo hi v Q Qp Ep wd ⟨a,xs,e,n,s,l⟩ hf hQ
  subst e
  exact .inl ⟨a,xs,rfl,.inl (.inl s),new_lst wd (atL_cut l) fun H' v r' h=>hQ _ S H' v hf r' h⟩
theorem sim_part {ta:TE} {r:α→Dm K} {s:β→Dm K} {m:W K α} {δ:α→List (Dm K)} (f:α→β) (n:Nat) (e: ∀x,r x=dP (δ x)) (g: ∀x,(δ x)[n]?=some (s (f x))) (h:Sim ε G ta r m):
    Sim ε G (tOp (rIx K) ta (tC (.int n))) s (bnd m fun x=>ret (f x)):=by
  intro S F σ H Q Qp Ep w st hm hQ hE
  refine h S F σ H _ _ Ep w st hm (fun x S1 H1 v hx h1 hv=> ?_) hE
  rw[e] at hv
  obtain⟨a,vs,rfl,na,ha,la⟩:=hv
  obtain⟨u,hu,hd⟩:=la.get (g x)
  exact .inr (.inl ⟨a,vs,n,u,rfl,rfl,.inl (.inl ha),atI_nat hu,hQ _ S1 H1 u hx h1 hd⟩)
theorem sim_p1 {ta:TE} {r:α→Dm K} {s:β→Dm K} {m:W K (α×β)} (h:Sim ε G ta (kP r s) m):Sim ε G (tOp (rIx K) ta (tC (.int 0))) r (bnd m fun x=>ret x.1):=sim_part (·.1) 0 (fun _=>rfl) (fun _=>rfl) h
theorem sim_p2 {ta:TE} {r:α→Dm K} {s:β→Dm K} {m:W K (α×β)} (h:Sim ε G ta (kP r s) m):Sim ε G (tOp (rIx K) ta (tC (.int 1))) s (bnd m fun x=>ret x.2):=sim_part (·.2) 1 (fun _=>rfl) (fun _=>rfl) h
section
variable {δ : Type} {r : α → Dm K} {s : β → Dm K} {t : γ → Dm K} {u : δ → Dm K} {ta : TE} {m : W K (α × β × γ × δ)}
end
theorem sim_pair {tr:TA} {r:α→Dm K} {s:β→Dm K} {n:W K (α×β×Unit)} (h:SimA ε G tr (fun x:α×β×Unit=> [r x.1,s x.2.1]) n):Sim ε G (tTup tr) (kP r s) (bnd n fun y=>ret (y.1,y.2.1)):=
  sim_tup (f:=fun y=>(y.1,y.2.1)) h (fun _=>rfl) (fun _=>by simp)
def SimJ (ε:WX) (G:Gm K) (ts:List TE) (m:Str→W K Str):Prop:=
  ∀S F σ H acc (Q:Str→Hp→Prop) (Qp:Str→Store K→Prop) (Ep:Err K→Store K→Prop),Wd S F H→Sat G (Zd S F) H σ→m acc Qp Ep S→(∀x S' H',Qp x S'→Nxt S F H S' H'→Q x H')→HanE ε S F H σ Ep→tJs ts acc σ H Q
theorem simJ_nil:SimJ (K:=K) ε G [] (fun acc=>ret acc):=fun S F σ H acc Q Qp Ep w s hm hQ hE=>hQ _ S _ hm (.refl w)
theorem simJ_cons {t:TE} {ts:List TE} {m:W K Str} {n:Str→W K Str} (h:Sim ε G t kS m) (g:SimJ ε G ts n):SimJ ε G (t::ts) (fun acc=>bnd m fun y=>wAss ((acc++y).length≤50000) (n (acc++y))):=by
  intro S F σ H acc Q Qp Ep w s hm hQ hE
  refine h S F σ H _ _ Ep w s hm (fun x S1 H1 v hx h1 hv=>⟨x,at_str hv,sl_of hx.1,?_⟩) hE
  exact g S1 F σ H1 _ _ _ Ep h1.wd (s.up h1.stp) hx.2 (fun y S' H' hy h2=>hQ y S' H' hy (h1.trans h2)) (hE.to h1)
theorem sim_joined {ts:List TE} {m:Str→W K Str} (h:SimJ ε G ts m):Sim ε G (fun σ H Q=>tJs ts Str.empty σ H fun out H1=>Q (.str out) H1) kS (m Str.empty):=
  fun S F σ H Q Qp Ep w s hm hQ hE=>h S F σ H _ _ Qp Ep w s hm (fun x S' H' hx hr=>hQ x S' H' _ hx hr mk_str) hE
def NoSc:PyData→Bool
  | .list _=>true
  | .tuple _=>true
  | .dict _=>true
  | _=>false
theorem sim_fmtR {te:TE} {m:W K PyData} (h:Sim ε G te kPy m):Sim ε G (tFmtRD K te) kS (bnd m fun d=>wAss (NoSc d=true∧Tame d 40 50000) (ret d.shown)):=by
  intro S F σ H Q Qp Ep w s hm hQ hE
  refine h S F σ H _ _ Ep w s hm (fun d S1 H1 v hx h1 hv=>⟨[],d,h1.wd.one,?_,DatP.dat _ _ hv,hx.1.2,hQ _ S1 _ _ hx.2 h1 mk_str⟩) hE
  have hd:DatP K (Zd S1 F) H1 d v:=hv
  cases d with
  | list ds=>simp only[DatP] at hd;obtain⟨a,_,e,_⟩:=hd;exact⟨a,e⟩
  | tuple ds=>simp only[DatP] at hd;obtain⟨a,_,e,_⟩:=hd;exact⟨a,e⟩
  | dict ds=>simp only[DatP] at hd;obtain⟨a,_,e,_⟩:=hd;exact⟨a,e⟩
  | none=>exact absurd hx.1.1 (by decide)
  | bool _=>have q:=hx.1.1;simp[NoSc] at q
  | int _=>have q:=hx.1.1;simp[NoSc] at q
  | str _=>have q:=hx.1.1;simp[NoSc] at q
theorem os_eqO {C:Addr} {fs:α→List (Str×Dm K)} {r:α→Dm K} {w:α×α×Unit→W K Bool} (e: ∀x,r x=dI C (fs x)):
    OpS K (rEqI C (lift K (fun x:α×α×Unit=> [r x.1,r x.2.1]) kB w)) r r kB (fun x y=>wCalm (w (x,y,()))):=by
  intro S F H x y v u Q Qp Ep wd hv hu hf hQ
  have hv':=hv
  have hu':=hu
  rw[e] at hv' hu'
  obtain⟨a,dx,xs,rfl,_,e1,_⟩:=hv'
  obtain⟨b,dy,ys,rfl,_,e2,_⟩:=hu'
  exact⟨a,b,dx,dy,xs,ys,rfl,rfl,e1,e2,S,F,(x,y,()),_,_,wd,⟨_,_,rfl,hv,_,_,rfl,hu,rfl⟩,hf,fun z S' H' v hz r' hv=>⟨z,at_bl hv,hQ z S' H' _ hz r' (by rw[at_bl hv] at hv;exact hv)⟩,fun e S' H' c d he _ _=>he⟩
theorem os_neO {C:Addr} {fs:α→List (Str×Dm K)} {r:α→Dm K} {w:α×α×Unit→W K Bool} (e: ∀x,r x=dI C (fs x)):
    OpS K (rNeI C (lift K (fun x:α×α×Unit=> [r x.1,r x.2.1]) kB w)) r r kB (fun x y=>bnd (wCalm (w (x,y,()))) fun b=>ret (!b)):=by
  intro S F H x y v u Q Qp Ep wd hv hu hf hQ
  have hv':=hv
  have hu':=hu
  rw[e] at hv' hu'
  obtain⟨a,dx,xs,rfl,_,e1,_⟩:=hv'
  obtain⟨b,dy,ys,rfl,_,e2,_⟩:=hu'
  exact⟨a,b,dx,dy,xs,ys,rfl,rfl,e1,e2,S,F,(x,y,()),_,_,wd,⟨_,_,rfl,hv,_,_,rfl,hu,rfl⟩,hf,fun z S' H' v hz r' hv=>⟨z,at_bl hv,hQ (!z) S' H' _ hz r' mk_bl⟩,fun e S' H' c d he _ _=>he⟩
theorem os_ixC {r:α→Dm K}:OpS K (rIx K) kRef kI r (fun a i=>wPk r a fun xs=>wIx xs i):=by
  intro S F H a i v w Q Qp Ep wd hv hw ⟨xs,ea,h0,x,ex,hf⟩ hQ
  obtain rfl:=at_int hw
  cases (show v= .ref a from hv)
  obtain⟨vs,e1,l⟩:=wd.cell a _ ea
  obtain⟨u,hu,hd⟩:=at_map l ex
  have e:((i.toNat:Nat):Int)=i:=Int.toNat_of_nonneg h0
  exact .inl ⟨a,vs,i,u,rfl,rfl,.inl (.inl e1),by rw[← e];exact atI_nat hu,hQ x S H u hf (.refl wd) hd⟩
def wLenC {K:PySem.W.Frag} (a:Addr):W K Int:=fun Q _ S=> ∃ds,S a=some (.lst ds)∧Q (ds.length:Int) S
theorem cb_lenC:CalB K (PC.rLen K) (fun x:Addr×Unit=> [kRef x.1]) kI (fun x=>wLenC x.1):=by
  intro S F H x vs Q Qp Ep wd h ⟨ds,ea,hf⟩ hQ
  obtain⟨v,rfl,hv⟩:=at1 h
  cases (show v= .ref x.1 from hv)
  obtain⟨vs,e1,l⟩:=wd.cell _ _ ea
  exact .inl ⟨x.1,vs,rfl,.inl (.inl (.inl e1)),by rw[l.length];exact hQ _ S H _ hf (.refl wd) mk_int⟩
def IsLst {K:PySem.W.Frag} (a:Addr) (S:Store K):Prop:= ∃ds,S a=some (.lst ds)
def wApp {K:PySem.W.Frag} {α:Type} (a:Addr) (d:Dm K) (k:W K α):W K α:=fun Q E S=> ∃ds,S a=some (.lst ds)∧ds.length<50000∧k Q E (S.set a (.lst (ds++ [d])))
theorem sim_append {to te:TE} {r:α→Dm K} {mo:W K Addr} {m:W K α} (o:Sim ε G to kRef mo) (e:Sim ε G te r m):
    Sim ε G (tBM K "list" rAppend to (tCons te tNil)) kN (bnd mo fun a=>wRcv (IsLst a) (bnd m fun x=>wApp a (r x) (ret ()))):=by
  intro S F σ H Q Qp Ep w st hm hQ hE
  refine o S F σ H _ _ Ep w st hm (fun a S1 H1 v hx h1 hv=> ?_) hE
  obtain⟨⟨ds0,ea0⟩,hx⟩:=hx
  cases (show v= .ref a from hv)
  obtain⟨vs0,e0,l0⟩:=h1.wd.cell _ _ ea0
  refine⟨ty_lst e0,?_⟩
  refine e S1 F σ H1 _ _ Ep h1.wd (st.up h1.stp) hx (fun x S2 H2 u hy h2 hu=> ?_) (hE.to h1)
  obtain⟨ds,ea,hl,hf⟩:=hy
  obtain⟨vs,e1,l⟩:=h2.wd.cell _ _ ea
  refine s_append e1 (by rw[l.length];exact sl_lt (by omega)) ?_
  have sp:Stp (Zd S2 F) H2 (Zd S2 F) (upd H2 a (.lst (vs++ [u]))):=Stp.put (.inl (by rw[ea];exact fun z=>nomatch z))
  have nx:Nxt S2 F H2 (S2.set a (.lst (ds++ [r x]))) (upd H2 a (.lst (vs++ [u]))):=h2.wd.putS ea ⟨_,upd_same,(l.up sp).append (AtL.one (Dm.up _ sp hu))⟩
  exact hQ () _ _ _ hf ((h1.trans h2).trans nx) mk_non
def wSetI {K:PySem.W.Frag} {α:Type} (a:Addr) (i:Int) (d:Dm K) (k:W K α):W K α:=fun Q E S=> ∃ds,S a=some (.lst ds)∧0≤i∧i<ds.length∧k Q E (S.set a (.lst (ds.set i.toNat d)))
theorem ixN_of {n:Nat} {i:Int} (h0:0≤i) (h1:i<n):ixN n i=some i.toNat:=by
  unfold ixN
  rw[if_pos h0,if_pos h1]
theorem Nxt.old {S1:Store K} {H1:Hp} (n:Nxt S F H S1 H1) {a:Addr} (h:H1 a=none):H a=none:=by
  cases e:H a with
  | none=>rfl
  | some o=>exact absurd h (n.st.occ a (by rw[e];exact fun z=>nomatch z))
theorem new_out {α:Type} {r:α→Dm K} {xs:List α} {vs:List V} {Q:VK} (w:Wd S F H) (h:AtL (Zd S F) H (xs.map r) vs)
    (q: ∀H' a vs,Nxt S F H S H'→H a=none→Wd S (fun b=>F b∨b=a) H'→ ¬ F a→H' a=some (.lst vs)→AtL (Zd S fun b=>F b∨b=a) H' (xs.map r) vs→Q (.ref a) H'): ∀n,H n=none→Q (.ref n) (upd H n (.lst vs)):=fun n hn=>
  q _ n vs (w.new hn) hn (w.moreF hn (.inl ⟨_,upd_same⟩)) (fun z=>w.free hn (.inr z)) upd_same (h.up (Stp.moreF w hn))
def CalN (K:PySem.W.Frag) (r:List V→Hp→VK→Prop) {τ α:Type} (δ:τ→List (Dm K)) (r3:α→Dm K) (w:τ→W K (List α)):Prop:=
  ∀S F H x vs Q (Qp:List α→Store K→Prop) (Ep:Err K→Store K→Prop),Wd S F H→AtL (Zd S F) H (δ x) vs→w x Qp Ep S→
    (∀xs S' H' a vs,Qp xs S'→Nxt S F H S' H'→H a=none→Wd S' (fun b=>F b∨b=a) H'→ ¬ F a→H' a=some (.lst vs)→AtL (Zd S' fun b=>F b∨b=a) H' (xs.map r3) vs→Q (.ref a) H')→r vs H Q
theorem simN_callB {r:List V→Hp→VK→Prop} {ta:TA} {δ:τ→List (Dm K)} {r3:α→Dm K} {w:τ→W K (List α)} {ma:W K τ}
    (c:CalN K r δ r3 w) (a:SimA ε G ta δ ma):SimN ε G (tCB r ta) r3 (bnd ma w):=by
  intro S F σ H Q Qp Ep wd s hm hQ hE
  refine a S F σ H _ _ Ep wd s hm (fun x S1 H1 vs hx h1 hvs=> ?_) hE
  exact c S1 F H1 x vs Q _ _ h1.wd hvs hx (fun xs S' H' a us hy h2 ha hs hf e l=>hQ xs S' H' a us hy (h1.trans h2) (h1.old ha) hs hf e l)
theorem cn_listL {r:α→Dm K}:CalN K (rList K) (fun x:List α×Unit=> [kL r x.1]) r (fun x=>ret x.1):=by
  intro S F H x vs Q Qp Ep wd h hf hQ
  obtain⟨v,rfl,⟨a,xs,rfl,n,s,l⟩⟩:=at1 h
  exact⟨a,xs,rfl,.inl (.inl (.inl s)),new_out wd l fun H' a vs n1 n2 n3 n4 n5 n6=>hQ _ S H' a vs hf n1 n2 n3 n4 n5 n6⟩
theorem simN_lstR2 {te tf:TE} {m n:W K Int} (h:Sim ε G te kI m) (g:Sim ε G tf kI n):SimN ε G (tLstRg (tRg2 te tf)) kI (bnd m fun a=>bnd n fun b=>wAss (RgOk a b) (ret (rng a b))):=by
  intro S F σ H Q Qp Ep w s hm hQ hE
  refine h S F σ H _ _ Ep w s hm (fun x S1 H1 v hx h1 hv=> ?_) hE
  refine g S1 F σ H1 _ _ Ep h1.wd (s.up h1.stp) hx (fun y S2 H2 u hy h2 hu=>⟨x,y,at_int hv,at_int hu,hy.1,?_⟩) (hE.to h1)
  exact new_out h2.wd (at_rng x y) fun H3 a vs n1 n2 n3 n4 n5 n6=>hQ _ S2 H3 a vs hy.2 (h1.trans (h2.trans n1)) ((h1.trans h2).old n2) n3 n4 n5 n6
theorem simN_repL {ta tb:TE} {r:α→Dm K} {ma:W K (List α)} {mb:W K Int} (a:Sim ε G ta (kL r) ma) (b:Sim ε G tb kI mb):
    SimN ε G (tOp rRep ta tb) r (bnd ma fun x=>bnd mb fun k=>wAss (-(2 ^ 62)≤k∧k<2 ^ 62∧x.length * k.toNat≤50000) (ret (List.replicate k.toNat x).flatten)):=by
  intro S F σ H Q Qp Ep w s hm hQ hE
  refine a S F σ H _ _ Ep w s hm (fun x S1 H1 v hx h1 hv=> ?_) hE
  refine b S1 F σ H1 _ _ Ep h1.wd (s.up h1.stp) hx (fun k S2 H2 u hk h2 hu=> ?_) (hE.to h1)
  obtain⟨⟨k1,k2,kl⟩,hq⟩:=hk
  have hv2:=h2.up hv
  obtain rfl:=at_int hu
  obtain⟨p,vs,rfl,n,hp,l⟩:=hv2
  refine⟨p,k,vs,rfl,rfl,hp,by omega,by omega,by rw[l.length,List.length_map];exact sl_of kl,?_⟩
  have lf: ∀j:Nat,AtL (Zd S2 F) H2 ((List.replicate j x).flatten.map r) (List.replicate j vs).flatten:=by
    intro j
    induction j with
    | zero=>exact rfl
    | succ j ih=>
      rw[List.replicate_succ,List.replicate_succ,List.flatten_cons,List.flatten_cons,List.map_append]
      exact l.append ih
  exact new_out h2.wd (lf _) fun H3 a vs n1 n2 n3 n4 n5 n6=>hQ _ S2 H3 a vs hq (h1.trans (h2.trans n1)) ((h1.trans h2).old n2) n3 n4 n5 n6
theorem sim_dnewK:Sim ε G tDNewK kRef (wNew (.dic [])):=by
  intro S F σ H Q Qp Ep w s hm hQ hE p hp
  exact hQ p _ _ _ (hm p (w.sfree hp)) (w.newS hp ⟨[],upd_same,rfl⟩) rfl
def KeyOf {K:PySem.W.Frag} {α:Type} (r:α→Dm K) (f:α→Key):Prop:= ∀x Z H v,(r x).at_ Z H v→v=kV (f x)
theorem key_I:KeyOf (K:=K) kI Sum.inl:=fun _ _ _ _ h=>at_int h
def wHas {K:PySem.W.Frag} (a:Addr) (k:Key):W K Bool:=fun Q _ S=> ∃es,S a=some (.dic es)∧Q (valK es k).isSome S
def wGetK {K:PySem.W.Frag} {β:Type} (r:β→Dm K) (a:Addr) (k:Key):W K β:=fun Q _ S=> ∃es x,S a=some (.dic es)∧valK es k=some (r x)∧Q x S
theorem val_some {κ:Type} [DecidableEq κ] {Z:Pl} {ds:List (κ×Dm K)} {vs:List (κ×V)} (h:AtK Z H ds vs) (k:κ):(valV vs k).isSome=(valK ds k).isSome:=by
  rcases h.val k with ⟨a,b⟩ | ⟨d,v,a,b,_⟩ <;> rw[a,b] <;> rfl
theorem sim_din {ty td:TE} {r:α→Dm K} {f:α→Key} {my:W K α} {md:W K Addr} (kf:KeyOf r f) (y:Sim ε G ty r my) (d:Sim ε G td kRef md):Sim ε G (tDIn ty td) kB (bnd my fun x=>bnd md fun a=>wHas a (f x)):=by
  intro S F σ H Q Qp Ep w s hm hQ hE
  refine y S F σ H _ _ Ep w s hm (fun x S1 H1 v hx h1 hv=> ?_) hE
  refine d S1 F σ H1 _ _ Ep h1.wd (s.up h1.stp) hx (fun a S2 H2 u ha h2 hu=> ?_) (hE.to h1)
  obtain⟨es,ea,hq⟩:=ha
  cases (show u= .ref a from hu)
  obtain rfl:=kf _ _ _ _ hv
  obtain⟨vs,e1,l⟩:=h2.wd.cell _ _ ea
  refine⟨a,_,rfl,DGet.k e1,?_⟩
  rw[val_some l]
  exact hQ _ S2 H2 _ hq (h1.trans h2) mk_bl
theorem sim_dget {ty td:TE} {r:α→Dm K} {f:α→Key} {r3:β→Dm K} {my:W K α} {md:W K Addr} (kf:KeyOf r f) (d:Sim ε G td kRef md) (y:Sim ε G ty r my):Sim ε G (tDGet td ty) r3 (bnd md fun a=>bnd my fun x=>wGetK r3 a (f x)):=by
  intro S F σ H Q Qp Ep w s hm hQ hE
  refine d S F σ H _ _ Ep w s hm (fun a S1 H1 u ha h1 hu=> ?_) hE
  refine y S1 F σ H1 _ _ Ep h1.wd (s.up h1.stp) ha (fun x S2 H2 v hx h2 hv=> ?_) (hE.to h1)
  obtain⟨es,z,ea,ez,hq⟩:=hx
  cases (show u= .ref a from hu)
  obtain rfl:=kf _ _ _ _ hv
  obtain⟨vs,e1,l⟩:=h2.wd.cell _ _ ea
  rcases l.val (f x) with ⟨q,_⟩ | ⟨dd,vv,q1,q2,q3⟩
  · rw[ez] at q;cases q
  · rw[ez] at q1;cases q1
    refine⟨a,vv,rfl,q2 ▸ DGet.k e1,hQ _ S2 H2 _ hq (h1.trans h2) q3⟩
def wPutK {K:PySem.W.Frag} {β:Type} (a:Addr) (k:Key) (d:Dm K) (c:W K β):W K β:=fun Q E S=> ∃es,S a=some (.dic es)∧es.length<50000∧c Q E (S.set a (.dic (putD es k d)))
def wPutT {K:PySem.W.Frag} {β:Type} (a:Addr) (k:List Key) (d:Dm K) (c:W K β):W K β:=fun Q E S=> ∃es,S a=some (.dct es)∧es.length<50000∧c Q E (S.set a (.dct (putD es k d)))
section
variable {T ρ : Type} {Gh : Option (Gm K)} {Gof : T → Gm K} {rr : ρ → Dm K} {ts : List TS} {te to ti : TE} {r : α → Dm K} {rk : β → Dm K} {m : W K α} {mo : W K Addr} {mi : W K β} {k : W K (Flow T ρ)}
theorem simS_dput {f:β→Key} (kf:KeyOf rk f) (l:Le G Gh) (e:Sim ε G te r m) (o:Sim ε G to kRef mo) (i:Sim ε G ti rk mi)
    (h:SimS ε Gh G ts Gof rr k):SimS ε Gh G (sDPut to ti te::ts) Gof rr (bnd m fun x=>bnd mo fun a=>bnd mi fun j=>wPutK a (f j) (r x) k):=by
  intro S0 F H0 S H σ D Qp Ep cf hm h1 h2 h3 h4
  refine e S F σ H _ _ Ep cf.wd cf.sat hm (fun x S1 H1 v hx r1 hv=> ?_) (h4.e cf l)
  have c1:=cf.to r1
  refine o S1 F σ H1 _ _ Ep c1.wd c1.sat hx (fun a S2 H2 u hy r2 hu=> ?_) (h4.e c1 l)
  have c2:=c1.to r2
  refine i S2 F σ H2 _ _ Ep c2.wd c2.sat hy (fun j S3 H3 w hz r3 hw=> ?_) (h4.e c2 l)
  have c3:=c2.to r3
  obtain⟨es,ea,hl,hk⟩:=hz
  cases (show u= .ref a from hu)
  obtain rfl:=kf _ _ _ _ hw
  obtain⟨vs,e1,q⟩:=c3.wd.cell _ _ ea
  refine⟨a,_,rfl,DPut.k e1 (by rw[q.length];exact sl_lt (by omega)),?_⟩
  have sp:Stp (Zd S3 F) H3 (Zd S3 F) (upd H3 a (.dK (putK vs (f j) v))):=Stp.put (.inl (by rw[ea];exact fun z=>nomatch z))
  have nx:Nxt S3 F H3 (S3.set a (.dic (putD es (f j) (r x)))) (upd H3 a (.dK (putK vs (f j) v))):=c3.wd.putS ea ⟨_,upd_same,(q.up sp).put (Dm.up _ sp ((r2.trans r3).up hv))⟩
  exact h S0 F H0 _ _ σ D _ Ep (c3.to nx) hk h1 h2 h3 h4
end
end
end TL

set_option Elab.async false
set_option linter.all false
set_option maxRecDepth 100000
set_option maxHeartbeats 2000000
namespace TL
open PySem PySem.Spec PyProof.Rows L2 PC

section
variable {K : PySem.W.Frag} {ε : WX} {G : Gm K} {α β γ τ : Type} {S : Store K} {F : Pl}
theorem cb_lenSc:CalB K (PC.rLen K) (fun x:List Int×Unit=> [kSc x.1]) kI (fun x=>ret (x.1.length:Int)):=by
  intro S F H x vs Q Qp Ep wd h hf hQ
  obtain⟨v,rfl,⟨a,rfl,n,s⟩⟩:=at1 h
  exact .inl ⟨a,_,rfl,.inl s,by rw[List.length_map];exact hQ _ S H _ hf (.refl wd) mk_int⟩
theorem cb_lenO {C:Addr} {fs:α→List (Str×Dm K)} {r:α→Dm K} (e: ∀x,r x=dI C (fs x)) {w:α×Unit→W K Int}:
    CalB K (rLenI C (lift K (fun x:α×Unit=> [r x.1]) kI w)) (fun x:α×Unit=> [r x.1]) kI (fun x=>bnd (wCalm (w x)) fun n=>wAss (0≤n∧n<2 ^ 62) (ret n)):=by
  intro S F H x vs Q Qp Ep wd h hf hQ
  obtain⟨v,rfl,h1⟩:=at1 h
  have h2:=h1
  rw[e] at h2
  obtain⟨a,dx,xs,rfl,_,e2,_⟩:=h2
  exact⟨a,dx,xs,rfl,e2,S,F,x,_,_,wd,⟨_,_,rfl,h1,rfl⟩,hf,fun n S' H' v hn r' hv=>⟨n,at_int hv,⟨hn.1.1,by have:=hn.1.2;omega⟩,hQ n S' H' _ hn.2 r' mk_int⟩,fun e S' H' c d he _ _=>he⟩
theorem cb_strO {C:Addr} {fs:α→List (Str×Dm K)} {r:α→Dm K} (e: ∀x,r x=dI C (fs x)) {w:α×Unit→W K Str}:
    CalB K (rStrI C (lift K (fun x:α×Unit=> [r x.1]) kS w)) (fun x:α×Unit=> [r x.1]) kS (fun x=>wCalm (w x)):=by
  intro S F H x vs Q Qp Ep wd h hf hQ
  obtain⟨v,rfl,h1⟩:=at1 h
  have h2:=h1
  rw[e] at h2
  obtain⟨a,dx,xs,rfl,_,e2,_⟩:=h2
  exact⟨a,dx,xs,rfl,e2,S,F,x,_,_,wd,⟨_,_,rfl,h1,rfl⟩,hf,fun n S' H' v hn r' hv=>⟨n,at_str hv,hQ n S' H' _ hn r' mk_str⟩,fun e S' H' c d he _ _=>he⟩
section
variable {T ρ : Type} {Gh : Option (Gm K)} {Gof : T → Gm K} {rr : ρ → Dm K} {ts : List TS} {te to ti : TE} {m : W K Int} {mo : W K Addr} {mi : W K Int} {k : W K (Flow T ρ)} {f : Int → Int → Int}
theorem simS_augS (l:Le G Gh) (o:Sim ε G to kRef mo) (i:Sim ε G ti kI mi) (e:Sim ε G te kI m)
    (h:SimS ε Gh G ts Gof rr k):SimS ε Gh G (tAugS to ti te (PC.rGetL K) (ipI f) rSetL::ts) Gof rr (bnd mo fun a=>bnd mi fun j=>wPk kI a fun xs=>bnd (wIx xs j) fun z=>bnd m fun y=>wSetI a j (kI (f z y)) k):=by
  intro S0 F H0 S H σ D Qp Ep cf hm h1 h2 h3 h4
  refine o S F σ H _ _ Ep cf.wd cf.sat hm (fun a S1 H1 v hx r1 hv=> ?_) (h4.e cf l)
  have c1:=cf.to r1
  refine i S1 F σ H1 _ _ Ep c1.wd c1.sat hx (fun j S2 H2 w hz r2 hw=> ?_) (h4.e c1 l)
  have c2:=c1.to r2
  cases (show v= .ref a from hv)
  obtain rfl:=at_int hw
  obtain⟨xs,ea,h0,z,ez,hy⟩:=hz
  obtain⟨vs,e1,q⟩:=c2.wd.cell _ _ ea
  obtain⟨u,hu,hd⟩:=at_map q ez
  obtain rfl:=at_int hd
  have ej:((j.toNat:Nat):Int)=j:=Int.toNat_of_nonneg h0
  refine⟨a,vs,j.toNat,.int z,rfl,by rw[ej],.inl (.inl e1),hu,?_⟩
  refine e S2 F σ H2 _ _ Ep c2.wd c2.sat hy (fun y S3 H3 w hz r3 hw=> ?_) (h4.e c2 l)
  have c3:=c2.to r3
  obtain rfl:=at_int hw
  refine⟨z,y,rfl,rfl,?_⟩
  obtain⟨ds,ea3,_,hl,hk⟩:=hz
  obtain⟨vs3,e3,q3⟩:=c3.wd.cell _ _ ea3
  refine⟨a,vs3,j,j.toNat,rfl,rfl,e3,ixN_of h0 (by rw[q3.length];exact hl),?_⟩
  have sp:Stp (Zd S3 F) H3 (Zd S3 F) (upd H3 a (.lst (vs3.set j.toNat (.int (f z y))))):=Stp.put (.inl (by rw[ea3];exact fun z=>nomatch z))
  have nx:Nxt S3 F H3 (S3.set a (.lst (ds.set j.toNat (kI (f z y))))) (upd H3 a (.lst (vs3.set j.toNat (.int (f z y))))):=c3.wd.putS ea3 ⟨_,upd_same,(q3.up sp).set _ mk_int⟩
  exact h S0 F H0 _ _ σ D _ Ep (c3.to nx) hk h1 h2 h3 h4
end
end
end TL
namespace TL
open PySem PySem.Spec PyProof.Rows L2 PC
def sp_top (K:PySem.W.Frag):Sp:=fun vs H Q E=> ∃a,∃ns:List Int,vs= [.ref a]∧One H∧SqL K H a (ns.map V.int)∧ns.length≤63∧ ∀H',Q (.bl true) H'
theorem law_in {K:PySem.W.Frag} {w:List Int×Unit→W K Bool} {vs:List V} {H:Hp} {Q:VK} {E:XK} (h:sp_top K vs H Q E)
    (hw: ∀ns:List Int,ns.length≤63→w (ns,()) (fun b _=>b=true) (fun _ _=>False) (fun _=>none)):lift K (fun x:List Int×Unit=> [kSc x.1]) kB w vs H Q E:=by
  obtain⟨a,ns,rfl,o1,hS,hl,q⟩:=h
  refine⟨fun _=>none,fun _=>False,(ns,()),_,_,⟨o1,(fun _ _ e=>by cases e),(fun _ z=>False.elim z),(fun _ z=>False.elim z)⟩,⟨_,_,rfl,⟨a,rfl,.inl (fun z=>z.elim (fun z=>z rfl) id),hS⟩,rfl⟩,hw ns hl,fun y S' H' v hy _ hv=> ?_,fun _ _ _ _ _ z=>z.elim⟩
  rw[at_bl hv,hy]
  exact q H'
theorem FnG.ex {P:Program} {w:World} {K:PySem.W.Frag} {mg:Str→Option Value} {base:Heap} {k:Nat} {f:Addr} {fd:FuncData} {ps:List Str} {ι:Type 1} {sp:ι→Sp}
    (F: ∀i,FnG P w K mg base k f fd ps (sp i)):FnG P w K mg base k f fd ps (fun vs H Q E=> ∃i,sp i vs H Q E):=
  ⟨fun vs H Q E ⟨i,h⟩=>(F i).len vs H Q E h,fun A o s H a us vs Q E g r e0 b rv ⟨i,h⟩=>(F i).run A o s H a us vs Q E g r e0 b rv h⟩
section
variable {K : PySem.W.Frag} {ε : WX} {α τ : Type}
end
end TL
namespace TL
open PySem PySem.Spec PyProof.Rows L2 PC
section
variable {K : PySem.W.Frag} {ε : WX} {G : Gm K} {α β γ τ : Type} {S : Store K} {F : Pl} {Z : Pl} {H : Hp}
theorem atL_py: ∀ {ds:List PyData} {vs:List V},DatPL K Z H ds vs→AtL Z H (ds.map (kPy (K:=K))) vs
  | [],_,h=>by simp only[DatPL] at h;exact h
  | d::ds,_,h=>by
    simp only[DatPL] at h
    obtain⟨v,r,e,h1,t⟩:=h
    exact⟨v,r,e,h1,atL_py t⟩
theorem datp_seq {d:PyData} {v:V} {ds:List PyData} (h:DatP K Z H d v) (e:seqD d=some ds):
    ∃a xs,v= .ref a∧AtL Z H (ds.map (kPy (K:=K))) xs∧((¬ Z a∧Rd H a (.lst xs))∨((¬ Z a∨SqT K (fun _=>none) a xs)∧SqT K H a xs)):=by
  cases d with
  | list l=>
    simp only[DatP] at h
    obtain⟨a,xs,e1,n,s,l⟩:=h
    cases e
    exact⟨a,xs,e1,atL_py l,.inl ⟨n,s⟩⟩
  | tuple l=>
    simp only[DatP] at h
    obtain⟨a,xs,e1,n,s,l⟩:=h
    cases e
    exact⟨a,xs,e1,atL_py l,.inr ⟨n,s⟩⟩
  | none=>cases e
  | bool _=>cases e
  | int _=>cases e
  | str _=>cases e
  | dict _=>cases e
def Oc {K:PySem.W.Frag} {α:Type} (r:α→Dm K) (f:α→PyData):Prop:= ∀x Z H v,DatP K Z H (f x) v→(r x).at_ Z H v
def wAs {K:PySem.W.Frag} {α:Type} (f:α→PyData) (d:PyData):W K α:=fun Q _ S=> ∃x,d=f x∧Q x S
theorem sim_as {te:TE} {r:α→Dm K} {f:α→PyData} {m:W K PyData} (o:Oc r f) (h:Sim ε G te kPy m):Sim ε G te r (bnd m (wAs f)):=by
  intro S F σ H Q Qp Ep w s hm hQ hE
  refine h S F σ H _ _ Ep w s hm (fun d S1 H1 v hx h1 hv=> ?_) hE
  obtain⟨x,rfl,hq⟩:=hx
  exact hQ x S1 H1 v hq h1 (o _ _ _ _ hv)
theorem oc_I:Oc (K:=K) kI PyData.int:=fun _ _ _ _ h=>h
def wSeq {K:PySem.W.Frag} {β:Type} (d:PyData) (k:List PyData→W K β):W K β:=fun Q E S=> ∃ds,seqD d=some ds∧k ds Q E S
theorem simI_py {i:Nat} {d:PyData} (h:G[i]?=some (some (kPy d))):SimI ε G (iOr (iList K (tVar i)) (iTup K (tVar i))) kPy (wSeq d fun xs=>ret (xs,nI)):=by
  intro S F σ H RI Qp Ep w s ⟨ds,e,hq⟩ hQ hE
  obtain⟨v,ev,hv⟩:=s.slot i _ h
  obtain⟨a,xs,rfl,l,q | q⟩:=datp_seq hv e
  · exact .inl ⟨_,ev,a,rfl,⟨xs,.inl q.2⟩,hQ ds _ _ S H hq (.refl w) (iter_list q.1 q.2 l)⟩
  · exact .inr ⟨_,ev,a,rfl,⟨xs,q.2⟩,hQ ds _ _ S H hq (.refl w) (iter_tup q.1 q.2 l)⟩
def wSortPy {K:PySem.W.Frag} (d:PyData):W K (List Int):=fun Q _ S=> ∃ns,seqD d=some (ns.map .int)∧Q (isort ns) S
theorem cb_sortedPy:CalB K (PC.rSorted K) (fun x:PyData×Unit=> [kPy x.1]) (kL kI) (fun x=>wSortPy x.1):=by
  intro S F H x vs Q Qp Ep wd h ⟨ns,e,hf⟩ hQ
  obtain⟨v,rfl,hv⟩:=at1 h
  obtain⟨a,xs,rfl,l,q⟩:=datp_seq hv e
  have el:xs=ns.map V.int:=by
    have:AtL (Zd S F) H (ns.map (kI (K:=K))) xs:=by rw[List.map_map] at l;exact l
    exact atL_ints this
  subst el
  refine⟨a,ns,rfl,q.imp (fun q=> .inl q.2) (fun q=>q.2),fun ms b hp hs hb=> ?_⟩
  obtain rfl:=isort_is hp hs
  exact hQ _ S _ _ hf (wd.new hb) ⟨b,_,rfl,wd.free hb,upd_same,ints_at _⟩
theorem cb_lenPy:CalB K (PC.rLen K) (fun x:PyData×Unit=> [kPy x.1]) kI (fun x=>wSeq x.1 fun ds=>ret (ds.length:Int)):=by
  intro S F H x vs Q Qp Ep wd h ⟨ds,e,hf⟩ hQ
  obtain⟨v,rfl,hv⟩:=at1 h
  obtain⟨a,xs,rfl,l,q⟩:=datp_seq hv e
  refine .inl ⟨a,xs,rfl,q.imp (fun q=> .inl q.2) (fun q=>q.2),?_⟩
  rw[l.length,List.length_map]
  exact hQ _ S H _ hf (.refl wd) mk_int
theorem cb_isiT2:CalB K (rIsiT K) (fun x:PyData×(String×String)×Unit=> [kPy x.1,kP kTy kTy x.2.1]) kB (fun x=>wAss (x.2.1=("list","tuple")) (ret (isD x.1 "list" || isD x.1 "tuple"))):=by
  intro S F H x vs Q Qp Ep wd h hf hQ
  obtain⟨v,w,rfl,h1,h2⟩:=at2 h
  obtain⟨a,xs,rfl,n,s,u1,r1,rfl,q1,u2,r2,rfl,q2,rfl⟩:=h2
  have e1:u1= .ty x.2.1.1:=q1
  have e2:u2= .ty x.2.1.2:=q2
  rw[hf.1] at e1 e2
  subst e1 e2
  exact s_isiLT (DatP.dat _ _ h1) s (hQ _ S H _ hf.2 (.refl wd) mk_bl)
theorem mk_dfltP {a:Addr} (h:SqT K (fun _=>none) a []):(kPy (K:=K) (.tuple [])).at_ Z H (.ref a):=by
  refine datp_tup (.inr h) ?_ datpl_nil
  rcases h with (h | ⟨o,h⟩) | h
  · cases h
  · cases h
  · exact .inr h
end
end TL
namespace TL
open PySem PySem.Spec PyProof.Rows L2 PC
theorem nxt_pot {K:PySem.W.Frag} {S:Store K} {F:Pl} {H H':Hp} {p:Addr} (w:Wd S F H) (hp:S p=some .pot) (r:R p H H'):Nxt S F H S H':=by
  have st:Stp (Zd S F) H (Zd S F) H':=⟨fun b o n e=>r.keep b o (fun z=>n (.inl (by rw[z,hp];exact fun w=>nomatch w))) e,fun _ z=> .inl z⟩
  refine⟨⟨fun b o n e=>r.keep b o (fun z=>by rw[z,hp] at n;cases n) e,fun _ z=> .inl z,fun b z=> ?_⟩,r.one w.one,fun a c e=> ?_,fun a z=>(w.foc a z).keep fun o e=>r.keep a o (fun q=>by rw[q] at z;rw[w.dis _ z] at hp;cases hp) e,w.dis⟩
  · by_cases q:b=p
    · subst q;exact r.occ z
    · cases e:H b with
      | none=>exact absurd e z
      | some o=>rw[r.keep b o q e];exact fun w=>nomatch w
  · by_cases q:a=p
    · subst q
      rw[hp] at e
      cases e
      exact r.pot (w.cell _ _ hp)
    · exact (w.cell a c e).up st fun o e=>r.keep a o q e
end TL
namespace TL
open PySem PySem.Spec PyProof.Rows L2 PC
section
variable {K : PySem.W.Frag} {ε : WX} {G : Gm K} {α : Type} {S : Store K} {F : Pl}
def kQ (r:α→Dm K):List α→Dm K:=fun xs=>⟨fun Z H v=>(kL r xs).at_ Z H v∨(kT r xs).at_ Z H v,fun s h=>h.imp ((kL r xs).up s) ((kT r xs).up s)⟩
theorem co_LQ {r:α→Dm K}:Co (kL r) (kQ r) id:=fun _ _ _ _ h=> .inl h
theorem simI_seq {i:Nat} {r:α→Dm K} {x:List α} (h:G[i]?=some (some (kQ r x))):SimI ε G (iOr (iList K (tVar i)) (iTup K (tVar i))) r (ret (x,nI)):=by
  intro S F σ H RI Qp Ep w s hq hQ hE
  obtain⟨v,ev,hv⟩:=s.slot i _ h
  rcases hv with ⟨a,xs,rfl,n,q,l⟩ | ⟨a,xs,rfl,n,q,l⟩
  · exact .inl ⟨_,ev,a,rfl,⟨xs,.inl (.inl q)⟩,hQ x _ _ S H hq (.refl w) (iter_list n (.inl q) l)⟩
  · exact .inr ⟨_,ev,a,rfl,⟨xs,q⟩,hQ x _ _ S H hq (.refl w) (iter_tup n q l)⟩
end
end TL
namespace TL
open PySem PySem.Spec PyProof.Rows L2 PC
theorem simS_never {K:PySem.W.Frag} {ε:WX} {Gh:Option (Gm K)} {G:Gm K} {T ρ:Type} {Gof:T→Gm K} {rr:ρ→Dm K} {ts:List TS}:SimS ε Gh G (L2.tNever::ts) Gof rr (fun _ _ _=>False):=
  fun S0 F H0 S H σ D Qp Ep c hm h1 h2 h3 h4=>hm.elim
end TL

set_option Elab.async false
set_option linter.all false
set_option maxRecDepth 100000
set_option maxHeartbeats 2000000
namespace TL
open PySem PySem.Spec PyProof.Rows L2 PC
section
variable {K : PySem.W.Frag} {α β γ T ρ : Type} {S : Store K} {Q : α → Store K → Prop} {E : Err K → Store K → Prop}
theorem ret_bnd (x:α) (k:α→W K β):bnd (ret x) k=k x:=id rfl
theorem bnd_ret (m:W K α):bnd m (fun x=>ret x)=m:=id rfl
theorem bnd_bnd (m:W K α) (k:α→W K β) (l:β→W K γ):bnd (bnd m k) l=bnd m fun x=>bnd (k x) l:=id rfl
theorem raise_bnd (e:Err K) (k:α→W K β):bnd (wRaise e:W K α) k=wRaise e:=id rfl
theorem ass_bnd (c:Prop) (m:W K α) (k:α→W K β):bnd (wAss c m) k=wAss c (bnd m k):=id rfl
theorem if_bnd (b:Bool) (m n:W K α) (k:α→W K β):bnd (wIf b m n) k=wIf b (bnd m k) (bnd n k):=by cases b <;> exact id rfl
theorem if_t (m n:W K α):wIf true m n=m:=by funext Q E S;unfold wIf;rw[if_pos rfl]
theorem if_f (m n:W K α):wIf false m n=n:=by funext Q E S;unfold wIf;rw[if_neg (by decide)]
theorem if_not (b:Bool) (m n:W K α):wIf (!b) m n=wIf b n m:=by cases b <;> exact id rfl
theorem if_rets (b c d:Bool):(wIf b (ret c) (ret d):W K Bool)=ret (if b=true then c else d):=by cases b <;> exact id rfl
theorem ass_t {c:Prop} {m:W K α} (h:c):wAss c m=m:=by funext Q E S;exact propext ⟨fun x=>x.2,fun x=>⟨h,x⟩⟩
theorem ass_true (m:W K α):wAss True m=m:=ass_t trivial
theorem calm_ret (x:α):wCalm (ret x:W K α)=ret x:=id rfl
theorem calm_bnd (m:W K α) (k:α→W K β):wCalm (bnd m k)=bnd (wCalm m) fun x=>wCalm (k x):=id rfl
theorem calm_ass (c:Prop) (m:W K α):wCalm (wAss c m)=wAss c (wCalm m):=id rfl
theorem out_rt (x:α) (d:Option α):outW (ret (Flow.rt x)) d=(ret x:W K α):=id rfl
theorem out_nx (x:α):outW (ret (Flow.nx ())) (some x)=(ret x:W K α):=id rfl
theorem out_bnd (m:W K β) (k:β→W K (Flow Unit α)) (d:Option α):outW (bnd m k) d=bnd m fun x=>outW (k x) d:=id rfl
theorem out_raise (e:Err K) (d:Option α):outW (wRaise e) d=(wRaise e:W K α):=id rfl
theorem out_ass (c:Prop) (m:W K (Flow Unit α)) (d:Option α):outW (wAss c m) d=wAss c (outW m d):=id rfl
theorem out_if (b:Bool) (m n:W K (Flow Unit α)) (d:Option α):outW (wIf b m n) d=wIf b (outW m d) (outW n d):=by cases b <;> exact id rfl
theorem aft_nx {T':Type} (k:T'→W K (Flow T ρ)) (s:T'):aft k (.nx s)=k s:=id rfl
theorem aft_rt {T':Type} (k:T'→W K (Flow T ρ)) (x:ρ):aft k (.rt x)=ret (.rt x):=id rfl
theorem seq_bnd (d:PyData) (k:List PyData→W K α) (l:α→W K β):bnd (wSeq d k) l=wSeq d fun ds=>bnd (k ds) l:=by
  funext Q E S;exact id rfl
theorem pk_bnd {δ:Type} (r:δ→Dm K) (a:Addr) (k:List δ→W K α) (l:α→W K β):bnd (wPk r a k) l=wPk r a fun ds=>bnd (k ds) l:=id rfl
theorem setF_bnd {δ:Type} (C:Addr) (f:Str) (a:Addr) (d:Dm K) (k:W K α) (l:α→W K β):bnd (wSetF C f a d k) l=wSetF C f a d (bnd k l):=id rfl
theorem setI_bnd (a:Addr) (i:Int) (d:Dm K) (k:W K α) (l:α→W K β):bnd (wSetI a i d k) l=wSetI a i d (bnd k l):=id rfl
theorem app_bnd (a:Addr) (d:Dm K) (k:W K α) (l:α→W K β):bnd (wApp a d k) l=wApp a d (bnd k l):=id rfl
theorem putK_bnd (a:Addr) (i:Key) (d:Dm K) (k:W K α) (l:α→W K β):bnd (wPutK a i d k) l=wPutK a i d (bnd k l):=id rfl
theorem putT_bnd (a:Addr) (i:List Key) (d:Dm K) (k:W K α) (l:α→W K β):bnd (wPutT a i d k) l=wPutT a i d (bnd k l):=id rfl
theorem rcv_bnd (g:Store K→Prop) (m:W K α) (l:α→W K β):bnd (wRcv g m) l=wRcv g (bnd m l):=id rfl
theorem pk_out {δ:Type} (r:δ→Dm K) (a:Addr) (k:List δ→W K (Flow Unit α)) (d:Option α):outW (wPk r a k) d=wPk r a fun ds=>outW (k ds) d:=id rfl
theorem setF_out (C:Addr) (f:Str) (a:Addr) (d:Dm K) (k:W K (Flow Unit α)) (l:Option α):outW (wSetF C f a d k) l=wSetF C f a d (outW k l):=id rfl
theorem setI_out (a:Addr) (i:Int) (d:Dm K) (k:W K (Flow Unit α)) (l:Option α):outW (wSetI a i d k) l=wSetI a i d (outW k l):=id rfl
theorem app_out (a:Addr) (d:Dm K) (k:W K (Flow Unit α)) (l:Option α):outW (wApp a d k) l=wApp a d (outW k l):=id rfl
theorem putK_out (a:Addr) (i:Key) (d:Dm K) (k:W K (Flow Unit α)) (l:Option α):outW (wPutK a i d k) l=wPutK a i d (outW k l):=id rfl
theorem rcv_out (g:Store K→Prop) (m:W K (Flow Unit α)) (l:Option α):outW (wRcv g m) l=wRcv g (outW m l):=id rfl
theorem calm_calm (m:W K α):wCalm (wCalm m)=wCalm m:=id rfl
theorem aftT_nx {T':Type} (k:T'→W K (Flow T ρ)) (s:T'):aftT k (.nx s)=k s:=id rfl
theorem aftT_rt {T':Type} (k:T'→W K (Flow T ρ)) (x:ρ):aftT k (.rt x)=ret (.rt x):=id rfl
theorem as_int (i:Int):wAs PyData.int (.int i)=(ret i:W K Int):=by
  funext Q E S
  exact propext ⟨fun⟨x,e,h⟩=>by cases e;exact h,fun h=>⟨i,rfl,h⟩⟩
theorem seq_of {d:PyData} {ds:List PyData} {k:List PyData→W K α} (h:seqD d=some ds):wSeq d k=k ds:=by
  funext Q E S
  exact propext ⟨fun⟨x,e,h'⟩=>by rw[h] at e;cases e;exact h',fun q=>⟨ds,h,q⟩⟩
theorem sortPy_of {d:PyData} {ns:List Int} (h:seqD d=some (ns.map .int)):wSortPy d=(ret (isort ns):W K (List Int)):=by
  funext Q E S
  refine propext ⟨fun⟨x,e,h'⟩=> ?_,fun q=>⟨ns,h,q⟩⟩
  rw[h] at e
  have:=congrArg intsD (Option.some.inj e)
  rw[intsD_map,intsD_map] at this
  subst this;exact h'
theorem rcv_tt (m:W K α):wRcv (fun _=>True) m=m:=by funext Q E S;exact propext ⟨fun x=>x.2,fun x=>⟨trivial,x⟩⟩
theorem rng_0 (b:Nat):rng 0 (b:Int)=intsTo b:=by
  simp[rng,intsTo]
theorem fmap_eq {c:α→W K Bool} {f:α→W K β} {c':α→Bool} {f':α→β}: ∀ {xs:List α},(∀x∈xs,c x=ret (c' x))→(∀x∈xs,c' x=true→f x=ret (f' x))→fmapW nI c f xs=ret ((xs.filter c').map f')
  | [],_,_=>by funext Q E S;exact propext ⟨fun h=>h.2,fun h=>⟨trivial,h⟩⟩
  | x::xs,h,g=>by
    have ih:=fmap_eq (xs:=xs) (fun y m=>h y (List.mem_cons_of_mem _ m)) (fun y m=>g y (List.mem_cons_of_mem _ m))
    have h0:=h x List.mem_cons_self
    have g0:=g x List.mem_cons_self
    have e: ∀Q E S,fmapW nI c f (x::xs) Q E S=(bnd (c x) (fun b=>wIf b (bnd (f x) fun y=>bnd (fmapW nI c f xs) fun ys=>ret (y::ys)) (fmapW nI c f xs))) Q E S:=fun Q E S=>propext ⟨fun h=>h.2,fun h=>⟨trivial,h⟩⟩
    funext Q E S
    rw[e,h0,ret_bnd,ih]
    cases hc:c' x with
    | true=>rw[if_t,g0 hc,ret_bnd,ret_bnd,List.filter_cons_of_pos hc,List.map_cons]
    | false=>rw[if_f,List.filter_cons_of_neg (by rw[hc];decide)]
theorem fmap_all {f:α→W K β} {f':α→β} {xs:List α} (g: ∀x∈xs,f x=ret (f' x)):fmapW nI (fun _=>ret true) f xs=ret (xs.map f'):=by
  rw[fmap_eq (c':=fun _=>true) (f':=f') (fun _ _=>rfl) fun x m _=>g x m,List.filter_eq_self.mpr fun _ _=>rfl]
theorem fmap_ret (f:α→β) (xs:List α):fmapW nI (fun _=>(ret true:W K Bool)) (fun x=>ret (f x)) xs=ret (xs.map f):=fmap_all fun _ _=>rfl
theorem fmap_filt {c:α→W K Bool} {c':α→Bool} {xs:List α} (h: ∀x∈xs,c x=ret (c' x)):fmapW nI c (fun x=>ret x) xs=ret (xs.filter c'):=by
  rw[fmap_eq (f':=fun x=>x) h fun _ _ _=>rfl,List.map_id']
theorem ix_eq {xs:List α} {i:Int} {x:α} (h0:0≤i) (h:xs[i.toNat]?=some x):wIx xs i=(ret x:W K α):=by
  funext Q E S
  exact propext ⟨fun⟨_,y,e,q⟩=>by rw[h] at e;cases e;exact q,fun q=>⟨h0,x,h,q⟩⟩
theorem sli_one {α:Type} (xs:List α):sli xs (some 1) none=xs.drop 1:=by
  unfold sli
  rw[show HT.sIx xs.length 0 (some 1)=min 1 xs.length from HT.sIx_nat _ _ 1,HT.sIx_none]
  cases xs with
  | nil=>rfl
  | cons x xs=>
    rw[show min 1 (x::xs).length=1 by rw[List.length_cons];omega]
    exact List.take_of_length_le (by rw[List.length_drop];exact Nat.le_refl _)
def Spec (m:W K α) (S:Store K) (P:α→Prop):Prop:= ∀Q E,(∀y,P y→Q y S)→m Q E S
theorem Spec.ap {m:W K β} {k:β→W K α} {P:β→Prop} (h:Spec m S P) (g: ∀y,P y→k y Q E S):(bnd m k) Q E S:=h _ _ g
theorem Spec.apc {m:W K β} {k:β→W K α} {P:β→Prop} (h:Spec m S P) (g: ∀y,P y→k y Q E S):(bnd (wCalm m) k) Q E S:=h _ _ g
variable {P : α → Prop}
theorem Spec.ret {x:α} (h:P x):Spec (TL.ret x) S P:=fun Q E q=>q x h
theorem Spec.bnd {m:W K β} {k:β→W K α} {R:β→Prop} (h:Spec m S R) (g: ∀y,R y→Spec (k y) S P):Spec (TL.bnd m k) S P:=fun Q E q=>h _ _ fun y r=>g y r Q E q
theorem Spec.bndc {m:W K β} {k:β→W K α} {R:β→Prop} (h:Spec m S R) (g: ∀y,R y→Spec (k y) S P):Spec (TL.bnd (wCalm m) k) S P:=fun Q E q=>h _ _ fun y r=>g y r Q E q
theorem Spec.calm {m:W K α} (h:Spec m S P):Spec (wCalm m) S P:=fun Q E q=>h _ _ q
theorem Spec.ite {b:Bool} {m n:W K α} (h:b=true→Spec m S P) (g:b=false→Spec n S P):Spec (wIf b m n) S P:=by
  cases b with
  | true=>rw[if_t];exact h rfl
  | false=>rw[if_f];exact g rfl
theorem Spec.ass {c:Prop} {m:W K α} (hc:c) (h:Spec m S P):Spec (wAss c m) S P:=fun Q E q=>⟨hc,h Q E q⟩
theorem Spec.imp {m:W K α} {R:α→Prop} (h:Spec m S R) (g: ∀x,R x→P x):Spec m S P:=fun Q E q=>h Q E fun y r=>q y (g y r)
theorem Spec.ix {xs:List α} {i:Int} (h0:0≤i) (h:i<xs.length):Spec (wIx xs i) S (fun y=>y∈xs):=fun Q E q=>by
  have hi:i.toNat<xs.length:=by omega
  exact⟨h0,xs[i.toNat],List.getElem?_eq_getElem hi,q _ (List.getElem_mem _)⟩
def All2 (P:α→β→Prop):List α→List β→Prop
  | [],ys=>ys= []
  | x::xs,ys=> ∃y r,ys=y::r∧P x y∧All2 P xs r
theorem All2.len {P:α→β→Prop}: ∀ {xs:List α} {ys:List β},All2 P xs ys→ys.length=xs.length
  | [],_,h=>by cases h;rfl
  | _::_,_,⟨y,r,e,_,h⟩=>by subst e;rw[List.length_cons,List.length_cons,h.len]
theorem All2.mem {P:α→β→Prop} {y:β}: ∀ {xs:List α} {ys:List β},All2 P xs ys→y∈ys→ ∃x∈xs,P x y
  | [],_,h,m=>by cases h;simp at m
  | x::xs,_,⟨z,r,e,p,h⟩,m=>by
    subst e
    rcases List.mem_cons.mp m with rfl | m
    · exact⟨x,List.mem_cons_self,p⟩
    · obtain⟨x',m',p'⟩:=h.mem m
      exact⟨x',List.mem_cons_of_mem _ m',p'⟩
theorem All2.memL {P:α→β→Prop} {x:α}: ∀ {xs:List α} {ys:List β},All2 P xs ys→x∈xs→ ∃y∈ys,P x y
  | [],_,h,m=>by simp at m
  | z::xs,_,⟨y,r,e,p,h⟩,m=>by
    subst e
    rcases List.mem_cons.mp m with rfl | m
    · exact⟨y,List.mem_cons_self,p⟩
    · obtain⟨x',m',p'⟩:=h.memL m
      exact⟨x',List.mem_cons_of_mem _ m',p'⟩
theorem All2.map {P:α→β→Prop} {f:α→γ} {g:β→γ} (hf: ∀x y,P x y→f x=g y): ∀ {xs:List α} {ys:List β},All2 P xs ys→xs.map f=ys.map g
  | [],_,h=>by cases h;rfl
  | x::xs,_,⟨z,r,e,p,h⟩=>by rw[e,List.map_cons,List.map_cons,hf _ _ p,All2.map hf h]
theorem All2.of {P:α→β→Prop} {f:α→β}: ∀ {xs:List α},(∀x∈xs,P x (f x))→All2 P xs (xs.map f)
  | [],_=>rfl
  | x::xs,h=>⟨f x,xs.map f,rfl,h x List.mem_cons_self,All2.of fun y m=>h y (List.mem_cons_of_mem _ m)⟩
theorem All2.ofL {P:α→β→Prop} {g:β→α}: ∀ {ys:List β},(∀y∈ys,P (g y) y)→All2 P (ys.map g) ys
  | [],_=>rfl
  | y::ys,h=>⟨y,ys,rfl,h y List.mem_cons_self,All2.ofL fun z m=>h z (List.mem_cons_of_mem _ m)⟩
theorem All2.imp {P R:α→β→Prop} (hf: ∀x y,P x y→R x y): ∀ {xs:List α} {ys:List β},All2 P xs ys→All2 R xs ys
  | [],_,h=>h
  | x::xs,_,⟨z,r,e,p,h⟩=>⟨z,r,e,hf _ _ p,h.imp hf⟩
theorem All2.eqmap {P:α→β→Prop} {f:α→β} (hf: ∀x y,P x y→y=f x): ∀ {xs:List α} {ys:List β},All2 P xs ys→ys=xs.map f
  | [],_,h=>h
  | x::xs,_,⟨z,r,e,p,h⟩=>by rw[e,List.map_cons,← All2.eqmap hf h,← hf _ _ p]
theorem Spec.fmap {f:α→W K β} {P:α→β→Prop}: ∀ {xs:List α},(∀x∈xs,Spec (f x) S (P x))→Spec (fmapW nI (fun _=>TL.ret true) f xs) S (All2 P xs)
  | [],_=>fun Q E q=>⟨trivial,q _ rfl⟩
  | x::xs,h=>fun Q E q=>⟨trivial,by
    have ih:=Spec.fmap (xs:=xs) fun y m=>h y (List.mem_cons_of_mem _ m)
    rw[ret_bnd,if_t]
    exact h x List.mem_cons_self _ _ fun y p=>ih _ _ fun ys ps=>q _ ⟨y,ys,rfl,p,ps⟩⟩
theorem Spec.filt {c:α→W K Bool}: ∀ {xs:List α},(∀x∈xs,Spec (c x) S (fun _=>True))→Spec (fmapW nI c (fun x=>TL.ret x) xs) S (fun ys=>ys.Sublist xs)
  | [],_=>fun Q E q=>⟨trivial,q _ (List.Sublist.refl _)⟩
  | x::xs,h=>fun Q E q=>⟨trivial,by
    have ih:=Spec.filt (xs:=xs) fun y m=>h y (List.mem_cons_of_mem _ m)
    refine h x List.mem_cons_self _ _ fun b _=> ?_
    cases b with
    | true=>exact if_t (K:=K) _ _ ▸ ih _ _ fun ys ps=>q _ (ps.cons_cons _)
    | false=>exact if_f (K:=K) _ _ ▸ ih _ _ fun ys ps=>q _ (ps.cons _)⟩
def LQ (N:T→Store K→Prop) (Q:Flow T ρ→Store K→Prop):Flow T ρ→Store K→Prop
  | .nx s,S=>N s S
  | .bk s,S=>Q (.nx s) S
  | .rt y,S=>Q (.rt y) S
theorem for_ap {I:Store K→Prop} {f:α→T→W K (Flow T ρ)} {Q:Flow T ρ→Store K→Prop} (J:Nat→T→Store K→Prop) {xs:List α}
    (st: ∀i x s S N,xs[i]?=some x→J i s S→(∀s S,J (i+1) s S→N s S)→I S∧f x s (LQ N Q) E S)
    (en: ∀s S,J xs.length s S→I S∧Q (.nx s) S) {s:T} {S:Store K} (h0:J 0 s S):forW I f xs s Q E S:=by
  have go: ∀(zs:List α) (n:Nat),(∀i x,zs[i]?=some x→xs[n+i]?=some x)→n+zs.length=xs.length→ ∀s S,J n s S→forW I f zs s Q E S:=by
    intro zs
    induction zs with
    | nil=>intro n _ hn s S h;exact en s S (by rw[← hn];exact h)
    | cons z zs ih=>
      intro n hz hn s S h
      have hf:=st n z s S (fun s' S'=>forW I f zs s' Q E S') (hz 0 z rfl) h (fun s' S' g=>ih (n+1) (fun i x e=>by rw[show n+1+i=n+(i+1) by omega];exact hz (i+1) x (by simpa using e)) (by rw[List.length_cons] at hn;omega) s' S' g)
      refine⟨hf.1,?_⟩
      have e:(LQ (fun s' S'=>forW I f zs s' Q E S') Q)=(fun q S'=>match q with | .nx s'=>forW I f zs s' Q E S' | .bk s'=>Q (.nx s') S' | .rt y=>Q (.rt y) S'):=by
        funext q S';cases q <;> rfl
      have h2:=hf.2
      rw[e] at h2
      exact h2
  exact go xs 0 (fun i x e=>by rw[Nat.zero_add];exact e) (by omega) s S h0
theorem Spec.for {f:α→T→W K (Flow T ρ)} (J:Nat→T→Prop) {R:Flow T ρ→Prop} {xs:List α}
    (st: ∀i x s,xs[i]?=some x→J i s→Spec (f x s) S (fun q=>match q with | .nx s'=>J (i+1) s' | .bk s'=>R (.nx s') | .rt y=>R (.rt y)))
    (en: ∀s,J xs.length s→R (.nx s)) {s:T} (h0:J 0 s):Spec (forW nI f xs s) S R:=fun Q E q=>
  for_ap (fun i s S'=>S'=S∧J i s) (fun i x s S' N e ⟨hS,hJ⟩ hN=>⟨trivial,by
      subst hS
      refine st i x s e hJ _ _ fun y hy=> ?_
      cases y with
      | nx s'=>exact hN _ _ ⟨rfl,hy⟩
      | bk s'=>exact q _ hy
      | rt y=>exact q _ hy⟩) (fun s S' ⟨hS,hJ⟩=>⟨trivial,by subst hS;exact q _ (en s hJ)⟩) ⟨rfl,h0⟩
theorem Spec.try {m:W K α} {h:Err K→W K α} (g:Spec m S P):Spec (wTry m h) S P:=fun Q E q=>g _ _ q
theorem setF_ap {C a:Addr} {f:Str} {d:Dm K} {k:W K α} {fs:List (Str×Dm K)} (e:S a=some (.ins C fs)) (l:fs.length<1000) (h:k Q E (S.set a (.ins C (setF f d fs)))):wSetF C f a d k Q E S:=⟨fs,e,l,h⟩
theorem getF_ap {C a:Addr} {f:Str} {s:β→Dm K} {k:β→W K α} {fs:List (Str×Dm K)} {x:β} (e:S a=some (.ins C fs)) (l:fs.lookup f=some (s x)) (h:k x Q E S):(TL.bnd (wGetF C f s a) k) Q E S:=⟨fs,x,e,l,h⟩
theorem fmap_ap {I:Store K→Prop} {c:α→W K Bool} {f:α→W K β} {Q:List β→Store K→Prop} (J:Nat→List β→Store K→Prop) {xs:List α}
    (st: ∀i x ys S N,xs[i]?=some x→J i ys S→(∀zs S,J (i+1) zs S→N zs S)→I S∧(TL.bnd (c x) fun b=>wIf b (TL.bnd (f x) fun y=>TL.ret (ys++ [y])) (TL.ret ys)) N E S)
    (en: ∀ys S,J xs.length ys S→I S∧Q ys S) {S:Store K} (h0:J 0 [] S):fmapW I c f xs Q E S:=by
  have go: ∀(zs:List α) (n:Nat),(∀i x,zs[i]?=some x→xs[n+i]?=some x)→n+zs.length=xs.length→ ∀ys S,J n ys S→fmapW I c f zs (fun r S=>Q (ys++r) S) E S:=by
    intro zs
    induction zs with
    | nil=>intro n _ hn s S h;have:=en s S (by rw[← hn];exact h);exact⟨this.1,by show Q (s++ []) S;rw[List.append_nil];exact this.2⟩
    | cons z zs ih=>
      intro n hz hn ys S h
      have hf:=st n z ys S (fun ys' S'=>fmapW I c f zs (fun r S=>Q (ys'++r) S) E S') (hz 0 z rfl) h (fun s' S' g=>ih (n+1) (fun i x e=>by rw[show n+1+i=n+(i+1) by omega];exact hz (i+1) x (by simpa using e)) (by rw[List.length_cons] at hn;omega) s' S' g)
      refine⟨hf.1,?_⟩
      have h2:=hf.2
      have e:(fun b=>(wIf b (TL.bnd (f z) fun y=>TL.ret (ys++ [y])) (TL.ret ys)) (fun ys' S'=>fmapW I c f zs (fun r S=>Q (ys'++r) S) E S') E)=
          (fun b=>(wIf b (TL.bnd (f z) fun y=>TL.bnd (fmapW I c f zs) fun ys=>TL.ret (y::ys)) (fmapW I c f zs)) (fun r S=>Q (ys++r) S) E):=by
        funext b S'
        cases b with
        | true=>rw[if_t,if_t];show f z _ E S'=f z _ E S';congr 1;funext y S2;show fmapW I c f zs _ E S2=fmapW I c f zs _ E S2;congr 1;funext r S3;show Q _ S3=Q _ S3;rw[List.append_assoc];rfl
        | false=>rw[if_f,if_f];rfl
      have h3:c z (fun b=>(wIf b (TL.bnd (f z) fun y=>TL.ret (ys++ [y])) (TL.ret ys)) (fun ys' S'=>fmapW I c f zs (fun r S=>Q (ys'++r) S) E S') E) E S:=h2
      rw[e] at h3
      exact h3
  exact go xs 0 (fun i x e=>by rw[Nat.zero_add];exact e) (by omega) [] S h0
theorem fmap_I {I:Store K→Prop} {f:α→W K β} {f':α→β} {Q:List β→Store K→Prop} (hI:I S): ∀ {xs:List α} {ys:List β},(∀x∈xs,f x=TL.ret (f' x))→Q (ys++xs.map f') S→fmapW I (fun _=>TL.ret true) f xs (fun r S=>Q (ys++r) S) E S
  | [],ys,_,q=>⟨hI,q⟩
  | x::xs,ys,g,q=>by
    have ih:=fmap_I (xs:=xs) (ys:=ys++ [f' x]) hI (fun y m=>g y (List.mem_cons_of_mem _ m)) (by rw[List.append_assoc];exact q)
    refine⟨hI,?_⟩
    rw[ret_bnd,if_t,g x List.mem_cons_self,ret_bnd]
    show fmapW I _ f xs (fun r S=>Q (ys++(f' x::r)) S) E S
    have e:(fun r S=>Q (ys++(f' x::r)) S)=(fun r S=>Q ((ys++ [f' x])++r) S):=by
      funext r S';rw[List.append_assoc];rfl
    rw[e];exact ih
theorem fmap_stay {I:Store K→Prop} {f:α→W K β} (f':α→β) {Q:List β→Store K→Prop} {xs:List α} (hI:I S) (g: ∀x∈xs,f x=TL.ret (f' x)) (q:Q (xs.map f') S):fmapW I (fun _=>TL.ret true) f xs Q E S:=
  fmap_I (Q:=Q) (ys:= []) hI g q
theorem mkfrz {C:Addr} {τ:Type} {w:Addr×τ→W K Unit} {fs:α→List (Str×Dm K)} {x:τ}
    (h: ∀a,S a=none→w (a,x) (fun _ S'=> ∃y,S' a=some (.ins C (fs y))∧Q y (S'.del a)) (fun e S'=>E e (S'.del a)) (S.set a (.ins C []))):(TL.bnd (wMk C w x) (wFrz C fs)) Q E S:=h
theorem while_ap {c:T→W K Bool} {f:T→W K (Flow T ρ)} {Q:Flow T ρ→Store K→Prop} {s0:T} {S0:Store K} (I:Nat→T→Store K→Prop) (n:Nat) (h0:I n s0 S0)
    (st: ∀n s S,I n s S→ ∃b,(∀R:Bool→Store K→Prop,R b S→c s R E S)∧(b=true→ ∀N:T→Store K→Prop,(∀s' S' n',n'<n→I n' s' S'→N s' S')→f s (LQ N Q) E S)∧(b=false→Q (.nx s) S)):whileW c f s0 Q E S0:=by
  refine⟨I,⟨n,h0⟩,fun n s S h=> ?_⟩
  obtain⟨b,h1,h2,h3⟩:=st n s S h
  refine h1 _ ?_
  cases b with
  | true=>
    show f s _ E S
    have e:(LQ (fun s' S'=> ∃n',n'<n∧I n' s' S') Q)=(fun q S'=>match q with | .nx s'=> ∃n',n'<n∧I n' s' S' | .bk s'=>Q (.nx s') S' | .rt y=>Q (.rt y) S'):=by
      funext q S';cases q <;> rfl
    exact e ▸ h2 rfl _ fun s' S' n' l i=>⟨n',l,i⟩
  | false=>exact h3 rfl
theorem while_eq {b:T→Bool} {g:T→T} {f:T→W K (Flow T ρ)} {Q:Flow T ρ→Store K→Prop} (J:T→Prop) (μ:T→Nat) (hf: ∀s,J s→b s=true→f s=ret (.nx (g s))∧J (g s)∧μ (g s)<μ s) {s0:T} {S0:Store K} (h0:J s0)
    (q: ∀s,J s→b s=false→Q (.nx s) S0):whileW (fun s=>ret (b s)) f s0 Q E S0:=
  while_ap (fun n s S=>S=S0∧J s∧n=μ s) (μ s0) ⟨rfl,h0,rfl⟩ fun n s S ⟨hS,hJ,hn⟩=>⟨b s,fun R r=>r,fun hb N hN=>by
    obtain⟨e,j,l⟩:=hf s hJ hb
    rw[e]
    exact hN _ _ _ (by omega) ⟨hS,j,rfl⟩,fun hb=>hS ▸ q s hJ hb⟩
theorem mk_ap {C:Addr} {τ:Type} {w:Addr×τ→W K Unit} {k:Addr→W K α} {x:τ}
    (h: ∀a,S a=none→w (a,x) (fun _ S'=>k a Q E S') (fun e S'=>E e (S'.del a)) (S.set a (.ins C []))):(TL.bnd (wMk C w x) k) Q E S:=h
theorem new_ap {c:Cell K} {k:Addr→W K α} (h: ∀a,S a=none→k a Q E (S.set a c)):(TL.bnd (wNew c) k) Q E S:=h
theorem thaw_ap {r:β→Dm K} {xs:List β} {k:Addr→W K α} (h: ∀a,S a=none→k a Q E (S.set a (.lst (xs.map r)))):(TL.bnd (wThaw r xs) k) Q E S:=h
theorem has_ap {a:Addr} {k:Key} {es:List (Key×Dm K)} {Q:Bool→Store K→Prop} (e:S a=some (.dic es)) (h:Q (valK es k).isSome S):wHas a k Q E S:=⟨es,e,h⟩
theorem getK_ap {a:Addr} {k:Key} {r:β→Dm K} {c:β→W K α} {es:List (Key×Dm K)} {x:β} (e:S a=some (.dic es)) (g:valK es k=some (r x)) (h:c x Q E S):(TL.bnd (wGetK r a k) c) Q E S:=⟨es,x,e,g,h⟩
theorem putK_ap {a:Addr} {k:Key} {d:Dm K} {c:W K α} {es:List (Key×Dm K)} (e:S a=some (.dic es)) (l:es.length<50000) (h:c Q E (S.set a (.dic (putD es k d)))):wPutK a k d c Q E S:=⟨es,e,l,h⟩
theorem setI_ap {a:Addr} {i:Int} {d:Dm K} {c:W K α} {ds:List (Dm K)} (e:S a=some (.lst ds)) (h0:0≤i) (h1:i<ds.length) (h:c Q E (S.set a (.lst (ds.set i.toNat d)))):wSetI a i d c Q E S:=⟨ds,e,h0,h1,h⟩
theorem pk_ap {a:Addr} {r:β→Dm K} {c:List β→W K α} {xs:List β} (e:S a=some (.lst (xs.map r))) (h:c xs Q E S):wPk r a c Q E S:=⟨xs,e,h⟩
theorem valK_put [DecidableEq γ] {es:List (γ×Dm K)} {k j:γ} {d:Dm K}:valK (putD es k d) j=if j=k then some d else valK es j:=by
  have hm: ∀(es:List (γ×Dm K)) ,valK (es.map fun e=>if e.1=k then (e.1,d) else e) j=if j=k then (if (es.any fun e=>decide (e.1=k))=true then some d else none) else valK es j:=by
    intro es
    induction es with
    | nil=>unfold valK;simp
    | cons x es ih=>
      unfold valK at ih ⊢
      rw[List.map_cons,List.find?_cons,List.find?_cons,List.any_cons]
      by_cases a:x.1=k
      · by_cases b:j=k
        · subst b;simp[a]
        · have c: ¬ k=j:=fun z=>b z.symm
          simp only[a,c,b,decide_true,decide_false,if_true,if_false,ite_true,ite_false] at ih ⊢
          simpa [b] using ih
      · by_cases b:j=k
        · subst b;simp only[a,decide_false,if_false,ite_false,Bool.false_or] at ih ⊢;simpa [a] using ih
        · by_cases c:x.1=j
          · simp[a,b,c]
          · simp only[a,c,decide_false,if_false,ite_false] at ih ⊢;simpa [b,a,c] using ih
  unfold putD
  split
  · next h=>rw[hm,if_pos h]
  · next h=>
    have hn:valK es k=none:=by
      unfold valK
      rw[Option.map_eq_none_iff,List.find?_eq_none]
      intro x hx hk
      exact h (List.any_eq_true.mpr ⟨x,hx,hk⟩)
    unfold valK at hn ⊢
    rw[List.find?_append]
    by_cases b:j=k
    · subst b
      rw[Option.map_eq_none_iff] at hn
      simp[hn]
    · have c: ¬ k=j:=fun z=>b z.symm
      simp[b,c]
theorem putD_len {es:List (Key×Dm K)} {k:Key} {d:Dm K}:(putD es k d).length≤es.length+1:=by
  unfold putD;split <;> simp
def Ext (S S':Store K):Prop:= ∀p c,S p=some c→S' p=some c
theorem Ext.refl:Ext S S:=fun _ _ h=>h
theorem Ext.trans {S1 S2:Store K} (a:Ext S S1) (b:Ext S1 S2):Ext S S2:=fun p c h=>b p c (a p c h)
theorem Ext.set {a:Addr} {c:Cell K} (h:S a=none):Ext S (S.set a c):=fun p d e=>by
  rw[set_ne (fun z=>by rw[z,h] at e;cases e)];exact e
theorem Ext.over {S1:Store K} {a:Addr} {c:Cell K} (x:Ext S S1) (h:S a=none):Ext S (S1.set a c):=fun p d e=>by
  rw[set_ne (fun z=>by rw[z,h] at e;cases e)];exact x p d e
theorem Ext.del {S1:Store K} {a:Addr} (x:Ext S S1) (h:S a=none):Ext S (S1.del a):=fun p d e=>by
  rw[del_ne (fun z=>by rw[z,h] at e;cases e)];exact x p d e
def SpecX (m:W K α) (S:Store K) (P:α→Prop):Prop:= ∀Q E,(∀y S',Ext S S'→P y→Q y S')→m Q E S
theorem Spec.x {m:W K α} (h:Spec m S P):SpecX m S P:=fun Q E q=>h _ _ fun y r=>q y S Ext.refl r
theorem SpecX.ap {m:W K β} {k:β→W K α} {P:β→Prop} (h:SpecX m S P) (g: ∀y S',Ext S S'→P y→k y Q E S'):(TL.bnd m k) Q E S:=h _ _ g
theorem SpecX.apc {m:W K β} {k:β→W K α} {P:β→Prop} (h:SpecX m S P) (g: ∀y S',Ext S S'→P y→k y Q E S'):(TL.bnd (wCalm m) k) Q E S:=h _ _ g
theorem SpecX.ret {x:α} (h:P x):SpecX (TL.ret x) S P:=fun Q E q=>q x S Ext.refl h
theorem SpecX.bnd {m:W K β} {k:β→W K α} {R:β→Prop} (h:SpecX m S R) (g: ∀y S',Ext S S'→R y→SpecX (k y) S' P):SpecX (TL.bnd m k) S P:=fun Q E q=>h _ _ fun y S' x r=>g y S' x r Q E fun z S2 x2 p=>q z S2 (x.trans x2) p
theorem SpecX.bndc {m:W K β} {k:β→W K α} {R:β→Prop} (h:SpecX m S R) (g: ∀y S',Ext S S'→R y→SpecX (k y) S' P):SpecX (TL.bnd (wCalm m) k) S P:=fun Q E q=>h _ _ fun y S' x r=>g y S' x r Q E fun z S2 x2 p=>q z S2 (x.trans x2) p
theorem SpecX.sb {m:W K β} {k:β→W K α} {R:β→Prop} (h:Spec m S R) (g: ∀y,R y→SpecX (k y) S P):SpecX (TL.bnd m k) S P:=fun Q E q=>h _ _ fun y r=>g y r Q E q
theorem SpecX.sbc {m:W K β} {k:β→W K α} {R:β→Prop} (h:Spec m S R) (g: ∀y,R y→SpecX (k y) S P):SpecX (TL.bnd (wCalm m) k) S P:=fun Q E q=>h _ _ fun y r=>g y r Q E q
theorem SpecX.calm {m:W K α} (h:SpecX m S P):SpecX (wCalm m) S P:=fun Q E q=>h _ _ q
theorem SpecX.ite {b:Bool} {m n:W K α} (h:b=true→SpecX m S P) (g:b=false→SpecX n S P):SpecX (wIf b m n) S P:=by
  cases b with
  | true=>rw[if_t];exact h rfl
  | false=>rw[if_f];exact g rfl
theorem SpecX.ass {c:Prop} {m:W K α} (hc:c) (h:SpecX m S P):SpecX (wAss c m) S P:=fun Q E q=>⟨hc,h Q E q⟩
theorem SpecX.imp {m:W K α} {R:α→Prop} (h:SpecX m S R) (g: ∀x,R x→P x):SpecX m S P:=fun Q E q=>h Q E fun y S' x r=>q y S' x (g y r)
theorem SpecX.fmap {f:α→W K β} {P:α→β→Prop}: ∀ {xs:List α} {S:Store K},(∀x∈xs,∀S',Ext S S'→SpecX (f x) S' (P x))→SpecX (fmapW nI (fun _=>TL.ret true) f xs) S (All2 P xs)
  | [],S,_=>fun Q E q=>⟨trivial,q _ _ Ext.refl rfl⟩
  | x::xs,S,h=>fun Q E q=>⟨trivial,by
    rw[ret_bnd,if_t]
    exact h x List.mem_cons_self S Ext.refl _ _ fun y S1 x1 p=>SpecX.fmap (fun z m S2 x2=>h z (List.mem_cons_of_mem _ m) S2 (x1.trans x2)) _ _ fun ys S3 x3 ps=>q _ S3 (x1.trans x3) ⟨y,ys,rfl,p,ps⟩⟩
theorem SpecX.for {f:α→T→W K (Flow T ρ)} (J:Nat→T→Prop) {R:Flow T ρ→Prop} {xs:List α}
    (st: ∀i x s S',xs[i]?=some x→Ext S S'→J i s→SpecX (f x s) S' (fun q=>match q with | .nx s'=>J (i+1) s' | .bk s'=>R (.nx s') | .rt y=>R (.rt y)))
    (en: ∀s,J xs.length s→R (.nx s)) {s:T} (h0:J 0 s):SpecX (forW nI f xs s) S R:=fun Q E q=>
  for_ap (fun i s S'=>Ext S S'∧J i s) (fun i x s S' N e ⟨hS,hJ⟩ hN=>⟨trivial,by
      refine st i x s S' e hS hJ _ _ fun y S2 x2 hy=> ?_
      cases y with
      | nx s'=>exact hN _ _ ⟨hS.trans x2,hy⟩
      | bk s'=>exact q _ _ (hS.trans x2) hy
      | rt y=>exact q _ _ (hS.trans x2) hy⟩) (fun s S' ⟨hS,hJ⟩=>⟨trivial,q _ _ hS (en s hJ)⟩) ⟨Ext.refl,h0⟩
theorem mkfrzX {C:Addr} {τ:Type} {w:Addr×τ→W K Unit} {fs:β→List (Str×Dm K)} {x:τ} {R:β→Prop}
    (h: ∀a Q E,S a=none→(∀y S',Ext (S.set a (.ins C [])) S'→R y→Q () (S'.set a (.ins C (fs y))))→w (a,x) Q E (S.set a (.ins C []))):SpecX (TL.bnd (wMk C w x) (wFrz C fs)) S R:=fun Q E q=>
  mkfrz fun a ha=>h a _ _ ha fun y S' e r=>⟨y,set_same,by
    rw[set_del];exact q y _ (((Ext.set ha).trans e).del ha) r⟩
theorem seqD_is {d:PyData} {ds:List PyData} (h:seqD d=some ds):(isD d "list" || isD d "tuple")=true:=by
  cases d <;> first | rfl | cases h
end
def Shp (n:Nat) (d:PyData):Prop:=d.canLay0=true∧d.depth≤n
theorem Shp.shaped {n:Nat} {d:PyData} (h:Shp n d) (hn:n≤64):SeqAt.shaped d=true:=by
  unfold SeqAt.shaped
  rw[h.1,decide_eq_true (Nat.le_trans h.2 hn)];rfl
theorem shp_int {i:Int} {n:Nat}:Shp n (.int i):=⟨by simp[PyData.canLay0],by simp[PyData.depth]⟩
theorem shp_all {n:Nat}: ∀ {ds:List PyData},(∀d∈ds,Shp n d)→PyData.canLayAll0 ds=true∧PyData.depthAll ds≤n
  | [],_=>⟨by simp[PyData.canLayAll0],by simp[PyData.depthAll]⟩
  | d::ds,h=>by
    have h1:=h d List.mem_cons_self
    have h2:=shp_all (ds:=ds) fun e m=>h e (List.mem_cons_of_mem _ m)
    exact⟨by simp[PyData.canLayAll0,h1.1,h2.1],by simp only[PyData.depthAll];exact Nat.max_le.mpr ⟨h1.2,h2.2⟩⟩
theorem shp_lst {n:Nat} {ds:List PyData} (h: ∀d∈ds,Shp n d):Shp (n+1) (.list ds):=
  ⟨by simp[PyData.canLay0,(shp_all h).1],by simp only[PyData.depth];exact Nat.succ_le_succ (shp_all h).2⟩
theorem shp_ints (ns:List Int):Shp 1 (.list (ns.map .int)):=shp_lst fun d h=>by obtain⟨_,_,rfl⟩:=List.mem_map.mp h;exact shp_int
theorem shp_lmap {α:Type} {n:Nat} {f:α→PyData} {xs:List α} (h: ∀x,Shp n (f x)):Shp (n+1) (.list (xs.map f)):=shp_lst fun d m=>by obtain⟨x,_,rfl⟩:=List.mem_map.mp m;exact h x
def EqC {α:Type} [DecidableEq α] (f:α→PyData):Prop:= ∀a b,PyData.eqv (f a) (f b)=decide (a=b)
theorem eqc_int:EqC PyData.int:=fun a b=>by simp[PyData.eqv];rfl
theorem eqc_all {α:Type} [DecidableEq α] {f:α→PyData} (h:EqC f): ∀xs ys:List α,PyData.eqvAll (xs.map f) (ys.map f)=decide (xs=ys)
  | [],[]=>by simp[PyData.eqvAll]
  | [],_::_=>by simp[PyData.eqvAll]
  | _::_,[]=>by simp[PyData.eqvAll]
  | x::xs,y::ys=>by
    simp only[List.map_cons,PyData.eqvAll,h x y,eqc_all h xs ys,List.cons.injEq]
    by_cases a:x=y <;> by_cases b:xs=ys <;> simp[a,b]
theorem eqc_lst {α:Type} [DecidableEq α] {f:α→PyData} (h:EqC f):EqC fun xs:List α=> .list (xs.map f):=fun a b=>by simp only[PyData.eqv];exact eqc_all h a b
section
variable {X : Cx} {K : PySem.W.Frag} {T ρ : Type}
end
end TL

set_option Elab.async false
set_option linter.all false
set_option maxRecDepth 100000
set_option maxHeartbeats 2000000
namespace PC
open PySem PySem.SeqAt PySem.Spec PyProof.Rows L2
open AutoSeq1 (wpAny_loadPart')
open MeetsSeq MeetsSeq2 MeetsSeq3 SeqRoads2
section
variable {prog : Program} {w : World} {A : Around} {R : Result → Shared → Prop}
end
end PC
namespace PC
open PySem PySem.Spec PyProof.Rows L2
section
variable {X : Cx} {k : Nat} {f C : Addr} {fd : FuncData} {ps : List Str} {sp : Sp}
end
end PC
namespace TL
open PySem PySem.Spec PyProof.Rows L2 PC
section
variable {K : PySem.W.Frag} {α : Type}
end
end TL
namespace PC
open PySem PySem.Spec PyProof.Rows L2
end PC
namespace TL
open PySem PySem.Spec PyProof.Rows L2 PC
section
variable {K : PySem.W.Frag} {ε : WX} {G : Gm K}
end
end TL
namespace TL
open PySem PySem.Spec PyProof.Rows L2 PC
end TL
namespace PC
open PySem PySem.Spec PyProof.Rows L2
end PC
namespace TL
open PySem PySem.Spec PyProof.Rows L2 PC
section
variable {K : PySem.W.Frag} {α : Type}
end
end TL
namespace TL
open PySem PySem.Spec PyProof.Rows L2 PC
section
variable {K : PySem.W.Frag} {α β : Type} {S : Store K} {Q : α → Store K → Prop} {E : Err K → Store K → Prop}
theorem app_ap {a:Addr} {r:β→Dm K} {xs:List β} {x:β} {k:W K α} (e:S a=some (.lst (xs.map r))) (l:xs.length<50000) (h:k Q E (S.set a (.lst ((xs++ [x]).map r)))):(wApp a (r x) k) Q E S:=
  ⟨_,e,by rw[List.length_map];exact l,by rw[List.map_append] at h;exact h⟩
end
end TL
namespace TL
open PySem PySem.Spec PyProof.Rows L2 PC
section
variable {K : PySem.W.Frag} {α : Type} {ε : WX} {G : Gm K}
def wSome (o:Option α):W K α:=fun Q _ S=> ∃y,o=some y∧Q y S
theorem some_bnd {β:Type} (y:α) (k:α→W K β):bnd (wSome (some y)) k=k y:=by
  funext Q E S
  exact propext ⟨fun⟨_,e,h⟩=>by cases e;exact h,fun h=>⟨y,rfl,h⟩⟩
end
end TL
namespace TL
open PySem PySem.Spec PyProof.Rows L2 PC
section
variable {K : PySem.W.Frag} {α : Type}
theorem isi_lstT {H:Hp} {a b:Addr} {vs:List V} {Q:VK} (e:H a=some (.lst vs)) (hT:H b=some (.tup [.ty "list",.ty "tuple"])) (q:Q (.bl true) H):rIsiT K [.ref a,.ref b] H Q:=by
  refine⟨_,b,_,.type "list",[.type "list",.type "tuple"],true,rfl,hT,.cons (.ty _) (.cons (.ty _) .nil),.base (.lst e),?_,q⟩
  have k1:=kit_ty (K:=K) (kit_isD (.list []) (T:= "list") (by simp))
  have k2:isD (.list []) "list" =true:=rfl
  rw[k2] at k1
  unfold PySem.W.kitAny
  have k3:PySem.W.kitOne K (.type "list") (.type "list")=some true:=k1
  rw[k3]
end
end TL
namespace TL
open PySem PySem.Spec PyProof.Rows L2 PC
section
variable {K : PySem.W.Frag} {α : Type} {S : Store K}
end
end TL

set_option Elab.async false
set_option linter.all false
set_option maxRecDepth 100000
set_option maxHeartbeats 2000000
namespace PC
open PySem PySem.Spec PyProof.Rows L2
section
variable {prog : Program} {w : World} {A : Around} {E : Value → Shared → Prop} {s : Shared}
end
end PC

namespace TL
open PySem PySem.Spec PyProof.Rows L2 PC
section
variable {K : PySem.W.Frag} {ε : WX} {G : Gm K} {α β : Type}
end
end TL

namespace PC
open PySem PySem.Spec PyProof.Rows L2
section
variable {X : Cx} {pos p2 : Pos}
end
end PC
namespace TL
open PySem PySem.Spec PyProof.Rows L2 PC
section
variable {K : PySem.W.Frag} {ε : WX} {G : Gm K} {α β : Type}
end
end TL
namespace TL
open PySem PySem.Spec PyProof.Rows L2 PC
section
variable {K : PySem.W.Frag} {ε : WX} {G : Gm K} {α β : Type}
theorem Wd.same {S:Store K} {F:Pl} {H H':Hp} (w:Wd S F H) (s:Same H H'):Nxt S F H S H':=by
  refine⟨⟨fun b o _ e=>s b o e,fun _ z=> .inl z,fun b z=> ?_⟩,⟨?_,fun a c e=>(w.cell a c e).up (Stp.same s) (fun o q=>s a o q),fun a z=>(w.foc a z).keep fun o q=>s a o q,w.dis⟩⟩
  · cases e:H b with
    | none=>exact absurd e z
    | some o=>rw[s b o e];exact nofun
  · obtain⟨o,u,e⟩:=w.one
    exact⟨o,u,s _ _ e⟩
end
end TL
namespace TL
open PySem PySem.Spec PyProof.Rows L2 PC
section
variable {K : PySem.W.Frag}
end
end TL
namespace TL
open PySem PySem.Spec PyProof.Rows L2 PC
section
variable {K : PySem.W.Frag} {ε : WX} {G : Gm K} {α β : Type}
end
end TL
namespace TL
open PySem PySem.Spec PyProof.Rows L2 PC
section
variable {K : PySem.W.Frag} {ε : WX} {G : Gm K} {α β γ : Type}
def kX (r:α→Dm K):List α→Dm K:=fun xs=>dP (xs.map r)
theorem co_XT {r:α→Dm K}:Co (kX r) (kT r) id:=fun _ _ _ _ h=>dP_dT h
theorem cb_tupleLX {r:α→Dm K}:CalB K (rTuple K) (fun x:List α×Unit=> [kL r x.1]) (kX r) (fun x=>ret x.1):=by
  intro S F H x vs Q Qp Ep wd h hf hQ
  obtain⟨v,rfl,⟨a,xs,rfl,n,s,l⟩⟩:=at1 h
  exact⟨a,xs,rfl,.inl ⟨.inl (.inl s),new_tup wd l fun H' v r' h=>hQ _ S H' v hf r' h⟩⟩
end
section
variable {K : PySem.W.Frag} {ε : WX} {G : Gm K} {α β : Type} {T ρ : Type} {Gh : Option (Gm K)} {Gof : T → Gm K} {rr : ρ → Dm K} {ts : List TS} {te to ti : TE} {r : α → Dm K} {rk : β → Dm K} {m : W K α} {mo : W K Addr} {mi : W K β} {k : W K (Flow T ρ)}
end
section
variable {K : PySem.W.Frag} {α β γ : Type} {S : Store K} {E : Err K → Store K → Prop}
theorem putT_out (a:Addr) (i:List Key) (d:Dm K) (k:W K (Flow Unit α)) (l:Option α):outW (wPutT a i d k) l=wPutT a i d (outW k l):=id rfl
end
end TL
namespace TL
open PySem PySem.Spec PyProof.Rows L2 PC
section
variable {K : PySem.W.Frag}
end
end TL

set_option Elab.async false
set_option linter.all false
set_option maxRecDepth 100000
set_option maxHeartbeats 2000000
namespace TL
open PySem PySem.Spec PyProof.Rows L2 PC
section
variable {K : PySem.W.Frag} {ε : WX} {G : Gm K} {α β γ τ : Type} {S : Store K}
theorem sim_dnewP:Sim ε G tDNewK kPy (ret (PyData.dict [])):=by
  intro S F σ H Q Qp Ep w s hm hQ hE d hd
  refine hQ _ S _ _ hm (w.new hd) ?_
  show DatP K _ _ (.dict []) _
  simp only[DatP]
  exact⟨d,[],rfl,w.free hd,upd_same,by simp only[DatPK]⟩
def wIsE (e:Err K) (u:Value):W K Bool:=fun Q _ S=>ErrQ K e.1∧ClsQ K∧ ∃b,PySem.W.kitOne K (.ref e.1) u=some b∧Q b S
def wIsGo (e:Err K):List Value→W K Bool
  | []=>ret false
  | u::us=>bnd (wIsE e u) fun b=>wIf b (ret true) (wIsGo e us)
def wIsEs (e:Err K) (us:List Value):W K Bool:=fun Q E S=>ErrQ K e.1∧ClsQ K∧wIsGo e us Q E S
theorem isE_of {C:Addr} {fs:List (Str×Dm K)} {u:Value} {b:Bool} (q:ErrQ K C) (c:ClsQ K) (h:PySem.W.kitOne K (.ref C) u=some b):wIsE (C,fs) u=ret b:=by
  funext Q E S
  refine propext ⟨fun⟨_,_,b',hb,hQ⟩=> ?_,fun hQ=>⟨q,c,b,h,hQ⟩⟩
  have:b'=b:=by
    have e:some b'=some b:=hb.symm.trans h
    exact Option.some.inj e
  subst this;exact hQ
theorem isEs_of {C:Addr} {fs:List (Str×Dm K)} {us:List Value} (q:ErrQ K C) (c:ClsQ K):wIsEs (C,fs) us=wIsGo (C,fs) us:=by
  funext Q E S
  exact propext ⟨fun h=>h.2.2,fun h=>⟨q,c,h⟩⟩
theorem isGo_nil {e:Err K}:wIsGo e []=ret false:=id rfl
theorem isGo_cons {e:Err K} {u:Value} {us:List Value}:wIsGo e (u::us)=bnd (wIsE e u) fun b=>wIf b (ret true) (wIsGo e us):=id rfl
theorem catch_y {C D:Addr} {fs:List (Str×Dm K)} {h n:Err K→W K α} (e:PySem.W.exmOne K (.ref C) (.ref D)=some true):wCatch D h n (C,fs)=h (C,fs):=by
  funext Q E S
  refine propext ⟨fun⟨b,hb,h1,_⟩=> ?_,fun hh=>⟨true,e,fun _=>hh,fun z=>nomatch z⟩⟩
  have:b=true:=Option.some.inj ((show some b=some true from hb.symm.trans e))
  exact h1 this
theorem catch_n {C D:Addr} {fs:List (Str×Dm K)} {h n:Err K→W K α} (e:PySem.W.exmOne K (.ref C) (.ref D)=some false):wCatch D h n (C,fs)=n (C,fs):=by
  funext Q E S
  refine propext ⟨fun⟨b,hb,_,h1⟩=> ?_,fun hh=>⟨false,e,fun z=>(nomatch z),fun _=>hh⟩⟩
  have:b=false:=Option.some.inj ((show some b=some false from hb.symm.trans e))
  exact h1 this
end
end TL

set_option Elab.async false
set_option linter.all false
set_option maxRecDepth 100000
set_option maxHeartbeats 2000000
namespace PC
open PySem PySem.Spec PyProof.Rows L2

section
variable {M : Model} {A : Around} {E : Value → Shared → Prop} {s : Shared}
end

section
variable {M : Model} {A : Around} {E : Value → Shared → Prop} {s : Shared} {Z : Obj → Prop} {B : Heap} {env : Env} {outer : List Env} {L C a : Addr}
end

section
variable {X : Cx} {σ : L2.St} {H : Hp} {s : Shared}
end
end PC

namespace TL
open PySem PySem.Spec PyProof.Rows L2 PC
section
variable {K : PySem.W.Frag} {ε : WX} {G : Gm K} {α β γ τ : Type}
end
end TL

set_option Elab.async false
set_option linter.all false
set_option maxRecDepth 100000
set_option maxHeartbeats 2000000
namespace PC
open PySem PySem.Spec PyProof.Rows L2

section
variable {M : Model} {A : Around} {E : Value → Shared → Prop} {s : Shared} {K : PySem.W.Frag} {x C f : Addr} {ox : Obj} {od : Option Obj}
end

section
variable {H : Hp} {a : Addr}
end
section
variable {X : Cx} {k : Nat} {f C : Addr} {fd : FuncData} {p : Str} {sp : Sp}
structure LoopAt (X:Cx) (A:Around) (base:Heap) (a:Addr):Prop where
  fr:A.frames=some X.stack
  gd:GOkA X.K A base
  mod:Mod X.K X.mg base
  at_: ∃o,base.get? a=some o
  na:X.K.lookup a=none
  sub: ∀b o,base.get? b=some o→X.base.get? b=some o∨b=a
end
section
variable {X : Cx} {k : Nat} {f C : Addr} {fd : FuncData} {p : Str} {sp : Sp} {pins : List (Addr × Obj)} {σ : L2.St} {H : Hp} {s : Shared} {a : Addr} {vs : List V}
end
end PC

namespace TL
open PySem PySem.Spec PyProof.Rows L2 PC
section
variable {K : PySem.W.Frag} {α : Type} {H : Hp} {a : Addr}
variable {S : Store K} {E : Err K → Store K → Prop}
variable {ε : WX} {G : Gm K} {β : Type}
def wClr {K:PySem.W.Frag} {α:Type} (a:Addr) (k:W K α):W K α:=fun Q E S=>(∃ds,S a=some (.lst ds))∧k Q E (S.set a (.lst []))
theorem sim_clear {to:TE} {mo:W K Addr} (o:Sim ε G to kRef mo):
    Sim ε G (tBM K "list" rClear to tNil) kN (bnd mo fun a=>wRcv (IsLst a) (wClr a (ret ()))):=by
  intro S F σ H Q Qp Ep w st hm hQ hE
  refine o S F σ H _ _ Ep w st hm (fun a S1 H1 v hx h1 hv=> ?_) hE
  obtain⟨⟨ds0,ea0⟩,⟨ds,ea⟩,hf⟩:=hx
  cases (show v= .ref a from hv)
  obtain⟨vs,e1,l⟩:=h1.wd.cell _ _ ea
  refine⟨ty_lst e1,a,vs,rfl,rfl,e1,?_⟩
  have nx:Nxt S1 F H1 (S1.set a (.lst [])) (upd H1 a (.lst [])):=h1.wd.putS ea ⟨_,upd_same,rfl⟩
  exact hQ () _ _ _ hf (h1.trans nx) mk_non
theorem clr_ap {S:Store K} {a:Addr} {ds:List (Dm K)} {k:W K α} {Q:α→Store K→Prop} {E:Err K→Store K→Prop} (e:S a=some (.lst ds)) (h:k Q E (S.set a (.lst []))):wClr a k Q E S:=⟨⟨ds,e⟩,h⟩
end
end TL

set_option Elab.async false
set_option linter.all false
set_option maxRecDepth 100000
set_option maxHeartbeats 2000000
namespace PC
open PySem PySem.Spec PyProof.Rows PySem.SeqAt L2
open AutoSeq1 (wpAny_loadPart')
section
variable {M : Model} {A : Around} {E : Value → Shared → Prop} {s : Shared} {K : PySem.W.Frag} {x C f : Addr} {ox : Obj} {od : Option Obj}
theorem isNot_own {T:String} {Q:Bool→Shared→Prop} (X:K.In s.heap) (I:PySem.W.InstAt s.heap x ox C od) (e:PySem.W.subIn K (.ref C) (.type T)=some false) (h:Q false s):wpAny M A (isInstance (.ref x) (.type T)) Q E s:=by
  unfold isInstance
  exact wpAny_bind (I.type.here ((PySem.W.looks_subIn X e).here h))
end
section
variable {K : PySem.W.Frag} {x C f dx : Addr}
def OwnNo (K:PySem.W.Frag) (x C dx:Addr) (T:String) (s:Shared):Prop:=K.In s.heap∧s.heap.get? x=some (PySem.W.instObj C dx)∧(∃od,PySem.W.InstAt s.heap x (PySem.W.instObj C dx) C od)∧PySem.W.subIn K (.ref C) (.type T)=some false
theorem list_no (l:Addr) (items:Array Value) (n:Nat) (dd:Option Addr) (sl:Array (Option Value)):
    Meets (Builtin.«list.__eq__» ⟨[.ref l,.ref x],[]⟩) (fun _ R s=>OwnNo K x C dx "list" s∧s.heap.get? l=some { cls:= .type "list",dict:=dd,data:= .seq items n,slots:=sl }∧R (.ok (.ret .notImplemented)) s):=
  .of_wp fun prog w A R s h=>by
    obtain⟨⟨X,ho,⟨od,I⟩,e⟩,hl,h⟩:=h
    obtain⟨hp,g,d,tk,os⟩:=s
    wp_walk using wpAny_loadPart' hl,isNot_own X I e
    exact⟨_,rfl,h⟩
theorem tuple_no (l:Addr) (items:Array Value) (n:Nat) (dd:Option Addr) (sl:Array (Option Value)):
    Meets (Builtin.«tuple.__eq__» ⟨[.ref l,.ref x],[]⟩) (fun _ R s=>OwnNo K x C dx "tuple" s∧s.heap.get? l=some { cls:= .type "tuple",dict:=dd,data:= .seq items n,slots:=sl }∧R (.ok (.ret .notImplemented)) s):=
  .of_wp fun prog w A R s h=>by
    obtain⟨⟨X,ho,⟨od,I⟩,e⟩,hl,h⟩:=h
    obtain⟨hp,g,d,tk,os⟩:=s
    wp_walk using wpAny_loadPart' hl,isNot_own X I e
    exact⟨_,rfl,h⟩
theorem dict_no (l:Addr) (es:Array DictEntry) (n:Nat) (dd:Option Addr) (sl:Array (Option Value)):
    Meets (Builtin.«dict.__eq__» ⟨[.ref l,.ref x],[]⟩) (fun _ R s=>OwnNo K x C dx "dict" s∧s.heap.get? l=some { cls:= .type "dict",dict:=dd,data:= .dict es n,slots:=sl }∧R (.ok (.ret .notImplemented)) s):=
  .of_wp fun prog w A R s h=>by
    obtain⟨⟨X,ho,⟨od,I⟩,e⟩,hl,h⟩:=h
    obtain⟨hp,g,d,tk,os⟩:=s
    wp_walk using wpAny_loadPart' hl,isNot_own X I e
    exact⟨_,rfl,h⟩
theorem int_no (i:Int) (t:Tok):
    Meets (Builtin.«int.__eq__» ⟨[.int i t,.ref x],[]⟩) (fun _ R s=>s.heap.get? x=some (PySem.W.instObj C dx)∧R (.ok (.ret .notImplemented)) s):=
  .of_wp fun prog w A R s h=>by
    obtain⟨hl,h⟩:=h
    obtain⟨hp,g,d,tk,os⟩:=s
    wp_walk using wpAny_loadPart' hl,wpAny_load hl
    exact⟨_,rfl,h⟩
theorem bool_no (i:Bool):
    Meets (Builtin.«int.__eq__» ⟨[.bool i,.ref x],[]⟩) (fun _ R s=>s.heap.get? x=some (PySem.W.instObj C dx)∧R (.ok (.ret .notImplemented)) s):=
  .of_wp fun prog w A R s h=>by
    obtain⟨hl,h⟩:=h
    obtain⟨hp,g,d,tk,os⟩:=s
    wp_walk using wpAny_loadPart' hl,wpAny_load hl
    exact⟨_,rfl,h⟩
theorem str_no (i:Str) (t:Tok):
    Meets (Builtin.«str.__eq__» ⟨[.str i t,.ref x],[]⟩) (fun _ R s=>s.heap.get? x=some (PySem.W.instObj C dx)∧R (.ok (.ret .notImplemented)) s):=
  .of_wp fun prog w A R s h=>by
    obtain⟨hl,h⟩:=h
    obtain⟨hp,g,d,tk,os⟩:=s
    wp_walk using wpAny_loadPart' hl,wpAny_load hl
    exact⟨_,rfl,h⟩
end
section
variable {prog : Program} {w : World} {A : Around} {E : Value → Shared → Prop} {s : Shared} {K : PySem.W.Frag} {x C f : Addr} {ox : Obj} {od : Option Obj} {u tb : Value}
theorem rc_refl {Ta ida:String} {Q:Value→Shared→Prop} (hu:A.units<cLine) (X:K.In s.heap) (ha:s.TypeIs u Ta) (I:PySem.W.InstAt s.heap x ox C od) (sub:PySem.W.subIn K (.ref C) (.type Ta)=some false)
    (sl:Slot Ta (cmpInfo .Eq).2.1 ida) (no: ∀Q':Value→Shared→Prop,Q' .notImplemented s→wpAny (model prog w) A (call (.builtin ida) [u,.ref x]) Q' E s)
    (own:PySem.W.findIn K (.ref C) "__eq__" =some (some (.ref f))) (fn:PySem.W.isFn K (.ref f)=true)
    (h:wpAny (model prog w) A (call (.ref f) [.ref x,u]) (PySem.W.CmpBack Q) E s):wpAny (model prog w) A (richCompare .Eq u (.ref x)) Q E s:=by
  have one:wpAny (model prog w) A (tryCompare (.ref x) (cmpInfo .Eq).2.2 u) (fun r s'=> ∃v,r=some v∧Q v s') E s:=by
    unfold tryCompare
    refine wpAny_bind (PySem.W.ifBound_K X I own fn (wpAny_mono h (fun v s' hv=> ?_) fun _ _ e=>e))
    cases v <;> first | exact hv.elim | exact wpAny_pure ⟨_,rfl,hv⟩
  unfold richCompare
  simp only[ha.oneThing_none]
  refine wpAny_holding (wpAny_bind (wpAny_cRoomFor hu ?_))
  refine wpAny_bind (wpAny_typeOf ha (wpAny_bind (I.type.here ?_)))
  rw[if_pos (by rfl)]
  refine wpAny_bind ((PySem.W.looks_subIn X sub).here ?_)
  simp only[Bool.false_eq_true,if_false,Bool.not_false,if_true]
  refine wpAny_bind (m:=tryCompare u _ (.ref x)) (wpAny_tryCompare_declines ha sl (no _ ⟨rfl,?_⟩))
  refine wpAny_bind (wpAny_mono one (fun r s' z=> ?_) fun _ _ e=>e)
  obtain⟨v,rfl,hq⟩:=z
  exact wpAny_pure hq
end

def BT:List String:= ["NoneType","bool","int","str","list","tuple","dict"]
structure AlT (K:PySem.W.Frag) (C:Addr):Prop where
  sub: ∀T∈BT,PySem.W.subIn K (.ref C) (.type T)=some false
  tc:PySem.W.typeIn K (.ref C)=some (.type "type")
  ic:PySem.W.isClsIn K C=true
theorem rev_no {K:PySem.W.Frag} {C:Addr}: ∀T∈BT,PySem.W.subIn K (.type T) (.ref C)=some false:=by
  intro T h
  simp only[BT,List.mem_cons,List.not_mem_nil,or_false] at h
  rcases h with rfl | rfl | rfl | rfl | rfl | rfl | rfl <;> rfl
theorem AlT.first {K:PySem.W.Frag} {C:Addr} {T:String} (h:T∈BT):PySem.W.notFirst K C (.type T)=true:=by
  unfold PySem.W.notFirst
  rw[rev_no T h]
  simp
theorem AlT.is {K:PySem.W.Frag} {C:Addr} {T:String} (t:AlT K C) (h:T∈BT):PySem.W.kitOne K (.type T) (.ref C)=some false:=by
  have e:(Value.type T == Value.ref C)=false:=rfl
  have ic:(PySem.W.clsIn K C).isSome=true:=t.ic
  unfold PySem.W.kitOne PySem.W.kitCls
  rw[if_neg (by rw[e];decide)]
  dsimp only
  rw[ic,t.tc,if_pos (by simp)]
  exact rev_no T h
theorem alT_of {K:PySem.W.Frag} {C:Addr} (h1:PySem.W.subIn K (.ref C) (.type "NoneType")=some false) (h2:PySem.W.subIn K (.ref C) (.type "bool")=some false) (h3:PySem.W.subIn K (.ref C) (.type "int")=some false)
    (h4:PySem.W.subIn K (.ref C) (.type "str")=some false) (h5:PySem.W.subIn K (.ref C) (.type "list")=some false) (h6:PySem.W.subIn K (.ref C) (.type "tuple")=some false) (h7:PySem.W.subIn K (.ref C) (.type "dict")=some false):
    ∀T∈BT,PySem.W.subIn K (.ref C) (.type T)=some false:=by
  intro T h
  simp only[BT,List.mem_cons,List.not_mem_nil,or_false] at h
  rcases h with rfl | rfl | rfl | rfl | rfl | rfl | rfl <;> assumption
inductive TyA (K:PySem.W.Frag) (H:Hp):V→String→Prop where
  | non:TyA K H .non "NoneType"
  | bl (b:Bool):TyA K H (.bl b) "bool"
  | int (i:Int):TyA K H (.int i) "int"
  | str (x:Str):TyA K H (.str x) "str"
  | lst {a:Addr} {xs:List V} (e:Rd H a (.lst xs)):TyA K H (.ref a) "list"
  | tup {a:Addr} {xs:List V} (e:SqT K H a xs):TyA K H (.ref a) "tuple"
  | dct {a:Addr} {es:List (Key×V)} (e:H a=some (.dK es)):TyA K H (.ref a) "dict"
section
variable {K : PySem.W.Frag} {H : Hp} {x : V} {T : String}
theorem TyA.mem (h:TyA K H x T):T∈BT:=by cases h <;> simp[BT]
theorem TyA.tyx (h:TyA K H x T):TyX K H x (.type T):=by
  cases h with
  | non=>exact .base .non
  | bl b=>exact .base (.bl b)
  | int i=>exact .base (.int i)
  | str y=>exact .base (.str y)
  | lst e=>exact e.elim (fun e=> .base (.lst e)) fun⟨o,e⟩=> .base (.frz e)
  | tup e=>
    rcases e with e | ⟨o,its,n,hk,hc,_⟩
    · exact e.elim (fun e=> .base (.tup e)) fun⟨o,e⟩=> .fTuple e
    · exact .kTuple hk hc
  | dct e=>exact .base (.dK e)
end
section
variable {X : Cx} {pins : List (Addr × Obj)} {σ : L2.St} {H : Hp} {s : Shared} {x : V} {u : Value} {T : String} {a C dx : Addr} {fs : List (Str × V)}
theorem look_of {t:Value} (I:Inv X pins σ H s) (rx:RelV x u) (ty:TyX X.K H x t):PySem.W.Looks (model X.prog X.w) s.heap (typeOf u) t:=by
  obtain⟨P,Z,p,_⟩:=kit_of I rx ty
  exact Z.ty _ _ I.kIn p
theorem own_no (I:Inv X pins σ H s) (e:H a=some (.ins C dx fs)) (sub:PySem.W.subIn X.K (.ref C) (.type T)=some false):OwnNo X.K a C dx T s:=by
  obtain⟨d,z,ne,ob,mA,⟨od,_,_,ho,_⟩,_⟩:=(show ObjOk X.prog X.w H s.heap a (.ins C dx fs) from I.hok a _ e)
  exact⟨I.kIn,ob,⟨some od,⟨ob,rfl,rfl,ho⟩⟩,sub⟩
theorem no_of {A:Around} {E:Value→Shared→Prop} (I:Inv X pins σ H s) (rx:RelV x u) (ty:TyA X.K H x T) (e:H a=some (.ins C dx fs)) (sub:PySem.W.subIn X.K (.ref C) (.type T)=some false):
    s.TypeIs u T∧ ∃i,Slot T (cmpInfo .Eq).2.1 i∧ ∀Q':Value→Shared→Prop,Q' .notImplemented s→wpAny (model X.prog X.w) A (call (.builtin i) [u,.ref a]) Q' E s:=by
  have O:=own_no I e sub
  cases ty with
  | non=>
    cases (show u=Value.none from rx)
    exact⟨rfl,_,F.slot_NoneType_eq,fun Q' hq=>call_gives F.slot_NoneType_eq rfl F.entry_NoneType_eq (F.args_NoneType_eq_2 _ _) (NoneType___eq___none_ref_0 a) hq⟩
  | bl b=>
    cases (show u=Value.bool b from rx)
    exact⟨rfl,_,F.slot_bool_eq,fun Q' hq=>call_meets F.slot_bool_eq rfl F.entry_int_eq (F.args_int_eq_2 _ _) (bool_no b) ⟨O.2.1,hq⟩⟩
  | int i=>
    obtain⟨t,rfl⟩:=(show ∃t,u=Value.int i t from rx)
    exact⟨rfl,_,F.slot_int_eq,fun Q' hq=>call_meets F.slot_int_eq rfl F.entry_int_eq (F.args_int_eq_2 _ _) (int_no i t) ⟨O.2.1,hq⟩⟩
  | str i=>
    obtain⟨t,rfl⟩:=(show ∃t,u=Value.str i t from rx)
    exact⟨rfl,_,F.slot_str_eq,fun Q' hq=>call_meets F.slot_str_eq rfl F.entry_str_eq (F.args_str_eq_2 _ _) (str_no i t) ⟨O.2.1,hq⟩⟩
  | @lst l xs el=>
    cases (show u=Value.ref l from rx)
    obtain⟨z,its,n,r,h1⟩:=el.ok I.hok
    exact⟨⟨_,h1,rfl⟩,_,F.slot_list_eq,fun Q' hq=>call_meets F.slot_list_eq ⟨_,h1,rfl⟩ F.entry_list_eq (F.args_list_eq_2 _ _) (list_no l _ _ _ _) ⟨O,h1,hq⟩⟩
  | @tup l xs el=>
    cases (show u=Value.ref l from rx)
    obtain⟨its,r,⟨⟨oc,od,dt,sl⟩,h1,h2,n,h3⟩,z⟩:=I.tuple el
    simp only at h2 h3
    subst h2 h3
    exact⟨⟨_,h1,rfl⟩,_,F.slot_tuple_eq,fun Q' hq=>call_meets F.slot_tuple_eq ⟨_,h1,rfl⟩ F.entry_tuple_eq (F.args_tuple_eq_2 _ _) (tuple_no l _ _ _ _) ⟨O,h1,hq⟩⟩
  | @dct l es el=>
    cases (show u=Value.ref l from rx)
    obtain⟨_,_,vs,_,⟨oc,od,dt,sl⟩,es,ep,h1,h2,h3,_⟩:=(show ObjOk X.prog X.w H s.heap l (.dK es) from I.hok l _ el)
    have h4:=h2.1
    simp only at h4 h3
    subst h4 h3
    exact⟨⟨_,h1,rfl⟩,_,F.slot_dict_eq,fun Q' hq=>call_meets F.slot_dict_eq ⟨_,h1,rfl⟩ F.entry_dict_eq (F.args_dict_eq_2 _ _) (dict_no l _ _ _ _) ⟨O,h1,hq⟩⟩
end
section
variable {X : Cx} {k : Nat} {f C : Addr} {fd : FuncData} {ps : List Str} {sp : Sp}
def rEqR (K:PySem.W.Frag) (C:Addr) (sp:Sp):R2:=fun x y H Q=> ∃a dx fs T,y= .ref a∧H a=some (.ins C dx fs)∧TyA K H x T∧sp [.ref a,x] H (fun v H'=> ∃z:Bool,v= .bl z∧Q (.bl z) H') E0
theorem FnG.ownV (F:FnG X.prog X.w X.K X.mg X.base k f fd ps sp) {A:Around} (hgA:GOkA X.K A X.base) (hr:Room k A)
    (hb:Binds X.K fd ps []) {pins:List (Addr×Obj)} {σ:L2.St} {H:Hp} {s:Shared} {a:Addr} {y:V} {u:Value} {Q:VK} (I:Inv X pins σ H s)
    (he:Env0 X.prog X.w X.K X.mg X.base A X.stack s H) (ry:RelV y u) (h:sp [.ref a,y] H Q E0):
    wpAny (model X.prog X.w) A (call (.ref f) [.ref a,u]) (EP X pins σ Q) X.xe s:=by
  have hl:([Value.ref a,u]++ []).length=ps.length:=(F.len _ _ _ _ h).symm ▸ rfl
  refine wpAny_call (codeAny_mono (F.run A X.stack s H ⟨[.ref a,u],[]⟩ [.ref a,u] [.ref a,y] Q E0 hgA hr he (hb s [.ref a,u] I.kIn hl) (.cons rfl (.cons ry .nil)) h) fun r s' hq=> ?_)
  match r,hq with
  | .error e,hq=>exact passN pins σ H s e s' I hq
  | .ok (.ret u),hq=>exact I.after hq
  | .ok .next,hq=>exact hq.elim
  | .ok .brk,hq=>exact hq.elim
  | .ok .cont,hq=>exact hq.elim
theorem op_eqR {K:PySem.W.Frag} (hK:X.K=K) (F:FnG X.prog X.w X.K X.mg X.base k f fd ps sp) (q0:EqT X.K C f) (al:AlT X.K C) (hg:GOk X) (hr:Room (k+1) X.A) (hb:Binds X.K fd ps []):OpR X (compareOp .Eq) (rEqR K C sp):=by
  subst hK
  intro pins s σ H x y v u Q I rx ry h
  obtain⟨a,dx,fs,T,rfl,ea,ty,h⟩:=h
  cases (show u=Value.ref a from ry)
  obtain⟨ox,od,J⟩:=inst_of I ea
  obtain⟨ti,i,sl,no⟩:=no_of (A:=X.A) (E:=X.xe) I rx ty ea (al.sub T ty.mem)
  refine rc_refl hr.units0 I.kIn ti J (al.sub T ty.mem) sl no q0.own q0.fn ?_
  refine wpAny_mono (F.ownV (A:=X.A) hg (hr.mono (Nat.le_succ _)) hb I I.env0 rx h) (fun z s' hz=> ?_) fun _ _ e=>e
  obtain⟨v',H',I',rv,z,rfl,q⟩:=hz
  cases rv
  exact⟨.bl z,H',I',rfl,q⟩
end
end PC
namespace TL
open PySem PySem.Spec PyProof.Rows L2 PC
section
variable {K : PySem.W.Frag} {α β : Type}
inductive AlD:Dm K→Prop where
  | py (d:PyData):AlD (kPy d)
  | lst (ds:List (Dm K)):AlD (dL ds)
def kAl:Unit→Dm K:=fun _=>⟨fun Z H v=> ∃d:Dm K,AlD d∧d.at_ Z H v,fun r ⟨d,h,q⟩=>⟨d,h,d.up r q⟩⟩
theorem co_AlP:Co (K:=K) kPy kAl fun _=>():=fun x _ _ _ h=>⟨_,.py x,h⟩
theorem al_ty {S:Store K} {F:Pl} {H:Hp} {v:V} {x:Unit} (wd:Wd S F H) (h:(kAl (K:=K) x).at_ (Zd S F) H v): ∃T,TyA K H v T:=by
  obtain⟨d,hd,q⟩:=h
  cases hd with
  | py d=>
    have q':=DatP.dat _ _ q
    cases d with
    | none=>cases (show v= .non from q');exact⟨_,.non⟩
    | bool b=>cases (show v= .bl b from q');exact⟨_,.bl b⟩
    | int i=>cases (show v= .int i from q');exact⟨_,.int i⟩
    | str y=>cases (show v= .str y from q');exact⟨_,.str y⟩
    | list ds=>obtain⟨a,xs,rfl,_,e,_⟩:=q';exact⟨_,.lst e⟩
    | tuple ds=>obtain⟨a,xs,rfl,_,e,_⟩:=q';exact⟨_,.tup e⟩
    | dict ds=>obtain⟨a,xs,rfl,_,e,_⟩:=q';exact⟨_,.dct e⟩
  | lst ds=>obtain⟨a,xs,rfl,_,e,_⟩:=q;exact⟨_,.lst (.inl e)⟩
def wDead:W K α:=fun _ _ _=>False
theorem sim_never {ε:WX} {G:Gm K} {te:TE} {r:α→Dm K}:Sim ε G te r wDead:=fun _ _ _ _ _ _ _ _ _ h=>h.elim
theorem simS_dead {ε:WX} {Gh:Option (Gm K)} {G:Gm K} {T ρ:Type} {Gof:T→Gm K} {rr:ρ→Dm K} {ts:List TS}:SimS ε Gh G ts Gof rr wDead:=
  fun S0 F H0 S H σ D Qp Ep c hm h1 h2 h3 h4=>hm.elim
end
end TL

set_option Elab.async false
set_option linter.all false
set_option maxRecDepth 100000
set_option maxHeartbeats 2000000
namespace PC
open PySem PySem.Spec PyProof.Rows L2 LamX

abbrev LamTl:=XK→Hp→VK→Prop
def tCall (i:Nat) (f c':Addr) (q:Str) (W:WX) (tl:LamTl):TE:=fun σ H Q=>σ[i]?=some (some (.ref f))∧H c'=some (CodeO c' q)∧tl (fun c d H=>W c d σ H) H Q
section
variable {X : Cx} {pins : List (Addr × Obj)} {σ : L2.St} {H : Hp} {s : Shared}
end
def GivesT (P:Program) (w:World) (K:PySem.W.Frag) (mg:Str→Option Value) (base:Heap) (k:Nat) (g:Addr) (x:Str) (st:Stmt) (Ng:List Str) (a:Str) (TT:LamTl→Addr→Addr→Str→Hp→VK→Prop):Prop:=
  ∀(cdv:Value) (A:Around) (outer:List Env) (s:Shared) (H:Hp) (Q:VK) (f c':Addr) (q:Str) (tl:LamTl),GOkA K A base→Room k (A.deeper (envOfC x (defScope st) s.heap.objs.size g cdv))→
    (∀(W:WX) (pn:List (Addr×Obj)) (xe:Value→Shared→Prop) (p1 p2:Pos),Takes ((cxg P w K mg base Ng x st g cdv A outer s H E0).tr pn xe) W→PE ((cxg P w K mg base Ng x st g cdv A outer s H E0).tr pn xe) (.Call (.Name a p1) [] [] p2) (tCall 0 f c' q W tl))→
    TT tl f c' q H Q→ ∃t,PSs (cxg P w K mg base Ng x st g cdv A outer s H E0) (defBody st) t∧t { nx:=fun _ H'=>Q .non H',rt:=Q } (L2.start Ng [.ref f]) H
end PC
namespace TL
open PySem PySem.Spec PyProof.Rows L2 PC LamX
section
variable {K : PySem.W.Frag} {α ρ : Type} {ε : WX} {G : Gm K}
theorem Wd.kind {S:Store K} {F:Pl} {H:Hp} {c:Addr} {q:Str} (w:Wd S F H) (h:H c=none∨H c=some (CodeO c q)): ¬ Zd S F c:=fun z=>by
  have lst: ∀ {o:HO},H c=some o→(∀φ,o≠ .ext φ)→False:=fun {o} e n=>by
    rcases h with h | h
    · rw[h] at e;cases e
    · rw[h] at e;cases e;exact n _ rfl
  rcases z with z | z
  · cases e:S c with
    | none=>exact z e
    | some x=>
      have k:=w.cell c x e
      cases x with
      | pot=>obtain⟨_,_,e,_⟩:=k;exact lst e fun _ z=>nomatch z
      | lst ds=>obtain⟨_,e,_⟩:=k;exact lst e fun _ z=>nomatch z
      | dic es=>obtain⟨_,e,_⟩:=k;exact lst e fun _ z=>nomatch z
      | dct es=>obtain⟨_,e,_⟩:=k;exact lst e fun _ z=>nomatch z
      | tab q=>obtain⟨_,e,_⟩:=k;exact lst e fun _ z=>nomatch z
      | ins C fs=>obtain⟨_,_,e,_⟩:=k;exact lst e fun _ z=>nomatch z
  · rcases w.foc c z with ⟨_,e⟩ | ⟨_,e⟩ | ⟨_,e⟩ <;> exact lst e fun _ z=>nomatch z
end
end TL

set_option Elab.async false
set_option linter.all false
set_option maxRecDepth 100000
set_option maxHeartbeats 2000000
namespace PC
open PySem PySem.Spec PyProof.Rows L2 LamX
section
variable {P : Program} {w : World} {K : PySem.W.Frag} {mg : Str → Option Value} {base : Heap}
theorem GivesT.mono {j k:Nat} {g:Addr} {x:Str} {st:Stmt} {Ng:List Str} {a:Str} {TT:LamTl→Addr→Addr→Str→Hp→VK→Prop} (G:GivesT P w K mg base j g x st Ng a TT) (h:j≤k):GivesT P w K mg base k g x st Ng a TT:=
  fun cdv A outer s H Q f c' q tl hg hr=>G cdv A outer s H Q f c' q tl hg (hr.mono h)
end
section
variable {P : Program} {w : World} {K : PySem.W.Frag} {mg mb : Str → Option Value} {k : Nat} {fa a : Addr} {fd : FuncData}
  {x : Str} {sp : Sp} {s₁ : Shared} {vs : List Value} {ns : List Int} {cs : List (Addr × Addr)}
end
end PC
namespace TL
open PySem PySem.Spec PyProof.Rows L2 PC LamX
section
variable {P : Program} {w : World} {K : PySem.W.Frag} {mg : Str → Option Value} {base : Heap} {α τ : Type}
end
end TL
namespace TL
open PySem PySem.Spec PyProof.Rows L2 PC
end TL
namespace TL
open PySem PySem.Spec PyProof.Rows L2 PC LamX
section
variable {K : PySem.W.Frag} {α ρ : Type} {ε : WX} {G : Gm K}
end
end TL

namespace PC
open PySem PySem.Spec PySem.W
end PC

set_option Elab.async false
set_option linter.all false
set_option maxRecDepth 100000
set_option maxHeartbeats 2000000
namespace PC
open PySem PySem.Spec PyProof.Rows L2
open PySem.W (EachIs)
section
variable {X : Cx} {k : Nat} {K : PySem.W.Frag}
end
mutual
theorem reads_lt {h:Heap}: ∀ {v:Value} {d:PyData} {as:List Addr},Reads h v d as→ ∀a∈as,a<h.objs.size
  | _,_,_,.none,a,m=>nomatch m
  | _,_,_,.bool _,a,m=>nomatch m
  | _,_,_,.int _ _,a,m=>nomatch m
  | _,_,_,.str _ _,a,m=>nomatch m
  | _,_,_,.list ho _ _ r,a,m=>(List.mem_cons.mp m).elim (fun e=>e ▸ Heap.lt_size ho) (readsAll_lt r a)
  | _,_,_,.tuple _ _ _ r,a,m=>readsAll_lt r a m
  | _,_,_,.dict ho _ _ r q,a,m=>(List.mem_append.mp m).elim (fun m=>(List.mem_cons.mp m).elim (fun e=>e ▸ Heap.lt_size ho) (readsAll_lt r a)) (readsAll_lt q a)
theorem readsAll_lt {h:Heap}: ∀ {vs:List Value} {ds:List PyData} {as:List Addr},ReadsAll h vs ds as→ ∀a∈as,a<h.objs.size
  | _,_,_,.nil,a,m=>nomatch m
  | _,_,_,.cons r q,a,m=>(List.mem_append.mp m).elim (reads_lt r a) (readsAll_lt q a)
end
section
variable {X : Cx} {k : Nat} {K : PySem.W.Frag}
end
end PC
namespace TL
open PySem PySem.Spec PyProof.Rows L2 PC
section
variable {K : PySem.W.Frag} {ε : WX} {G : Gm K} {α β γ τ : Type} {S : Store K}
end
end TL
namespace TL
open PySem PySem.Spec PyProof.Rows L2 PC
section
variable {K : PySem.W.Frag} {ε : WX} {G : Gm K} {α β γ δ τ : Type} {S : Store K}
end
section
variable {K : PySem.W.Frag} {ε : WX} {Gh : Option (Gm K)} {G : Gm K} {α β γ τ S' ρ : Type} {T : Type} {Gof : T → Gm K} {rr : ρ → Dm K} {ts : List TS}
end
section
variable {K : PySem.W.Frag} {α β γ δ : Type}
end
end TL
namespace PC
open PySem PySem.Spec PyProof.Rows L2
section
variable {X : Cx} {K : PySem.W.Frag} {o e value : Expr} {f : Str} {pos tpos : Pos} {ta tv : TE}
end
end PC
namespace TL
open PySem PySem.Spec PyProof.Rows L2 PC
section
variable {K : PySem.W.Frag}
end
end TL

set_option Elab.async false
set_option linter.all false
set_option maxRecDepth 100000
set_option maxHeartbeats 2000000
namespace TL
open PySem PySem.Spec PyProof.Rows L2 PC
section
variable {K : PySem.W.Frag} {ε : WX} {Gh : Option (Gm K)} {G : Gm K} {α β γ τ S' ρ : Type} {T : Type} {Gof : T → Gm K} {rr : ρ → Dm K} {ts : List TS}
end
section
variable {K : PySem.W.Frag} {ε : WX} {Gh : Option (Gm K)} {G : Gm K} {α β γ τ S' ρ : Type} {T : Type} {Gof : T → Gm K} {rr : ρ → Dm K} {ts : List TS}
end
end TL

set_option Elab.async false
set_option linter.all false
set_option maxRecDepth 100000
set_option maxHeartbeats 2000000
namespace PC
open PySem PySem.SeqAt PySem.Spec PyProof.Rows L2
open AutoSeq1 (wpAny_loadPart')
open MeetsSeq MeetsSeq2 MeetsSeq3 SeqRoads2
section
variable {prog : Program} {w : World} {A : Around} {R : Result → Shared → Prop}
end
abbrev EqvB:=V→V→Bool→Hp→Prop
def MonB (D:EqvB):Prop:= ∀x y b H H',L2.Ext H H'→D x y b H→D x y b H'
structure SubG (X:Cx) (n:Nat) (A:Around):Prop where
  room:Room n A
  fr:A.frames=X.A.frames
  g:GOkA X.K A X.base
theorem SubG.in1 {X:Cx} {n:Nat} {A:Around} (s:SubG X (n+1) A):SubG X n A.in1:=⟨s.room.in1,s.fr,s.g⟩
theorem SubG.mono {X:Cx} {n m:Nat} {A:Around} (s:SubG X n A) (h:m≤n):SubG X m A:=⟨s.room.mono h,s.fr,s.g⟩
def EqB (X:Cx) (n:Nat) (D:EqvB):Prop:=
  ∀(A:Around) (pins:List (Addr×Obj)) (s:Shared) (σ:L2.St) (H:Hp) (x y:V) (u v:Value) (b:Bool),SubG X n A→Inv X pins σ H s→RelV x u→RelV y v→D x y b H→
    wpAny (model X.prog X.w) A (eqBool u v) (fun r s'=>r=b∧ ∃H',Inv X pins σ H' s'∧L2.Ext H H') X.xe s
section
variable {X : Cx} {n m : Nat} {D D' : EqvB}
theorem EqB.mono (h:EqB X n D) (hn:n≤m):EqB X m D:=fun A pins s σ H x y u v b sb=>h A pins s σ H x y u v b (sb.mono hn)
theorem EqB.or (h:EqB X n D) (h':EqB X n D'):EqB X n (fun x y b H=>D x y b H∨D' x y b H):=fun A pins s σ H x y u v b sb I rx ry d=>by
  rcases d with d | d
  · exact h A pins s σ H x y u v b sb I rx ry d
  · exact h' A pins s σ H x y u v b sb I rx ry d
theorem MonB.or (h:MonB D) (h':MonB D'):MonB (fun x y b H=>D x y b H∨D' x y b H):=fun x y b H H' e d=>d.elim (fun d=> .inl (h x y b H H' e d)) fun d=> .inr (h' x y b H H' e d)
end
end PC

set_option Elab.async false
set_option linter.all false
set_option maxRecDepth 100000
set_option maxHeartbeats 2000000
namespace PC
open PySem PySem.Spec PyProof.Rows L2
section
variable {X : Cx} {k : Nat} {f C : Addr} {fd : FuncData} {ps : List Str} {sp : Sp}
end
end PC
namespace TL
open PySem PySem.Spec PyProof.Rows L2 PC
section
variable {K : PySem.W.Frag} {α : Type} {Z : Pl} {H : Hp}
end
end TL

set_option Elab.async false
set_option linter.all false
set_option maxRecDepth 100000
set_option maxHeartbeats 2000000
namespace PC
open PySem PySem.Spec PyProof.Rows PySem.W L2
section
variable {X : Cx} {ks : List Str} {f C : Addr} {x m : Str} {p pos apos : Pos} {o e : Expr} {es : List Expr} {kws : List Keyword} {to : TE} {t tk : TA}
    {rk : L2.St → List V → List V → Hp → VK → Prop} {pl : Sem Bool}
end
end PC
namespace TL
open PySem PySem.Spec PyProof.Rows L2 PC
section
variable {K : PySem.W.Frag} {α β : Type} {ε : WX} {G : Gm K}
def kR (r:α→Dm K):Addr ⊕ List α→Dm K
  | .inl a=>kRef a
  | .inr xs=>kT r xs
def wR (r:α→Dm K) (x:Addr ⊕ List α) (k:List α→(Store K→Prop)→W K β):W K β:=match x with
  | .inl a=>wPk r a fun xs=>k xs (Stays a (xs.map r))
  | .inr xs=>k xs nI
theorem co_RL {r:α→Dm K}:Co kRef (kR r) Sum.inl:=fun _ _ _ _ h=>h
theorem simI_R {i:Nat} {r:α→Dm K} {x:Addr ⊕ List α} (h:G[i]?=some (some (kR r x))):SimI ε G (iOr (iList K (tVar i)) (iTup K (tVar i))) r (wR r x fun xs I=>ret (xs,I)):=by
  intro S F σ H RI Qp Ep w s hq hQ hE
  cases x with
  | inl a=>exact .inl (simI_cell (r:=r) (sim_var (r:=kRef) (x:=a) h) S F σ H RI Qp Ep w s hq hQ hE)
  | inr xs=>exact .inr (simI_tup (r:=r) (sim_var (r:=kT r) (x:=xs) h) S F σ H RI Qp Ep w s hq hQ hE)
theorem cb_sortedR:CalB K (PC.rSorted K) (fun x:(Addr ⊕ List Int)×Unit=> [kR kI x.1]) (kL kI) (fun x=>wR kI x.1 fun xs _=>ret (isort xs)):=by
  intro S F H x vs Q Qp Ep wd h hf hQ
  obtain⟨x,u⟩:=x
  cases x with
  | inr xs=>exact cb_sortedT S F H (xs,()) vs Q Qp Ep wd h hf hQ
  | inl a=>
    obtain⟨xs,ea,hf⟩:=hf
    obtain⟨v,rfl,hv⟩:=at1 h
    cases (show v= .ref a from hv)
    obtain⟨vs,e1,l⟩:=wd.cell _ _ ea
    obtain rfl:=atL_ints l
    refine⟨a,xs,rfl,.inl (.inl (.inl e1)),fun ms b hp hs hb=> ?_⟩
    obtain rfl:=isort_is hp hs
    exact hQ _ S _ _ hf (wd.new hb) ⟨b,_,rfl,wd.free hb,upd_same,ints_at _⟩
theorem cb_isiT2R {r:α→Dm K} {s:α→PyData} (c:Co r kPy s):CalB K (rIsiT K) (fun x:(Addr ⊕ List α)×(String×String)×Unit=> [kR r x.1,kP kTy kTy x.2.1]) kB (fun x=>wAss (x.2.1=("list","tuple")) (wR r x.1 fun _ _=>ret true)):=by
  intro S F H x vs Q Qp Ep wd h hf hQ
  obtain⟨x,t,u⟩:=x
  cases x with
  | inr xs=>
    refine cb_isiT2 S F H (.tuple (xs.map s),t,u) vs Q Qp Ep wd ?_ ⟨hf.1,?_⟩ hQ
    · obtain⟨v,r',e,h1,h2⟩:=h
      exact⟨v,r',e,co_TP c _ _ _ _ h1,h2⟩
    · have:(isD (PyData.tuple (xs.map s)) "list" || isD (PyData.tuple (xs.map s)) "tuple")=true:=rfl
      rw[this]
      exact hf.2
  | inl a=>
    obtain⟨ht,xs,ea,hf⟩:=hf
    obtain⟨v,w,rfl,h1,h2⟩:=at2 h
    obtain⟨b,ys,rfl,n,q,u1,r1,rfl,q1,u2,r2,rfl,q2,rfl⟩:=h2
    have e1:u1= .ty t.1:=q1
    have e2:u2= .ty t.2:=q2
    rw[show t=("list","tuple") from ht] at e1 e2
    subst e1 e2
    cases (show v= .ref a from h1)
    obtain⟨zs,e1,_⟩:=wd.cell _ _ ea
    exact isi_lstT e1 q (hQ _ S H _ hf (.refl wd) mk_bl)
end
end TL

set_option Elab.async false
set_option linter.all false
set_option maxRecDepth 100000
set_option maxHeartbeats 2000000
namespace PC
open PySem PySem.Spec PyProof.Rows L2
section
variable {X : Cx} {n k : Nat} {D : EqvB} {f C : Addr} {fd : FuncData} {ps : List Str} {sp : Sp}
end
end PC
namespace TL
open PySem PySem.Spec PyProof.Rows L2 PC
section
variable {K : PySem.W.Frag} {α : Type}
end
section
variable {K : PySem.W.Frag} {ε : WX} {G : Gm K} {α : Type}
end
end TL

set_option Elab.async false
set_option linter.all false
set_option maxRecDepth 100000
set_option maxHeartbeats 2000000
namespace TL
open PySem PySem.Spec PyProof.Rows L2 PC
section
variable {K : PySem.W.Frag} {α β γ : Type} {ε : WX} {G : Gm K}
def kG (r:α→Dm K):PyData ⊕ α→Dm K
  | .inl d=>kPy d
  | .inr x=>r x
inductive Thg (α:Type)
  | cell (a:Addr)
  | dat (d:PyData)
  | obj (x:α)
  | lst (xs:List (PyData ⊕ α))
  | tup (xs:List (PyData ⊕ α))
theorem co_GD {r:α→Dm K}:Co kPy (kG r) Sum.inl:=fun _ _ _ _ h=>h
theorem co_GO {r:α→Dm K}:Co r (kG r) Sum.inr:=fun _ _ _ _ h=>h
end
end TL

set_option Elab.async false
set_option linter.all false
set_option maxRecDepth 100000
set_option maxHeartbeats 2000000
namespace PC
open PySem PySem.Spec PyProof.Rows L2 PySem.SeqAt
structure FunP (K:PySem.W.Frag) (x qual:Str) (st:Stmt) (f:Addr) (fd:FuncData):Prop where
  ex: ∃(oc:Value) (od:Option Addr) (dV kV doc pm:Value) (an:Option Addr) (cdv ct:Value) (osl:Array (Option Value)),
    fd=PySem.W.fnOf x qual (defArgs st) (defBody st) (defScope st) dV kV doc pm an cdv ct∧K.lookup f=some ⟨oc,od,.func fd,osl⟩∧PySem.W.codeIn K cdv qual=true
  kp:PySem.W.keepIn K (.ref f)=true
section
variable {P : Program} {w : World} {K : PySem.W.Frag} {mg : Str → Option Value} {base : Heap}
end
end PC
namespace TL
open PySem PySem.Spec PyProof.Rows L2 PC
section
variable {P : Program} {w : World} {K : PySem.W.Frag} {mg : Str → Option Value} {base : Heap} {τ α β : Type}
end
section
variable {K : PySem.W.Frag} {ε : WX} {G : Gm K} {α β : Type}
end
end TL

set_option Elab.async false
set_option linter.all false
set_option maxRecDepth 100000
set_option maxHeartbeats 2000000
namespace PC
open PySem PySem.Spec PyProof.Rows PySem.SeqAt L2
section
variable {K : PySem.W.Frag} {C D : Addr} {H : Hp}
structure Apart (K:PySem.W.Frag) (D C:Addr):Prop where
  sub:PySem.W.subIn K (.ref D) (.ref C)=some false
  me:PySem.W.subIn K (.ref C) (.ref C)=some true
  cls:Cls K D
  ty:InstT K D
  cq:ClsQ K
theorem Apart.first (p:Apart K D C):PySem.W.notFirst K C (.ref D)=true:=by
  unfold PySem.W.notFirst
  rw[p.sub];simp
theorem Apart.is (p:Apart K D C) (t:AlT K C):PySem.W.kitOne K (.ref D) (.ref C)=some false:=by
  have e: ¬ (Value.ref D == Value.ref C)=true:=fun z=>by
    have e2:Value.ref D=Value.ref C:=by simpa using z
    have a:=p.sub
    rw[e2,p.me] at a
    cases a
  have ic:(PySem.W.clsIn K C).isSome=true:=t.ic
  unfold PySem.W.kitOne PySem.W.kitCls
  rw[if_neg e]
  dsimp only
  rw[ic,t.tc,if_pos (by simp)]
  exact p.sub
inductive TyW (K:PySem.W.Frag) (C:Addr) (H:Hp):V→Value→Prop where
  | al {x:V} {T:String} (h:TyA K H x T):TyW K C H x (.type T)
  | own {a D dx:Addr} {fs:List (Str×V)} (e:H a=some (.ins D dx fs)) (p:Apart K D C):TyW K C H (.ref a) (.ref D)
theorem TyW.tyx {x:V} {t:Value} (h:TyW K C H x t):TyX K H x t:=by
  cases h with
  | al h=>exact h.tyx
  | own e p=>exact .base (.ins e p.cls p.ty.ca p.cq.get p.cq.tk p.ty.ob)
theorem TyW.first {x:V} {t:Value} (h:TyW K C H x t):PySem.W.notFirst K C t=true:=by
  cases h with
  | al h=>exact AlT.first h.mem
  | own e p=>exact p.first
theorem TyW.is {x:V} {t:Value} (h:TyW K C H x t) (al:AlT K C):PySem.W.kitOne K t (.ref C)=some false:=by
  cases h with
  | al h=>exact al.is h.mem
  | own e p=>exact p.is al
end
section
variable {X : Cx} {k k2 : Nat} {f C g D : Addr} {fd gd : FuncData} {ps qs : List Str} {sp sq : Sp}
def rEqW (K:PySem.W.Frag) (C:Addr) (sp:Sp):R2:=fun x y H Q=> ∃a dx fs t,x= .ref a∧H a=some (.ins C dx fs)∧TyW K C H y t∧sp [.ref a,y] H (fun v H'=> ∃z:Bool,v= .bl z∧Q (.bl z) H') E0
theorem op_eqW {K:PySem.W.Frag} (hK:X.K=K) (F:FnG X.prog X.w X.K X.mg X.base k f fd ps sp) (q0:EqT X.K C f) (hg:GOk X) (hr:Room (k+1) X.A) (hb:Binds X.K fd ps []):OpR X (compareOp .Eq) (rEqW K C sp):=by
  subst hK
  intro pins s σ H x y v u Q I rx ry h
  obtain⟨a,dx,fs,T,rfl,ea,ty,h⟩:=h
  cases (show v=Value.ref a from rx)
  obtain⟨ox,od,J⟩:=inst_of I ea
  obtain⟨m,fr⟩:=I.fr
  refine PySem.W.cmp_K (op:= .Eq) (tb:=T) hr.units0 fr I.ok.mod.kin J (look_of I ry ty.tyx) ty.first q0.own q0.fn ?_
  refine wpAny_mono (F.ownV (A:=X.A) hg (hr.mono (Nat.le_succ _)) hb I I.env0 ry h) (fun z s' hz=> ?_) fun _ _ e=>e
  obtain⟨v',H',I',rv,z,rfl,q⟩:=hz
  cases rv
  exact⟨.bl z,H',I',rfl,q⟩
def rEqGR (K:PySem.W.Frag) (C D:Addr) (sp sq:Sp):R2:=fun x y H Q=>rEqR K C sp x y H Q∨rEqW K D sq x y H Q
theorem op_eqGR {K:PySem.W.Frag} (hK:X.K=K) (F:FnG X.prog X.w X.K X.mg X.base k f fd ps sp) (q0:EqT X.K C f) (al:AlT X.K C) (hg:GOk X) (hr:Room (k+1) X.A) (hb:Binds X.K fd ps [])
    (G:FnG X.prog X.w X.K X.mg X.base k2 g gd qs sq) (q1:EqT X.K D g) (hr2:Room (k2+1) X.A) (hb2:Binds X.K gd qs []):OpR X (compareOp .Eq) (rEqGR K C D sp sq):=by
  intro pins s σ H x y v u Q I rx ry h
  rcases h with h | h
  · exact op_eqR hK F q0 al hg hr hb pins s σ H x y v u Q I rx ry h
  · exact op_eqW hK G q1 hg hr2 hb2 pins s σ H x y v u Q I rx ry h
end
end PC
namespace TL
open PySem PySem.Spec PyProof.Rows L2 PC
section
variable {K : PySem.W.Frag} {α β : Type} {C D : Addr}
def kW (C:Addr):Unit→Dm K:=fun _=>⟨fun Z H v=>(kAl (K:=K) ()).at_ Z H v∨ ∃a D dx fs,v= .ref a∧ ¬ Z a∧H a=some (.ins D dx fs)∧Apart K D C,
  fun r h=>h.imp ((kAl ()).up r) fun⟨a,D,dx,fs,e,n,s,p⟩=>⟨a,D,dx,fs,e,nz_stp r n (by rw[s];exact fun z=>nomatch z),r.keep _ _ n s,p⟩⟩
theorem co_WA:Co (K:=K) kAl (kW C) fun _=>():=fun _ _ _ _ h=> .inl h
theorem co_WO {r:α→Dm K} {fs:α→List (Str×Dm K)} (e: ∀x,r x=dI D (fs x)) (p:Apart K D C):Co r (kW C) fun _=>():=fun x Z H v h=>by
  rw[e] at h
  obtain⟨a,dx,xs,rfl,n,e1,_⟩:=h
  exact .inr ⟨a,D,dx,xs,rfl,n,e1,p⟩
theorem co_WG {r:α→Dm K} {fs:α→List (Str×Dm K)} (e: ∀x,r x=dI D (fs x)) (p:Apart K D C):Co (kG r) (kW C) fun _=>():=fun x Z H v h=>by
  cases x with
  | inl d=>exact .inl (co_AlP _ _ _ _ h)
  | inr x=>exact co_WO e p _ _ _ _ h
theorem w_ty {S:Store K} {F:Pl} {H:Hp} {v:V} {x:Unit} (wd:Wd S F H) (h:(kW (K:=K) C x).at_ (Zd S F) H v): ∃t,TyW K C H v t:=by
  rcases h with h | ⟨a,D,dx,fs,rfl,_,e,p⟩
  · obtain⟨T,t⟩:=al_ty wd h
    exact⟨_,.al t⟩
  · exact⟨_,.own e p⟩
theorem cb_isW (al:AlT K C):CalB K (rIsi K) (fun x:Unit×Addr×Unit=> [kW C x.1,kRef x.2.1]) kB (fun x=>wAss (x.2.1=C) (ret false)):=by
  intro S F H x vs Q Qp Ep wd h hf hQ
  obtain⟨v,w,rfl,h1,h2⟩:=at2 h
  obtain rfl:w= .ref x.2.1:=h2
  obtain⟨t,ty⟩:=w_ty wd h1
  rw[hf.1]
  exact⟨v,.ref C,t,.ref C,false,rfl,.own C,ty.tyx,ty.is al,hQ _ S H _ hf.2 (.refl wd) mk_bl⟩
theorem os_eqW {fs:α→List (Str×Dm K)} {r:α→Dm K} {w:α×Unit×Unit→W K Bool} (e: ∀x,r x=dI C (fs x)):
    OpS K (rEqW K C (lift K (fun x:α×Unit×Unit=> [r x.1,kW C x.2.1]) kB w)) r (kW C) kB (fun x y=>wCalm (w (x,y,()))):=by
  intro S F H x y v u Q Qp Ep wd hv hu hf hQ
  have hv':=hv
  rw[e] at hv'
  obtain⟨a,dx,xs,rfl,_,e1,_⟩:=hv'
  obtain⟨t,ty⟩:=w_ty wd hu
  exact⟨a,dx,xs,t,rfl,e1,ty,S,F,(x,y,()),_,_,wd,⟨_,_,rfl,hv,_,_,rfl,hu,rfl⟩,hf,fun z S' H' v hz r' hv=>⟨z,at_bl hv,hQ z S' H' _ hz r' (by rw[at_bl hv] at hv;exact hv)⟩,fun e S' H' c d he _ _=>he⟩
def wEqGR (wC:α×Unit×Unit→W K Bool) (wD:β×Unit×Unit→W K Bool) (g:PyData ⊕ β) (x:α):W K Bool:=match g with
  | .inl _=>wCalm (wC (x,(),()))
  | .inr b=>wCalm (wD (b,(),()))
theorem os_eqGR {fs:α→List (Str×Dm K)} {r:α→Dm K} {gs:β→List (Str×Dm K)} {q:β→Dm K} {wC:α×Unit×Unit→W K Bool} {wD:β×Unit×Unit→W K Bool} (e: ∀x,r x=dI C (fs x)) (e2: ∀x,q x=dI D (gs x)) (p:Apart K C D):
    OpS K (rEqGR K C D (lift K (fun x:α×Unit×Unit=> [r x.1,kW C x.2.1]) kB wC) (lift K (fun x:β×Unit×Unit=> [q x.1,kW D x.2.1]) kB wD)) (kG q) r kB (fun g x=>wEqGR wC wD g x):=by
  intro S F H g x v u Q Qp Ep wd hv hu hf hQ
  cases g with
  | inr b=>exact .inr (os_eqW e2 S F H b () v u Q Qp Ep wd hv (co_WO e p _ _ _ _ hu) hf hQ)
  | inl d=>
    refine .inl ?_
    have ha:(kAl (K:=K) ()).at_ (Zd S F) H v:=co_AlP d _ _ _ hv
    have hu':=hu
    rw[e] at hu'
    obtain⟨a,dx,xs,rfl,_,e1,_⟩:=hu'
    obtain⟨T,ty⟩:=al_ty wd ha
    exact⟨a,dx,xs,T,rfl,e1,ty,S,F,(x,(),()),_,_,wd,⟨_,_,rfl,hu,_,_,rfl,co_WA _ _ _ _ ha,rfl⟩,hf,fun z S' H' v hz r' hv=>⟨z,at_bl hv,hQ z S' H' _ hz r' (by rw[at_bl hv] at hv;exact hv)⟩,fun e S' H' c d he _ _=>he⟩
end
section
variable {K : PySem.W.Frag}
theorem cb_isiT2M:CalB K (rIsiT K) (fun x:Addr×(String×String)×Unit=> [kRef x.1,kP kTy kTy x.2.1]) kB (fun x=>wRcv (IsLst x.1) (wAss (x.2.1=("list","tuple")) (ret true))):=by
  intro S F H x vs Q Qp Ep wd h hf hQ
  obtain⟨⟨ds,ea⟩,ht,hf⟩:=hf
  obtain⟨v,w,rfl,h1,h2⟩:=at2 h
  obtain⟨a,xs,rfl,n,s,u1,r1,rfl,q1,u2,r2,rfl,q2,rfl⟩:=h2
  have e1:u1= .ty x.2.1.1:=q1
  have e2:u2= .ty x.2.1.2:=q2
  rw[ht] at e1 e2
  subst e1 e2
  cases (show v= .ref x.1 from h1)
  obtain⟨ys,e1,_⟩:=wd.cell _ _ ea
  exact isi_lstT e1 s (hQ _ S H _ hf (.refl wd) mk_bl)
end
section
variable {K : PySem.W.Frag} {ε : WX} {G : Gm K} {α : Type}
theorem simN_addC {ta tb:TE} {r:α→Dm K} {ma mb:W K Addr} (a:Sim ε G ta kRef ma) (b:Sim ε G tb kRef mb):
    SimN ε G (tOp (rAdd K) ta tb) r (bnd ma fun p=>bnd mb fun q=>wPk r p fun x=>wPk r q fun y=>wAss (x.length+y.length≤50000) (ret (x++y))):=by
  intro S F σ H Q Qp Ep w s hm hQ hE
  refine a S F σ H _ _ Ep w s hm (fun p S1 H1 v hx h1 hv=> ?_) hE
  refine b S1 F σ H1 _ _ Ep h1.wd (s.up h1.stp) hx (fun q S2 H2 u hy h2 hu=> ?_) (hE.to h1)
  obtain⟨x,ea,y,eb,hl,hq⟩:=hy
  have hv2:=h2.up hv
  cases (show v= .ref p from hv2)
  cases (show u= .ref q from hu)
  obtain⟨xs,e1,lp⟩:=h2.wd.cell _ _ ea
  obtain⟨ys,e2,lq⟩:=h2.wd.cell _ _ eb
  refine .inr (.inr (.inl ⟨p,q,xs,ys,rfl,rfl,.inl e1,.inl e2,by rw[lp.length,lq.length,List.length_map,List.length_map];exact sl_of hl,?_⟩))
  exact new_out h2.wd (by rw[List.map_append];exact lp.append lq) fun H3 a vs n1 n2 n3 n4 n5 n6=>hQ _ S2 H3 a vs hq (h1.trans (h2.trans n1)) ((h1.trans h2).old n2) n3 n4 n5 n6
end
end TL

set_option Elab.async false
set_option linter.all false
set_option maxRecDepth 100000
set_option maxHeartbeats 4000000
namespace PX
open PySem PySem.Spec PyProof.Rows L2 PC TL
local macro_rules | `(tactic| wtm_at "v1") => `(tactic| with_reducible first
  | refine s_seq ?_ | refine s_asg ?_ | refine s_gname ?_ | refine s_ifS ?_ | refine s_ret ?_ | refine s_drop ?_ | refine s_next ?_ | refine s_par ?_
  | refine s_c ?_ | refine s_op ?_ | refine s_un ?_ | refine s_nil ?_ | refine s_cons ?_ | refine s_cb ?_ | refine s_ck ?_
  | refine s_if ?_ | refine s_andV ?_ | refine s_orV ?_ | refine s_notV ?_ | refine s_chain ?_ | refine s_lst ?_ | refine s_tup ?_
  | refine s_slice ?_ | refine s_part ?_ | refine s_noPart ?_ | refine s_test ?_ | refine s_tB ?_ | refine s_not ?_ | refine s_and ?_ | refine s_or ?_ | refine s_retN ?_
  | refine s_rI0 ?_ | refine s_rU ?_ | refine s_add_int ?_ | refine s_eq_int ?_ | refine s_ne_int ?_ | refine s_eq_str ?_ | refine s_ne_str ?_
  | refine s_gcons ?_ | refine s_gnil ?_ | refine s_gsub ?_
  | refine s_yes ?_ | refine s_in_c ?_ | refine s_notIn_c ?_
  | refine s_tlc ?_ | refine s_iStr ?_ | refine s_iList ?_ | refine s_iTup ?_ | refine s_iRng1 ?_ | refine s_iRng2 ?_ | refine s_for ?_
  | refine s_ms ?_ | refine s_mks ?_ | refine s_fld ?_ | refine s_sfld ?_ | refine s_m1 ?_ | refine s_bits ?_ | refine s_cs ?_ | refine s_cks ?_ | refine s_bm ?_ | refine s_bm0 ?_ | refine s_iZip ?_ | refine s_lstRg ?_ | refine s_rg1 ?_ | refine s_rg2 ?_ | refine s_raise ?_ | refine s_xf ?_
  | refine iteT ?_ | refine iteF ?_ | refine ite_nf ?_ | refine ite_nt ?_)
local macro_rules | `(tactic| wtm_at "sc") => `(tactic| first
  | (show (0 : Int) < _; first | decide | omega)
  | exact cmul_r (by decide) (by decide) | exact cmul_l (by decide) (by decide) | exact cmul_r (by omega) (by omega) | exact cmul_l (by omega) (by omega)
  | exact cpow (by decide) (by decide) (by decide) | exact cdw (by decide) (by decide) | exact cdw (by omega) (by omega))
local macro_rules | `(tactic| wtm_at "v2") => `(tactic| first
  | wtm_at "v1"
  | (with_reducible refine s_var (by with_unfolding_all rfl) ?_)
  | ((with_reducible apply s_rI); focus (with_unfolding_all wtm_at "sc"))
  | (with_reducible refine ⟨_, rfl, ?_⟩)
  | (with_reducible refine ⟨⟨_, rfl⟩, ?_⟩)
  | (with_reducible refine ⟨_, _, rfl, ?_⟩))
local macro_rules | `(tactic| wtm_at "v") => `(tactic| repeat wtm_at "v2")
local macro_rules | `(tactic| wtm_at "r") => `(tactic| first
  | exact R.refl _ _
  | assumption
  | exact R.of_same (by assumption)
  | (refine R.trans ?_ (by assumption); wtm_at "r")
  | (refine R.trans ?_ (R.of_same (by assumption)); wtm_at "r"))
local macro_rules | `(tactic| wtm_at "m") => `(tactic| try simp only [↓ret_bnd, ↓bnd_ret, ↓bnd_bnd, ↓raise_bnd, ↓ass_bnd, ↓if_bnd, ↓if_t, ↓if_f, ↓if_not, ↓if_rets, ↓ass_true, ↓calm_ret, ↓calm_bnd, ↓calm_ass, ↓out_rt, ↓out_nx, ↓out_bnd, ↓out_raise, ↓out_ass, ↓out_if, ↓aft_nx, ↓aft_rt, ↓aftT_nx, ↓aftT_rt, ↓seq_bnd, ↓pk_bnd, ↓setF_bnd, ↓setI_bnd, ↓app_bnd, ↓putK_bnd, ↓putT_bnd, ↓rcv_bnd, ↓pk_out, ↓setF_out, ↓setI_out, ↓app_out, ↓putK_out, ↓putT_out, ↓rcv_out, ↓calm_calm, ↓as_int, ↓rcv_tt, ↓some_bnd, ite_true, ite_false, decide_true, decide_false])
local macro_rules | `(tactic| wtm_at "n") => `(tactic| try simp only [↓ret_bnd, ↓bnd_ret, ↓bnd_bnd, ↓raise_bnd, ↓ass_bnd, ↓if_t, ↓if_f, ↓if_not, ↓if_rets, ↓ass_true, ↓calm_ret, ↓calm_bnd, ↓calm_ass, ↓out_rt, ↓out_nx, ↓out_bnd, ↓out_raise, ↓out_ass, ↓aft_nx, ↓aft_rt, ↓aftT_nx, ↓aftT_rt, ↓seq_bnd, ↓pk_bnd, ↓setF_bnd, ↓setI_bnd, ↓app_bnd, ↓putK_bnd, ↓putT_bnd, ↓rcv_bnd, ↓pk_out, ↓setF_out, ↓setI_out, ↓app_out, ↓putK_out, ↓putT_out, ↓rcv_out, ↓calm_calm, ↓as_int, ↓rcv_tt, ↓some_bnd, ite_true, ite_false, decide_true, decide_false])

def topS (i:Nat):Stmt:=PySem.Challenge.pw_paritycells_k29_table_values.main.body.getD i (.Pass ⟨0,0,0,0⟩)
def clsB:Stmt→List Stmt
  | .ClassDef (body:=b) .. =>b
  | _=> []
def clsS (i j:Nat):Stmt:=(clsB (topS i)).getD j (.Pass ⟨0,0,0,0⟩)
abbrev st__law_pot:Stmt:=topS 41
abbrev N__law_pot:List Str:= ["_law_script","_law_k","_law_number"]
theorem sc__law_pot:FnScope N__law_pot ["_law_script","_law_k"] (defScope st__law_pot):=
  ⟨rfl,rfl,rfl,by decide +kernel,rfl,by decide +kernel,by decide +kernel⟩
abbrev st__law_draw:Stmt:=topS 42
abbrev N__law_draw:List Str:= ["_law_pot_here","_law_many","_law_digit"]
theorem sc__law_draw:FnScope N__law_draw ["_law_pot_here","_law_many"] (defScope st__law_draw):=
  ⟨rfl,rfl,rfl,by decide +kernel,rfl,by decide +kernel,by decide +kernel⟩
abbrev st__law_width:Stmt:=topS 43
abbrev N__law_width:List Str:= ["_law_pot_here","_law_most"]
theorem sc__law_width:FnScope N__law_width ["_law_pot_here","_law_most"] (defScope st__law_width):=
  ⟨rfl,rfl,rfl,by decide +kernel,rfl,by decide +kernel,by decide +kernel⟩
abbrev st__law_spots:Stmt:=topS 44
abbrev N__law_spots:List Str:= ["_law_pot_here","_law_least","_law_width_here","_law_way","_law_spot"]
theorem sc__law_spots:FnScope N__law_spots ["_law_pot_here","_law_least","_law_width_here"] (defScope st__law_spots):=
  ⟨rfl,rfl,rfl,by decide +kernel,rfl,by decide +kernel,by decide +kernel⟩
abbrev st__law_pair:Stmt:=topS 45
abbrev N__law_pair:List Str:= ["_law_pot_here","_law_width_here","_law_tests","_law_hits","_law_both","_law_spot","_law_gone"]
theorem sc__law_pair:FnScope N__law_pair ["_law_pot_here","_law_width_here"] (defScope st__law_pair):=
  ⟨rfl,rfl,rfl,by decide +kernel,rfl,by decide +kernel,by decide +kernel⟩
abbrev st__law_added:Stmt:=topS 48
abbrev N__law_added:List Str:= ["_law_some","_law_more","_law_spot"]
theorem sc__law_added:FnScope N__law_added ["_law_some","_law_more"] (defScope st__law_added):=
  ⟨rfl,rfl,rfl,by decide +kernel,rfl,by decide +kernel,by decide +kernel⟩
abbrev st__law_lines:Stmt:=topS 49
abbrev N__law_lines:List Str:= ["_law_width_here","_law_pairs_here","_law_found","_law_spot","_law_tests","_law_hits","_law_more","_law_line"]
theorem sc__law_lines:FnScope N__law_lines ["_law_width_here","_law_pairs_here"] (defScope st__law_lines):=
  ⟨rfl,rfl,rfl,by decide +kernel,rfl,by decide +kernel,by decide +kernel⟩
abbrev st_Board__size:Stmt:=clsS 24 1
abbrev N_Board__size:List Str:= ["self"]
theorem sc_Board__size:FnScope N_Board__size ["self"] (defScope st_Board__size):=
  ⟨rfl,rfl,rfl,by decide +kernel,rfl,by decide +kernel,by decide +kernel⟩
abbrev st_is_integer_in:Stmt:=topS 12
abbrev N_is_integer_in:List Str:= ["thing","low","high"]
theorem sc_is_integer_in:FnScope N_is_integer_in ["thing","low","high"] (defScope st_is_integer_in):=
  ⟨rfl,rfl,rfl,by decide +kernel,rfl,by decide +kernel,by decide +kernel⟩
abbrev st_require_size:Stmt:=topS 14
abbrev N_require_size:List Str:= ["size"]
theorem sc_require_size:FnScope N_require_size ["size"] (defScope st_require_size):=
  ⟨rfl,rfl,rfl,by decide +kernel,rfl,by decide +kernel,by decide +kernel⟩
abbrev st_mask_of_cells:Stmt:=topS 15
abbrev N_mask_of_cells:List Str:= ["cells","cell"]
theorem sc_mask_of_cells:FnScope N_mask_of_cells ["cells"] (defScope st_mask_of_cells):=
  ⟨rfl,rfl,rfl,by decide +kernel,rfl,by decide +kernel,by decide +kernel⟩
abbrev st_is_cell:Stmt:=topS 13
abbrev N_is_cell:List Str:= ["thing","size"]
theorem sc_is_cell:FnScope N_is_cell ["thing","size"] (defScope st_is_cell):=
  ⟨rfl,rfl,rfl,by decide +kernel,rfl,by decide +kernel,by decide +kernel⟩
abbrev st_cell_tuple:Stmt:=topS 20
abbrev N_cell_tuple:List Str:= ["things","size","one","found","other"]
theorem sc_cell_tuple:FnScope N_cell_tuple ["things","size"] (defScope st_cell_tuple):=
  ⟨rfl,rfl,rfl,by decide +kernel,rfl,by decide +kernel,by decide +kernel⟩
abbrev st_cell_mask:Stmt:=topS 21
abbrev N_cell_mask:List Str:= ["things","size"]
theorem sc_cell_mask:FnScope N_cell_mask ["things","size"] (defScope st_cell_mask):=
  ⟨rfl,rfl,rfl,by decide +kernel,rfl,by decide +kernel,by decide +kernel⟩
abbrev st_Board____init__:Stmt:=clsS 24 0
abbrev N_Board____init__:List Str:= ["self","size","up"]
theorem sc_Board____init__:FnScope N_Board____init__ ["self","size","up"] (defScope st_Board____init__):=
  ⟨rfl,rfl,rfl,by decide +kernel,rfl,by decide +kernel,by decide +kernel⟩
abbrev st_Flip__width:Stmt:=clsS 27 4
abbrev N_Flip__width:List Str:= ["self"]
theorem sc_Flip__width:FnScope N_Flip__width ["self"] (defScope st_Flip__width):=
  ⟨rfl,rfl,rfl,by decide +kernel,rfl,by decide +kernel,by decide +kernel⟩
abbrev st_cells_in_cells:Stmt:=topS 17
abbrev N_cells_in_cells:List Str:= ["mask","cell"]
theorem sc_cells_in_cells:FnScope N_cells_in_cells ["mask"] (defScope st_cells_in_cells):=
  ⟨rfl,rfl,rfl,by decide +kernel,rfl,by decide +kernel,by decide +kernel⟩
abbrev st_Flip__tested:Stmt:=clsS 27 1
abbrev N_Flip__tested:List Str:= ["self"]
theorem sc_Flip__tested:FnScope N_Flip__tested ["self"] (defScope st_Flip__tested):=
  ⟨rfl,rfl,rfl,by decide +kernel,rfl,by decide +kernel,by decide +kernel⟩
abbrev st_Flip__toggled:Stmt:=clsS 27 2
abbrev N_Flip__toggled:List Str:= ["self"]
theorem sc_Flip__toggled:FnScope N_Flip__toggled ["self"] (defScope st_Flip__toggled):=
  ⟨rfl,rfl,rfl,by decide +kernel,rfl,by decide +kernel,by decide +kernel⟩
abbrev st_mask_of_sequences:Stmt:=topS 29
abbrev N_mask_of_sequences:List Str:= ["spots","spot"]
theorem sc_mask_of_sequences:FnScope N_mask_of_sequences ["spots"] (defScope st_mask_of_sequences):=
  ⟨rfl,rfl,rfl,by decide +kernel,rfl,by decide +kernel,by decide +kernel⟩
abbrev st_row_masks:Stmt:=topS 35
abbrev N_row_masks:List Str:= ["rows","e","row"]
theorem sc_row_masks:FnScope N_row_masks ["rows"] (defScope st_row_masks):=
  ⟨rfl,rfl,rfl,by decide +kernel,rfl,by decide +kernel,by decide +kernel⟩
abbrev st_Elimination____init__:Stmt:=clsS 34 0
abbrev N_Elimination____init__:List Str:= ["self"]
theorem sc_Elimination____init__:FnScope N_Elimination____init__ ["self"] (defScope st_Elimination____init__):=
  ⟨rfl,rfl,rfl,by decide +kernel,rfl,by decide +kernel,by decide +kernel⟩
abbrev st_Elimination__reduced:Stmt:=clsS 34 1
abbrev N_Elimination__reduced:List Str:= ["self","mask","items","other","more"]
theorem sc_Elimination__reduced:FnScope N_Elimination__reduced ["self","mask","items"] (defScope st_Elimination__reduced):=
  ⟨rfl,rfl,rfl,by decide +kernel,rfl,by decide +kernel,by decide +kernel⟩
abbrev st_Elimination__take:Stmt:=clsS 34 2
abbrev N_Elimination__take:List Str:= ["self","mask","items","rest","used"]
theorem sc_Elimination__take:FnScope N_Elimination__take ["self","mask","items"] (defScope st_Elimination__take):=
  ⟨rfl,rfl,rfl,by decide +kernel,rfl,by decide +kernel,by decide +kernel⟩
abbrev st_are_invertible:Stmt:=topS 36
abbrev N_are_invertible:List Str:= ["masks","found","mask"]
theorem sc_are_invertible:FnScope N_are_invertible ["masks"] (defScope st_are_invertible):=
  ⟨rfl,rfl,rfl,by decide +kernel,rfl,by decide +kernel,by decide +kernel⟩
abbrev st_Table____init__:Stmt:=clsS 37 0
abbrev N_Table____init__:List Str:= ["self","rows","masks"]
theorem sc_Table____init__:FnScope N_Table____init__ ["self","rows"] (defScope st_Table____init__):=
  ⟨rfl,rfl,rfl,by decide +kernel,rfl,by decide +kernel,by decide +kernel⟩
abbrev st_cells_in_sequences:Stmt:=topS 31
abbrev N_cells_in_sequences:List Str:= ["mask","spot"]
theorem sc_cells_in_sequences:FnScope N_cells_in_sequences ["mask"] (defScope st_cells_in_sequences):=
  ⟨rfl,rfl,rfl,by decide +kernel,rfl,by decide +kernel,by decide +kernel⟩
abbrev st_table_of:Stmt:=topS 39
abbrev N_table_of:List Str:= ["size","flips","masks","cell","flip","tested","mask"]
theorem sc_table_of:FnScope N_table_of ["size","flips"] (defScope st_table_of):=
  ⟨rfl,rfl,rfl,by decide +kernel,rfl,by decide +kernel,by decide +kernel⟩
abbrev st_is_odd:Stmt:=topS 19
abbrev N_is_odd:List Str:= ["mask","rest","found"]
theorem sc_is_odd:FnScope N_is_odd ["mask"] (defScope st_is_odd):=
  ⟨rfl,rfl,rfl,by decide +kernel,rfl,by decide +kernel,by decide +kernel⟩
abbrev st_Flip____init__:Stmt:=clsS 27 0
abbrev N_Flip____init__:List Str:= ["self","tested","toggled"]
theorem sc_Flip____init__:FnScope N_Flip____init__ ["self","tested","toggled"] (defScope st_Flip____init__):=
  ⟨rfl,rfl,rfl,by decide +kernel,rfl,by decide +kernel,by decide +kernel⟩
abbrev st__law_flip_of:Stmt:=topS 47
abbrev N__law_flip_of:List Str:= ["_law_pair_here"]
theorem sc__law_flip_of:FnScope N__law_flip_of ["_law_pair_here"] (defScope st__law_flip_of):=
  ⟨rfl,rfl,rfl,by decide +kernel,rfl,by decide +kernel,by decide +kernel⟩
abbrev st_identity_table:Stmt:=topS 38
abbrev N_identity_table:List Str:= ["size","cell"]
theorem sc_identity_table:FnScope N_identity_table ["size"] (defScope st_identity_table):=
  ⟨rfl,rfl,rfl,by decide +kernel,rfl,by decide +kernel,by decide +kernel⟩
abbrev st_cell_tuple__2:Stmt:=topS 20
abbrev N_cell_tuple__2:List Str:= ["things","size","one","found","other"]
theorem sc_cell_tuple__2:FnScope N_cell_tuple__2 ["things","size"] (defScope st_cell_tuple__2):=
  ⟨rfl,rfl,rfl,by decide +kernel,rfl,by decide +kernel,by decide +kernel⟩
abbrev st_row_masks__2:Stmt:=topS 35
abbrev N_row_masks__2:List Str:= ["rows","e","row"]
theorem sc_row_masks__2:FnScope N_row_masks__2 ["rows"] (defScope st_row_masks__2):=
  ⟨rfl,rfl,rfl,by decide +kernel,rfl,by decide +kernel,by decide +kernel⟩
abbrev st_Table____init____2:Stmt:=clsS 37 0
abbrev N_Table____init____2:List Str:= ["self","rows","masks"]
theorem sc_Table____init____2:FnScope N_Table____init____2 ["self","rows"] (defScope st_Table____init____2):=
  ⟨rfl,rfl,rfl,by decide +kernel,rfl,by decide +kernel,by decide +kernel⟩
abbrev st_Table____repr__:Stmt:=clsS 37 11
abbrev N_Table____repr__:List Str:= ["self","mask"]
theorem sc_Table____repr__:FnScope N_Table____repr__ ["self"] (defScope st_Table____repr__):=
  ⟨rfl,rfl,rfl,by decide +kernel,rfl,by decide +kernel,by decide +kernel⟩
abbrev st_Table____len__:Stmt:=clsS 37 10
abbrev N_Table____len__:List Str:= ["self"]
theorem sc_Table____len__:FnScope N_Table____len__ ["self"] (defScope st_Table____len__):=
  ⟨rfl,rfl,rfl,by decide +kernel,rfl,by decide +kernel,by decide +kernel⟩
abbrev st_Table__row:Stmt:=clsS 37 2
abbrev N_Table__row:List Str:= ["self","cell"]
theorem sc_Table__row:FnScope N_Table__row ["self","cell"] (defScope st_Table__row):=
  ⟨rfl,rfl,rfl,by decide +kernel,rfl,by decide +kernel,by decide +kernel⟩
abbrev st_Table__size:Stmt:=clsS 37 1
abbrev N_Table__size:List Str:= ["self"]
theorem sc_Table__size:FnScope N_Table__size ["self"] (defScope st_Table__size):=
  ⟨rfl,rfl,rfl,by decide +kernel,rfl,by decide +kernel,by decide +kernel⟩
abbrev st__law_is_grid:Stmt:=topS 50
abbrev N__law_is_grid:List Str:= ["_law_grid","_law_lines_here","_law_told","_law_spot","_law_line"]
theorem sc__law_is_grid:FnScope N__law_is_grid ["_law_grid","_law_lines_here"] (defScope st__law_is_grid):=
  ⟨rfl,rfl,rfl,by decide +kernel,rfl,by decide +kernel,by decide +kernel⟩
abbrev st_Table____eq__:Stmt:=clsS 37 9
abbrev N_Table____eq__:List Str:= ["self","other"]
theorem sc_Table____eq__:FnScope N_Table____eq__ ["self","other"] (defScope st_Table____eq__):=
  ⟨rfl,rfl,rfl,by decide +kernel,rfl,by decide +kernel,by decide +kernel⟩
abbrev st_Table____eq____2:Stmt:=clsS 37 9
abbrev N_Table____eq____2:List Str:= ["self","other"]
theorem sc_Table____eq____2:FnScope N_Table____eq____2 ["self","other"] (defScope st_Table____eq____2):=
  ⟨rfl,rfl,rfl,by decide +kernel,rfl,by decide +kernel,by decide +kernel⟩
abbrev st_Board____eq____2:Stmt:=clsS 24 6
abbrev N_Board____eq____2:List Str:= ["self","other"]
theorem sc_Board____eq____2:FnScope N_Board____eq____2 ["self","other"] (defScope st_Board____eq____2):=
  ⟨rfl,rfl,rfl,by decide +kernel,rfl,by decide +kernel,by decide +kernel⟩
abbrev st__law_right:Stmt:=topS 51
abbrev N__law_right:List Str:= ["_law_pot_here","_law_width_here","_law_pairs_here","_law_more","_law_lines_here","_law_grids","_law_some","_law_pair_here","_law_handed","_law_line","_law_grid","_law_own","_law_told","_law_other","_law_odd","_law_thing"]
theorem sc__law_right:FnScope N__law_right ["_law_pot_here","_law_width_here","_law_pairs_here"] (defScope st__law_right):=
  ⟨rfl,rfl,rfl,by decide +kernel,rfl,by decide +kernel,by decide +kernel⟩
abbrev st__law_pairs:Stmt:=topS 46
abbrev N__law_pairs:List Str:= ["_law_pot_here","_law_width_here","_law_most","_law_turn"]
theorem sc__law_pairs:FnScope N__law_pairs ["_law_pot_here","_law_width_here","_law_most"] (defScope st__law_pairs):=
  ⟨rfl,rfl,rfl,by decide +kernel,rfl,by decide +kernel,by decide +kernel⟩
abbrev st_law:Stmt:=topS 52
abbrev N_law:List Str:= ["_law_script","_law_k","_law_pot_here","_law_width_here"]
theorem sc_law:FnScope N_law ["_law_script"] (defScope st_law):=
  ⟨rfl,rfl,rfl,by decide +kernel,rfl,by decide +kernel,by decide +kernel⟩
abbrev st_NoSize:Stmt:=clsS 4 0
theorem d_NoSize:ErDef st_NoSize "NoSize.__init__" "CellError" "value" [] where
  bind:=fun _ _ _ _ _ _ us h=>match us,h with | [_,_],_=>rfl
  co:=rfl
  gen:=rfl
  kind:=rfl
  loc:=by decide +kernel
  glo:=rfl
  nd:=by decide +kernel
  few:=by decide
  ndb:=by decide +kernel
  hi:=fun _ _ _=>rfl
  body:=⟨_,_,_,_,_,_,_,_,(_,_,_,_),[],_,rfl,by refine⟨?_,rfl⟩;exact fun _ _ _=>rfl⟩
abbrev st_NoCell:Stmt:=clsS 5 0
theorem d_NoCell:ErDef st_NoCell "NoCell.__init__" "CellError" "cell" [] where
  bind:=fun _ _ _ _ _ _ us h=>match us,h with | [_,_],_=>rfl
  co:=rfl
  gen:=rfl
  kind:=rfl
  loc:=by decide +kernel
  glo:=rfl
  nd:=by decide +kernel
  few:=by decide
  ndb:=by decide +kernel
  hi:=fun _ _ _=>rfl
  body:=⟨_,_,_,_,_,_,_,_,(_,_,_,_),[],_,rfl,by refine⟨?_,rfl⟩;exact fun _ _ _=>rfl⟩
abbrev st_NoCells:Stmt:=clsS 6 0
theorem d_NoCells:ErDef st_NoCells "NoCells.__init__" "CellError" "cells" [] where
  bind:=fun _ _ _ _ _ _ us h=>match us,h with | [_,_],_=>rfl
  co:=rfl
  gen:=rfl
  kind:=rfl
  loc:=by decide +kernel
  glo:=rfl
  nd:=by decide +kernel
  few:=by decide
  ndb:=by decide +kernel
  hi:=fun _ _ _=>rfl
  body:=⟨_,_,_,_,_,_,_,_,(_,_,_,_),[],_,rfl,by refine⟨?_,rfl⟩;exact fun _ _ _=>rfl⟩
abbrev st_NoFlip:Stmt:=clsS 7 0
theorem d_NoFlip:ErDef st_NoFlip "NoFlip.__init__" "CellError" "why" [] where
  bind:=fun _ _ _ _ _ _ us h=>match us,h with | [_,_],_=>rfl
  co:=rfl
  gen:=rfl
  kind:=rfl
  loc:=by decide +kernel
  glo:=rfl
  nd:=by decide +kernel
  few:=by decide
  ndb:=by decide +kernel
  hi:=fun _ _ _=>rfl
  body:=⟨_,_,_,_,_,_,_,_,(_,_,_,_),[],_,rfl,by refine⟨?_,rfl⟩;exact fun _ _ _=>rfl⟩
abbrev st_NoTable:Stmt:=clsS 8 0
theorem d_NoTable:ErDef st_NoTable "NoTable.__init__" "CellError" "why" [] where
  bind:=fun _ _ _ _ _ _ us h=>match us,h with | [_,_],_=>rfl
  co:=rfl
  gen:=rfl
  kind:=rfl
  loc:=by decide +kernel
  glo:=rfl
  nd:=by decide +kernel
  few:=by decide
  ndb:=by decide +kernel
  hi:=fun _ _ _=>rfl
  body:=⟨_,_,_,_,_,_,_,_,(_,_,_,_),[],_,rfl,by refine⟨?_,rfl⟩;exact fun _ _ _=>rfl⟩
abbrev st_TooWide:Stmt:=clsS 9 0
theorem d_TooWide:ErDef st_TooWide "TooWide.__init__" "LimitError" "needed" [] where
  bind:=fun _ _ _ _ _ _ us h=>match us,h with | [_,_],_=>rfl
  co:=rfl
  gen:=rfl
  kind:=rfl
  loc:=by decide +kernel
  glo:=rfl
  nd:=by decide +kernel
  few:=by decide
  ndb:=by decide +kernel
  hi:=fun _ _ _=>rfl
  body:=⟨_,_,_,_,_,_,_,_,(_,_,_,_),[],_,rfl,by refine⟨?_,rfl⟩;exact fun _ _ _=>rfl⟩
structure Cl where
  CellError:Addr
  LimitError:Addr
  NoSize:Addr
  NoCell:Addr
  NoCells:Addr
  NoFlip:Addr
  NoTable:Addr
  TooWide:Addr
  Board:Addr
  Flip:Addr
  Elimination:Addr
  Table:Addr
  d_Board____init___up:Addr
structure Tx (K:PySem.W.Frag) (mg:Str→Option Value) (cl:Cl) where
  a__law_pot:Addr
  fd__law_pot:FuncData
  F__law_pot:Fun K "_law_pot" "_law_pot" st__law_pot a__law_pot fd__law_pot
  g__law_pot:mg "_law_pot" =some (.ref a__law_pot)
  a__law_draw:Addr
  fd__law_draw:FuncData
  F__law_draw:Fun K "_law_draw" "_law_draw" st__law_draw a__law_draw fd__law_draw
  g__law_draw:mg "_law_draw" =some (.ref a__law_draw)
  a__law_width:Addr
  fd__law_width:FuncData
  F__law_width:Fun K "_law_width" "_law_width" st__law_width a__law_width fd__law_width
  g__law_width:mg "_law_width" =some (.ref a__law_width)
  a__law_spots:Addr
  fd__law_spots:FuncData
  F__law_spots:Fun K "_law_spots" "_law_spots" st__law_spots a__law_spots fd__law_spots
  g__law_spots:mg "_law_spots" =some (.ref a__law_spots)
  a__law_pair:Addr
  fd__law_pair:FuncData
  F__law_pair:Fun K "_law_pair" "_law_pair" st__law_pair a__law_pair fd__law_pair
  g__law_pair:mg "_law_pair" =some (.ref a__law_pair)
  a__law_added:Addr
  fd__law_added:FuncData
  F__law_added:Fun K "_law_added" "_law_added" st__law_added a__law_added fd__law_added
  g__law_added:mg "_law_added" =some (.ref a__law_added)
  a__law_lines:Addr
  fd__law_lines:FuncData
  F__law_lines:Fun K "_law_lines" "_law_lines" st__law_lines a__law_lines fd__law_lines
  g__law_lines:mg "_law_lines" =some (.ref a__law_lines)
  a_Board__size:Addr
  fd_Board__size:FuncData
  F_Board__size:Fun K "size" "Board.size" st_Board__size a_Board__size fd_Board__size
  m_Board__size:Meth K cl.Board "size" a_Board__size
  a_is_integer_in:Addr
  fd_is_integer_in:FuncData
  F_is_integer_in:Fun K "is_integer_in" "is_integer_in" st_is_integer_in a_is_integer_in fd_is_integer_in
  g_is_integer_in:mg "is_integer_in" =some (.ref a_is_integer_in)
  a_require_size:Addr
  fd_require_size:FuncData
  F_require_size:Fun K "require_size" "require_size" st_require_size a_require_size fd_require_size
  g_require_size:mg "require_size" =some (.ref a_require_size)
  a_mask_of_cells:Addr
  fd_mask_of_cells:FuncData
  F_mask_of_cells:Fun K "mask_of" "mask_of" st_mask_of_cells a_mask_of_cells fd_mask_of_cells
  g_mask_of_cells:mg "mask_of_cells" =some (.ref a_mask_of_cells)
  a_is_cell:Addr
  fd_is_cell:FuncData
  F_is_cell:Fun K "is_cell" "is_cell" st_is_cell a_is_cell fd_is_cell
  g_is_cell:mg "is_cell" =some (.ref a_is_cell)
  D_is_cell:FunD K "is_cell" "is_cell" (defArgs st_is_cell) (defBody st_is_cell) (defScope st_is_cell) [] [("size",V.int 40)] a_is_cell fd_is_cell
  a_cell_tuple:Addr
  fd_cell_tuple:FuncData
  F_cell_tuple:Fun K "cell_tuple" "cell_tuple" st_cell_tuple a_cell_tuple fd_cell_tuple
  g_cell_tuple:mg "cell_tuple" =some (.ref a_cell_tuple)
  D_cell_tuple:FunD K "cell_tuple" "cell_tuple" (defArgs st_cell_tuple) (defBody st_cell_tuple) (defScope st_cell_tuple) [] [("size",V.int 40)] a_cell_tuple fd_cell_tuple
  a_cell_mask:Addr
  fd_cell_mask:FuncData
  F_cell_mask:Fun K "cell_mask" "cell_mask" st_cell_mask a_cell_mask fd_cell_mask
  g_cell_mask:mg "cell_mask" =some (.ref a_cell_mask)
  a_Board____init__:Addr
  fd_Board____init__:FuncData
  F_Board____init__:Fun K "__init__" "Board.__init__" st_Board____init__ a_Board____init__ fd_Board____init__
  mk_Board:Mk K cl.Board a_Board____init__
  D_Board____init__:FunD K "__init__" "Board.__init__" (defArgs st_Board____init__) (defBody st_Board____init__) (defScope st_Board____init__) [] [("up",V.ref cl.d_Board____init___up)] a_Board____init__ fd_Board____init__
  dt_Board____init___up:SqT K (fun _=>none) cl.d_Board____init___up []
  a_Flip__width:Addr
  fd_Flip__width:FuncData
  F_Flip__width:Fun K "width" "Flip.width" st_Flip__width a_Flip__width fd_Flip__width
  m_Flip__width:Meth K cl.Flip "width" a_Flip__width
  a_cells_in_cells:Addr
  fd_cells_in_cells:FuncData
  F_cells_in_cells:Fun K "cells_in" "cells_in" st_cells_in_cells a_cells_in_cells fd_cells_in_cells
  g_cells_in_cells:mg "cells_in_cells" =some (.ref a_cells_in_cells)
  a_Flip__tested:Addr
  fd_Flip__tested:FuncData
  F_Flip__tested:Fun K "tested" "Flip.tested" st_Flip__tested a_Flip__tested fd_Flip__tested
  m_Flip__tested:Meth K cl.Flip "tested" a_Flip__tested
  a_Flip__toggled:Addr
  fd_Flip__toggled:FuncData
  F_Flip__toggled:Fun K "toggled" "Flip.toggled" st_Flip__toggled a_Flip__toggled fd_Flip__toggled
  m_Flip__toggled:Meth K cl.Flip "toggled" a_Flip__toggled
  a_mask_of_sequences:Addr
  fd_mask_of_sequences:FuncData
  F_mask_of_sequences:Fun K "mask_of" "mask_of" st_mask_of_sequences a_mask_of_sequences fd_mask_of_sequences
  g_mask_of_sequences:mg "mask_of_sequences" =some (.ref a_mask_of_sequences)
  a_row_masks:Addr
  fd_row_masks:FuncData
  F_row_masks:Fun K "row_masks" "row_masks" st_row_masks a_row_masks fd_row_masks
  g_row_masks:mg "row_masks" =some (.ref a_row_masks)
  a_Elimination____init__:Addr
  fd_Elimination____init__:FuncData
  F_Elimination____init__:Fun K "__init__" "Elimination.__init__" st_Elimination____init__ a_Elimination____init__ fd_Elimination____init__
  mk_Elimination:Mk K cl.Elimination a_Elimination____init__
  a_Elimination__reduced:Addr
  fd_Elimination__reduced:FuncData
  F_Elimination__reduced:Fun K "reduced" "Elimination.reduced" st_Elimination__reduced a_Elimination__reduced fd_Elimination__reduced
  m_Elimination__reduced:Meth K cl.Elimination "reduced" a_Elimination__reduced
  a_Elimination__take:Addr
  fd_Elimination__take:FuncData
  F_Elimination__take:Fun K "take" "Elimination.take" st_Elimination__take a_Elimination__take fd_Elimination__take
  m_Elimination__take:Meth K cl.Elimination "take" a_Elimination__take
  a_are_invertible:Addr
  fd_are_invertible:FuncData
  F_are_invertible:Fun K "are_invertible" "are_invertible" st_are_invertible a_are_invertible fd_are_invertible
  g_are_invertible:mg "are_invertible" =some (.ref a_are_invertible)
  a_Table____init__:Addr
  fd_Table____init__:FuncData
  F_Table____init__:Fun K "__init__" "Table.__init__" st_Table____init__ a_Table____init__ fd_Table____init__
  mk_Table:Mk K cl.Table a_Table____init__
  a_cells_in_sequences:Addr
  fd_cells_in_sequences:FuncData
  F_cells_in_sequences:Fun K "cells_in" "cells_in" st_cells_in_sequences a_cells_in_sequences fd_cells_in_sequences
  g_cells_in_sequences:mg "cells_in_sequences" =some (.ref a_cells_in_sequences)
  a_table_of:Addr
  fd_table_of:FuncData
  F_table_of:Fun K "table_of" "table_of" st_table_of a_table_of fd_table_of
  g_table_of:mg "table_of" =some (.ref a_table_of)
  a_is_odd:Addr
  fd_is_odd:FuncData
  F_is_odd:Fun K "is_odd" "is_odd" st_is_odd a_is_odd fd_is_odd
  g_is_odd:mg "is_odd" =some (.ref a_is_odd)
  a_Flip____init__:Addr
  fd_Flip____init__:FuncData
  F_Flip____init__:Fun K "__init__" "Flip.__init__" st_Flip____init__ a_Flip____init__ fd_Flip____init__
  mk_Flip:Mk K cl.Flip a_Flip____init__
  a__law_flip_of:Addr
  fd__law_flip_of:FuncData
  F__law_flip_of:Fun K "_law_flip_of" "_law_flip_of" st__law_flip_of a__law_flip_of fd__law_flip_of
  g__law_flip_of:mg "_law_flip_of" =some (.ref a__law_flip_of)
  a_identity_table:Addr
  fd_identity_table:FuncData
  F_identity_table:Fun K "identity_table" "identity_table" st_identity_table a_identity_table fd_identity_table
  g_identity_table:mg "identity_table" =some (.ref a_identity_table)
  a_cell_tuple__2:Addr
  fd_cell_tuple__2:FuncData
  F_cell_tuple__2:Fun K "cell_tuple" "cell_tuple" st_cell_tuple__2 a_cell_tuple__2 fd_cell_tuple__2
  g_cell_tuple__2:mg "cell_tuple" =some (.ref a_cell_tuple__2)
  D_cell_tuple__2:FunD K "cell_tuple" "cell_tuple" (defArgs st_cell_tuple__2) (defBody st_cell_tuple__2) (defScope st_cell_tuple__2) [] [("size",V.int 40)] a_cell_tuple__2 fd_cell_tuple__2
  a_row_masks__2:Addr
  fd_row_masks__2:FuncData
  F_row_masks__2:Fun K "row_masks" "row_masks" st_row_masks__2 a_row_masks__2 fd_row_masks__2
  g_row_masks__2:mg "row_masks" =some (.ref a_row_masks__2)
  a_Table____init____2:Addr
  fd_Table____init____2:FuncData
  F_Table____init____2:Fun K "__init__" "Table.__init__" st_Table____init____2 a_Table____init____2 fd_Table____init____2
  mk_Table__2:Mk K cl.Table a_Table____init____2
  a_Table____repr__:Addr
  fd_Table____repr__:FuncData
  F_Table____repr__:Fun K "__repr__" "Table.__repr__" st_Table____repr__ a_Table____repr__ fd_Table____repr__
  m_Table____repr__:Meth K cl.Table "__repr__" a_Table____repr__
  a_Table____len__:Addr
  fd_Table____len__:FuncData
  F_Table____len__:Fun K "__len__" "Table.__len__" st_Table____len__ a_Table____len__ fd_Table____len__
  m_Table____len__:Meth K cl.Table "__len__" a_Table____len__
  a_Table__row:Addr
  fd_Table__row:FuncData
  F_Table__row:Fun K "row" "Table.row" st_Table__row a_Table__row fd_Table__row
  m_Table__row:Meth K cl.Table "row" a_Table__row
  a_Table__size:Addr
  fd_Table__size:FuncData
  F_Table__size:Fun K "size" "Table.size" st_Table__size a_Table__size fd_Table__size
  m_Table__size:Meth K cl.Table "size" a_Table__size
  a__law_is_grid:Addr
  fd__law_is_grid:FuncData
  F__law_is_grid:Fun K "_law_is_grid" "_law_is_grid" st__law_is_grid a__law_is_grid fd__law_is_grid
  g__law_is_grid:mg "_law_is_grid" =some (.ref a__law_is_grid)
  a_Table____eq__:Addr
  fd_Table____eq__:FuncData
  F_Table____eq__:Fun K "__eq__" "Table.__eq__" st_Table____eq__ a_Table____eq__ fd_Table____eq__
  m_Table____eq__:Meth K cl.Table "__eq__" a_Table____eq__
  a_Table____eq____2:Addr
  fd_Table____eq____2:FuncData
  F_Table____eq____2:Fun K "__eq__" "Table.__eq__" st_Table____eq____2 a_Table____eq____2 fd_Table____eq____2
  m_Table____eq____2:Meth K cl.Table "__eq__" a_Table____eq____2
  a_Board____eq____2:Addr
  fd_Board____eq____2:FuncData
  F_Board____eq____2:Fun K "__eq__" "Board.__eq__" st_Board____eq____2 a_Board____eq____2 fd_Board____eq____2
  m_Board____eq____2:Meth K cl.Board "__eq__" a_Board____eq____2
  a__law_right:Addr
  fd__law_right:FuncData
  F__law_right:Fun K "_law_right" "_law_right" st__law_right a__law_right fd__law_right
  g__law_right:mg "_law_right" =some (.ref a__law_right)
  a__law_pairs:Addr
  fd__law_pairs:FuncData
  F__law_pairs:Fun K "_law_pairs" "_law_pairs" st__law_pairs a__law_pairs fd__law_pairs
  g__law_pairs:mg "_law_pairs" =some (.ref a__law_pairs)
  a_law:Addr
  fd_law:FuncData
  F_law:Fun K "law" "law" st_law a_law fd_law
  g_law:mg "law" =some (.ref a_law)
  g_CellError:mg "CellError" =some (.ref cl.CellError)
  q_CellError:ErrQ K cl.CellError
  g_LimitError:mg "LimitError" =some (.ref cl.LimitError)
  q_LimitError:ErrQ K cl.LimitError
  f_NoSize:Addr
  e_NoSize:ErrT K mg "NoSize" "CellError" "ValueError" "ValueError.__new__" "ValueError.__init__" [.type "ValueError",.type "Exception",.type "BaseException",.type "object"] "value" [] cl.NoSize cl.CellError f_NoSize st_NoSize
  q_NoSize:ErrQ K cl.NoSize
  f_NoCell:Addr
  e_NoCell:ErrT K mg "NoCell" "CellError" "ValueError" "ValueError.__new__" "ValueError.__init__" [.type "ValueError",.type "Exception",.type "BaseException",.type "object"] "cell" [] cl.NoCell cl.CellError f_NoCell st_NoCell
  q_NoCell:ErrQ K cl.NoCell
  f_NoCells:Addr
  e_NoCells:ErrT K mg "NoCells" "CellError" "ValueError" "ValueError.__new__" "ValueError.__init__" [.type "ValueError",.type "Exception",.type "BaseException",.type "object"] "cells" [] cl.NoCells cl.CellError f_NoCells st_NoCells
  q_NoCells:ErrQ K cl.NoCells
  f_NoFlip:Addr
  e_NoFlip:ErrT K mg "NoFlip" "CellError" "ValueError" "ValueError.__new__" "ValueError.__init__" [.type "ValueError",.type "Exception",.type "BaseException",.type "object"] "why" [] cl.NoFlip cl.CellError f_NoFlip st_NoFlip
  q_NoFlip:ErrQ K cl.NoFlip
  f_NoTable:Addr
  e_NoTable:ErrT K mg "NoTable" "CellError" "ValueError" "ValueError.__new__" "ValueError.__init__" [.type "ValueError",.type "Exception",.type "BaseException",.type "object"] "why" [] cl.NoTable cl.CellError f_NoTable st_NoTable
  q_NoTable:ErrQ K cl.NoTable
  f_TooWide:Addr
  e_TooWide:ErrT K mg "TooWide" "LimitError" "ArithmeticError" "ArithmeticError.__new__" "ArithmeticError.__init__" [.type "ArithmeticError",.type "Exception",.type "BaseException",.type "object"] "needed" [] cl.TooWide cl.LimitError f_TooWide st_TooWide
  q_TooWide:ErrQ K cl.TooWide
  cq:ClsQ K
  gc_Board:mg "Board" =some (.ref cl.Board)
  cls_Board:Cls K cl.Board
  ty_Board:InstT K cl.Board
  no_Board_own_size:NoAttr K cl.Board "own_size"
  no_Board_up_mask:NoAttr K cl.Board "up_mask"
  eq_Board__2:EqT K cl.Board a_Board____eq____2
  al_Board:AlT K cl.Board
  gc_Flip:mg "Flip" =some (.ref cl.Flip)
  cls_Flip:Cls K cl.Flip
  ty_Flip:InstT K cl.Flip
  no_Flip_test_mask:NoAttr K cl.Flip "test_mask"
  no_Flip_toggle_mask:NoAttr K cl.Flip "toggle_mask"
  gc_Elimination:mg "Elimination" =some (.ref cl.Elimination)
  cls_Elimination:Cls K cl.Elimination
  ty_Elimination:InstT K cl.Elimination
  no_Elimination_pivots:NoAttr K cl.Elimination "pivots"
  gc_Table:mg "Table" =some (.ref cl.Table)
  cls_Table:Cls K cl.Table
  ty_Table:InstT K cl.Table
  no_Table_masks:NoAttr K cl.Table "masks"
  eq_Table:EqT K cl.Table a_Table____eq__
  eq_Table__2:EqT K cl.Table a_Table____eq____2
  al_Table:AlT K cl.Table
  ap_Board_Table:Apart K cl.Board cl.Table
  ap_Table_Board:Apart K cl.Table cl.Board
  s_NoSize_NoCells:PySem.W.subIn K (.ref cl.NoSize) (.ref cl.NoCells)=some false
  s_NoCell_NoCells:PySem.W.subIn K (.ref cl.NoCell) (.ref cl.NoCells)=some false
  s_NoCells_NoCells:PySem.W.subIn K (.ref cl.NoCells) (.ref cl.NoCells)=some true
  s_NoFlip_NoCells:PySem.W.subIn K (.ref cl.NoFlip) (.ref cl.NoCells)=some false
  s_NoTable_NoCells:PySem.W.subIn K (.ref cl.NoTable) (.ref cl.NoCells)=some false
  s_TooWide_NoCells:PySem.W.subIn K (.ref cl.TooWide) (.ref cl.NoCells)=some false
  z_abs:mg "abs" =none
  z_all:mg "all" =none
  z_any:mg "any" =none
  z_bool:mg "bool" =none
  z_divmod:mg "divmod" =none
  z_enumerate:mg "enumerate" =none
  z_int:mg "int" =none
  z_isinstance:mg "isinstance" =none
  z_len:mg "len" =none
  z_list:mg "list" =none
  z_max:mg "max" =none
  z_min:mg "min" =none
  z_range:mg "range" =none
  z_repr:mg "repr" =none
  z_sorted:mg "sorted" =none
  z_sum:mg "sum" =none
  z_tuple:mg "tuple" =none
  z_zip:mg "zip" =none
  t_MOST_CELLS:Tok
  c_MOST_CELLS:mg "MOST_CELLS" =some (.int 40 t_MOST_CELLS)
section
variable {P : Program} {w : World} {K : PySem.W.Frag} {mg : Str → Option Value} {base : Heap} {cl : Cl}
theorem b__law_pot (T:Tx K mg cl):Binds K T.fd__law_pot ["_law_script","_law_k"] []:=T.F__law_pot.binds fun _ _ _ _ _ _ us hl=>match us,hl with | [_,_],_=>rfl
theorem b__law_draw (T:Tx K mg cl):Binds K T.fd__law_draw ["_law_pot_here","_law_many"] []:=T.F__law_draw.binds fun _ _ _ _ _ _ us hl=>match us,hl with | [_,_],_=>rfl
theorem b__law_width (T:Tx K mg cl):Binds K T.fd__law_width ["_law_pot_here","_law_most"] []:=T.F__law_width.binds fun _ _ _ _ _ _ us hl=>match us,hl with | [_,_],_=>rfl
theorem b__law_spots (T:Tx K mg cl):Binds K T.fd__law_spots ["_law_pot_here","_law_least","_law_width_here"] []:=T.F__law_spots.binds fun _ _ _ _ _ _ us hl=>match us,hl with | [_,_,_],_=>rfl
theorem b__law_pair (T:Tx K mg cl):Binds K T.fd__law_pair ["_law_pot_here","_law_width_here"] []:=T.F__law_pair.binds fun _ _ _ _ _ _ us hl=>match us,hl with | [_,_],_=>rfl
theorem b__law_added (T:Tx K mg cl):Binds K T.fd__law_added ["_law_some","_law_more"] []:=T.F__law_added.binds fun _ _ _ _ _ _ us hl=>match us,hl with | [_,_],_=>rfl
theorem b__law_lines (T:Tx K mg cl):Binds K T.fd__law_lines ["_law_width_here","_law_pairs_here"] []:=T.F__law_lines.binds fun _ _ _ _ _ _ us hl=>match us,hl with | [_,_],_=>rfl
theorem b_Board__size (T:Tx K mg cl):Binds K T.fd_Board__size ["self"] []:=T.F_Board__size.binds fun _ _ _ _ _ _ us hl=>match us,hl with | [_],_=>rfl
theorem b_is_integer_in (T:Tx K mg cl):Binds K T.fd_is_integer_in ["thing","low","high"] []:=T.F_is_integer_in.binds fun _ _ _ _ _ _ us hl=>match us,hl with | [_,_,_],_=>rfl
theorem b_require_size (T:Tx K mg cl):Binds K T.fd_require_size ["size"] []:=T.F_require_size.binds fun _ _ _ _ _ _ us hl=>match us,hl with | [_],_=>rfl
theorem b_mask_of_cells (T:Tx K mg cl):Binds K T.fd_mask_of_cells ["cells"] []:=T.F_mask_of_cells.binds fun _ _ _ _ _ _ us hl=>match us,hl with | [_],_=>rfl
theorem b_cell_mask (T:Tx K mg cl):Binds K T.fd_cell_mask ["things","size"] []:=T.F_cell_mask.binds fun _ _ _ _ _ _ us hl=>match us,hl with | [_,_],_=>rfl
theorem b_Board____init__ (T:Tx K mg cl): ∃ds,Vals ([("up",V.ref cl.d_Board____init___up)].map (·.2)) ds∧Binds K T.fd_Board____init__ ["self","size","up"] ds:=
  T.D_Board____init__.binds0 2 (by simp) rfl fun D doc pm an cdv ct us ks h1 h2=>match us,ks,h1,h2 with | [_,_],[_],_,_=>⟨_,_,_,_,_,_,rfl,rfl,rfl⟩
theorem b_Flip__width (T:Tx K mg cl):Binds K T.fd_Flip__width ["self"] []:=T.F_Flip__width.binds fun _ _ _ _ _ _ us hl=>match us,hl with | [_],_=>rfl
theorem b_cells_in_cells (T:Tx K mg cl):Binds K T.fd_cells_in_cells ["mask"] []:=T.F_cells_in_cells.binds fun _ _ _ _ _ _ us hl=>match us,hl with | [_],_=>rfl
theorem b_Flip__tested (T:Tx K mg cl):Binds K T.fd_Flip__tested ["self"] []:=T.F_Flip__tested.binds fun _ _ _ _ _ _ us hl=>match us,hl with | [_],_=>rfl
theorem b_Flip__toggled (T:Tx K mg cl):Binds K T.fd_Flip__toggled ["self"] []:=T.F_Flip__toggled.binds fun _ _ _ _ _ _ us hl=>match us,hl with | [_],_=>rfl
theorem b_mask_of_sequences (T:Tx K mg cl):Binds K T.fd_mask_of_sequences ["spots"] []:=T.F_mask_of_sequences.binds fun _ _ _ _ _ _ us hl=>match us,hl with | [_],_=>rfl
theorem b_row_masks (T:Tx K mg cl):Binds K T.fd_row_masks ["rows"] []:=T.F_row_masks.binds fun _ _ _ _ _ _ us hl=>match us,hl with | [_],_=>rfl
theorem b_Elimination____init__ (T:Tx K mg cl):Binds K T.fd_Elimination____init__ ["self"] []:=T.F_Elimination____init__.binds fun _ _ _ _ _ _ us hl=>match us,hl with | [_],_=>rfl
theorem b_Elimination__reduced (T:Tx K mg cl):Binds K T.fd_Elimination__reduced ["self","mask","items"] []:=T.F_Elimination__reduced.binds fun _ _ _ _ _ _ us hl=>match us,hl with | [_,_,_],_=>rfl
theorem b_Elimination__take (T:Tx K mg cl):Binds K T.fd_Elimination__take ["self","mask","items"] []:=T.F_Elimination__take.binds fun _ _ _ _ _ _ us hl=>match us,hl with | [_,_,_],_=>rfl
theorem b_are_invertible (T:Tx K mg cl):Binds K T.fd_are_invertible ["masks"] []:=T.F_are_invertible.binds fun _ _ _ _ _ _ us hl=>match us,hl with | [_],_=>rfl
theorem b_Table____init__ (T:Tx K mg cl):Binds K T.fd_Table____init__ ["self","rows"] []:=T.F_Table____init__.binds fun _ _ _ _ _ _ us hl=>match us,hl with | [_,_],_=>rfl
theorem b_cells_in_sequences (T:Tx K mg cl):Binds K T.fd_cells_in_sequences ["mask"] []:=T.F_cells_in_sequences.binds fun _ _ _ _ _ _ us hl=>match us,hl with | [_],_=>rfl
theorem b_table_of (T:Tx K mg cl):Binds K T.fd_table_of ["size","flips"] []:=T.F_table_of.binds fun _ _ _ _ _ _ us hl=>match us,hl with | [_,_],_=>rfl
theorem b_is_odd (T:Tx K mg cl):Binds K T.fd_is_odd ["mask"] []:=T.F_is_odd.binds fun _ _ _ _ _ _ us hl=>match us,hl with | [_],_=>rfl
theorem b_Flip____init__ (T:Tx K mg cl):Binds K T.fd_Flip____init__ ["self","tested","toggled"] []:=T.F_Flip____init__.binds fun _ _ _ _ _ _ us hl=>match us,hl with | [_,_,_],_=>rfl
theorem b__law_flip_of (T:Tx K mg cl):Binds K T.fd__law_flip_of ["_law_pair_here"] []:=T.F__law_flip_of.binds fun _ _ _ _ _ _ us hl=>match us,hl with | [_],_=>rfl
theorem b_identity_table (T:Tx K mg cl):Binds K T.fd_identity_table ["size"] []:=T.F_identity_table.binds fun _ _ _ _ _ _ us hl=>match us,hl with | [_],_=>rfl
theorem b_row_masks__2 (T:Tx K mg cl):Binds K T.fd_row_masks__2 ["rows"] []:=T.F_row_masks__2.binds fun _ _ _ _ _ _ us hl=>match us,hl with | [_],_=>rfl
theorem b_Table____init____2 (T:Tx K mg cl):Binds K T.fd_Table____init____2 ["self","rows"] []:=T.F_Table____init____2.binds fun _ _ _ _ _ _ us hl=>match us,hl with | [_,_],_=>rfl
theorem b_Table____repr__ (T:Tx K mg cl):Binds K T.fd_Table____repr__ ["self"] []:=T.F_Table____repr__.binds fun _ _ _ _ _ _ us hl=>match us,hl with | [_],_=>rfl
theorem b_Table____len__ (T:Tx K mg cl):Binds K T.fd_Table____len__ ["self"] []:=T.F_Table____len__.binds fun _ _ _ _ _ _ us hl=>match us,hl with | [_],_=>rfl
theorem b_Table__row (T:Tx K mg cl):Binds K T.fd_Table__row ["self","cell"] []:=T.F_Table__row.binds fun _ _ _ _ _ _ us hl=>match us,hl with | [_,_],_=>rfl
theorem b_Table__size (T:Tx K mg cl):Binds K T.fd_Table__size ["self"] []:=T.F_Table__size.binds fun _ _ _ _ _ _ us hl=>match us,hl with | [_],_=>rfl
theorem b__law_is_grid (T:Tx K mg cl):Binds K T.fd__law_is_grid ["_law_grid","_law_lines_here"] []:=T.F__law_is_grid.binds fun _ _ _ _ _ _ us hl=>match us,hl with | [_,_],_=>rfl
theorem b_Table____eq__ (T:Tx K mg cl):Binds K T.fd_Table____eq__ ["self","other"] []:=T.F_Table____eq__.binds fun _ _ _ _ _ _ us hl=>match us,hl with | [_,_],_=>rfl
theorem b_Table____eq____2 (T:Tx K mg cl):Binds K T.fd_Table____eq____2 ["self","other"] []:=T.F_Table____eq____2.binds fun _ _ _ _ _ _ us hl=>match us,hl with | [_,_],_=>rfl
theorem b_Board____eq____2 (T:Tx K mg cl):Binds K T.fd_Board____eq____2 ["self","other"] []:=T.F_Board____eq____2.binds fun _ _ _ _ _ _ us hl=>match us,hl with | [_,_],_=>rfl
theorem b__law_right (T:Tx K mg cl):Binds K T.fd__law_right ["_law_pot_here","_law_width_here","_law_pairs_here"] []:=T.F__law_right.binds fun _ _ _ _ _ _ us hl=>match us,hl with | [_,_,_],_=>rfl
theorem b__law_pairs (T:Tx K mg cl):Binds K T.fd__law_pairs ["_law_pot_here","_law_width_here","_law_most"] []:=T.F__law_pairs.binds fun _ _ _ _ _ _ us hl=>match us,hl with | [_,_,_],_=>rfl
theorem kb_cell_tuple__1_size (T:Tx K mg cl):KBinds K T.fd_cell_tuple ["things","size"] ["size"] (kwg 1 1 [0,1]) (kwg 1 1 [0,1]):=
  kb_of T.F_cell_tuple (by decide) fun _ _ _ _ _ _ us ws h1 h2=>match us,ws,h1,h2 with | [_],[_],_,_=>rfl
theorem kb_cell_tuple__2__1_size (T:Tx K mg cl):KBinds K T.fd_cell_tuple__2 ["things","size"] ["size"] (kwg 1 1 [0,1]) (kwg 1 1 [0,1]):=
  kb_of T.F_cell_tuple__2 (by decide) fun _ _ _ _ _ _ us ws h1 h2=>match us,ws,h1,h2 with | [_],[_],_,_=>rfl
theorem kb_is_cell__1_size (T:Tx K mg cl):KBinds K T.fd_is_cell ["thing","size"] ["size"] (kwg 1 1 [0,1]) (kwg 1 1 [0,1]):=
  kb_of T.F_is_cell (by decide) fun _ _ _ _ _ _ us ws h1 h2=>match us,ws,h1,h2 with | [_],[_],_,_=>rfl
def fs_Board (K:PySem.W.Frag) (cl:Cl):(Nat×Nat)→List (Str×Dm K):=fun x=> [("own_size",kI ((x.1:Int))),("up_mask",kI ((x.2:Int)))]
def k_Board (K:PySem.W.Frag) (cl:Cl):(Nat×Nat)→Dm K:=fun x=>dI cl.Board (fs_Board K cl x)
theorem fl_Board_own_size {x:(Nat×Nat)}:(fs_Board K cl x).lookup ("own_size" :Str)=some (kI ((x.1:Int))):=by rfl
theorem rc_Board_size:Rcv K (k_Board K cl) cl.Board "size" (fun _ _=>True):=rcv_I (fs:=fs_Board K cl) (fun _=>rfl) (fun _=>by rfl)
def fs_Flip (K:PySem.W.Frag) (cl:Cl):(Nat×Nat)→List (Str×Dm K):=fun x=> [("test_mask",kI ((x.1:Int))),("toggle_mask",kI ((x.2:Int)))]
def k_Flip (K:PySem.W.Frag) (cl:Cl):(Nat×Nat)→Dm K:=fun x=>dI cl.Flip (fs_Flip K cl x)
theorem fl_Flip_test_mask {x:(Nat×Nat)}:(fs_Flip K cl x).lookup ("test_mask" :Str)=some (kI ((x.1:Int))):=by rfl
theorem fl_Flip_toggle_mask {x:(Nat×Nat)}:(fs_Flip K cl x).lookup ("toggle_mask" :Str)=some (kI ((x.2:Int))):=by rfl
theorem rc_Flip_width:Rcv K (k_Flip K cl) cl.Flip "width" (fun _ _=>True):=rcv_I (fs:=fs_Flip K cl) (fun _=>rfl) (fun _=>by rfl)
theorem rc_Flip_tested:Rcv K (k_Flip K cl) cl.Flip "tested" (fun _ _=>True):=rcv_I (fs:=fs_Flip K cl) (fun _=>rfl) (fun _=>by rfl)
theorem rc_Flip_toggled:Rcv K (k_Flip K cl) cl.Flip "toggled" (fun _ _=>True):=rcv_I (fs:=fs_Flip K cl) (fun _=>rfl) (fun _=>by rfl)
def fs_Table (K:PySem.W.Frag) (cl:Cl):(List Nat)→List (Str×Dm K):=fun x=> [("masks",(kL kI) ((x.map fun (n:Nat)=>(n:Int))))]
def k_Table (K:PySem.W.Frag) (cl:Cl):(List Nat)→Dm K:=fun x=>dI cl.Table (fs_Table K cl x)
theorem fl_Table_masks {x:(List Nat)}:(fs_Table K cl x).lookup ("masks" :Str)=some ((kL kI) ((x.map fun (n:Nat)=>(n:Int)))):=by rfl
theorem rc_Table_row:Rcv K (k_Table K cl) cl.Table "row" (fun _ _=>True):=rcv_I (fs:=fs_Table K cl) (fun _=>rfl) (fun _=>by rfl)
theorem rc_Table_size:Rcv K (k_Table K cl) cl.Table "size" (fun _ _=>True):=rcv_I (fs:=fs_Table K cl) (fun _=>rfl) (fun _=>by rfl)
theorem ie_NoSize_NoCells (T:Tx K mg cl) {fs:List (Str×Dm K)}:wIsE (cl.NoSize,fs) (Value.ref cl.NoCells)=ret false:=isE_of T.q_NoSize T.cq (ErrQ.kit T.q_NoCells T.s_NoSize_NoCells)
theorem ct_NoSize_NoCells (T:Tx K mg cl) {α:Type} {fs:List (Str×Dm K)} {h n:Err K→W K α}:wCatch cl.NoCells h n (cl.NoSize,fs)=n (cl.NoSize,fs):=catch_n (ErrQ.exm T.q_NoCells T.s_NoSize_NoCells)
theorem ie_NoCell_NoCells (T:Tx K mg cl) {fs:List (Str×Dm K)}:wIsE (cl.NoCell,fs) (Value.ref cl.NoCells)=ret false:=isE_of T.q_NoCell T.cq (ErrQ.kit T.q_NoCells T.s_NoCell_NoCells)
theorem ct_NoCell_NoCells (T:Tx K mg cl) {α:Type} {fs:List (Str×Dm K)} {h n:Err K→W K α}:wCatch cl.NoCells h n (cl.NoCell,fs)=n (cl.NoCell,fs):=catch_n (ErrQ.exm T.q_NoCells T.s_NoCell_NoCells)
theorem ie_NoCells_NoCells (T:Tx K mg cl) {fs:List (Str×Dm K)}:wIsE (cl.NoCells,fs) (Value.ref cl.NoCells)=ret true:=isE_of T.q_NoCells T.cq (ErrQ.kit T.q_NoCells T.s_NoCells_NoCells)
theorem ct_NoCells_NoCells (T:Tx K mg cl) {α:Type} {fs:List (Str×Dm K)} {h n:Err K→W K α}:wCatch cl.NoCells h n (cl.NoCells,fs)=h (cl.NoCells,fs):=catch_y (ErrQ.exm T.q_NoCells T.s_NoCells_NoCells)
theorem ie_NoFlip_NoCells (T:Tx K mg cl) {fs:List (Str×Dm K)}:wIsE (cl.NoFlip,fs) (Value.ref cl.NoCells)=ret false:=isE_of T.q_NoFlip T.cq (ErrQ.kit T.q_NoCells T.s_NoFlip_NoCells)
theorem ct_NoFlip_NoCells (T:Tx K mg cl) {α:Type} {fs:List (Str×Dm K)} {h n:Err K→W K α}:wCatch cl.NoCells h n (cl.NoFlip,fs)=n (cl.NoFlip,fs):=catch_n (ErrQ.exm T.q_NoCells T.s_NoFlip_NoCells)
theorem ie_NoTable_NoCells (T:Tx K mg cl) {fs:List (Str×Dm K)}:wIsE (cl.NoTable,fs) (Value.ref cl.NoCells)=ret false:=isE_of T.q_NoTable T.cq (ErrQ.kit T.q_NoCells T.s_NoTable_NoCells)
theorem ct_NoTable_NoCells (T:Tx K mg cl) {α:Type} {fs:List (Str×Dm K)} {h n:Err K→W K α}:wCatch cl.NoCells h n (cl.NoTable,fs)=n (cl.NoTable,fs):=catch_n (ErrQ.exm T.q_NoCells T.s_NoTable_NoCells)
theorem ie_TooWide_NoCells (T:Tx K mg cl) {fs:List (Str×Dm K)}:wIsE (cl.TooWide,fs) (Value.ref cl.NoCells)=ret false:=isE_of T.q_TooWide T.cq (ErrQ.kit T.q_NoCells T.s_TooWide_NoCells)
theorem ct_TooWide_NoCells (T:Tx K mg cl) {α:Type} {fs:List (Str×Dm K)} {h n:Err K→W K α}:wCatch cl.NoCells h n (cl.TooWide,fs)=n (cl.TooWide,fs):=catch_n (ErrQ.exm T.q_NoCells T.s_TooWide_NoCells)
theorem ies_NoSize (T:Tx K mg cl) {fs:List (Str×Dm K)} {us:List Value}:wIsEs (cl.NoSize,fs) us=wIsGo (cl.NoSize,fs) us:=isEs_of T.q_NoSize T.cq
theorem ies_NoCell (T:Tx K mg cl) {fs:List (Str×Dm K)} {us:List Value}:wIsEs (cl.NoCell,fs) us=wIsGo (cl.NoCell,fs) us:=isEs_of T.q_NoCell T.cq
theorem ies_NoCells (T:Tx K mg cl) {fs:List (Str×Dm K)} {us:List Value}:wIsEs (cl.NoCells,fs) us=wIsGo (cl.NoCells,fs) us:=isEs_of T.q_NoCells T.cq
theorem ies_NoFlip (T:Tx K mg cl) {fs:List (Str×Dm K)} {us:List Value}:wIsEs (cl.NoFlip,fs) us=wIsGo (cl.NoFlip,fs) us:=isEs_of T.q_NoFlip T.cq
theorem ies_NoTable (T:Tx K mg cl) {fs:List (Str×Dm K)} {us:List Value}:wIsEs (cl.NoTable,fs) us=wIsGo (cl.NoTable,fs) us:=isEs_of T.q_NoTable T.cq
theorem ies_TooWide (T:Tx K mg cl) {fs:List (Str×Dm K)} {us:List Value}:wIsEs (cl.TooWide,fs) us=wIsGo (cl.TooWide,fs) us:=isEs_of T.q_TooWide T.cq
local macro_rules | `(tactic| wtm_at "cls") => `(tactic| first | exact Tx.cls_Board (by assumption) | exact Tx.cls_Flip (by assumption) | exact Tx.cls_Elimination (by assumption) | exact Tx.cls_Table (by assumption))
local macro_rules | `(tactic| wtm_at "noat") => `(tactic| first | exact Tx.no_Board_own_size (by assumption) | exact Tx.no_Board_up_mask (by assumption) | exact Tx.no_Flip_test_mask (by assumption) | exact Tx.no_Flip_toggle_mask (by assumption) | exact Tx.no_Elimination_pivots (by assumption) | exact Tx.no_Table_masks (by assumption))
local macro_rules | `(tactic| wtm_at "isc") => `(tactic| first | exact Tx.ty_Board (by assumption) | exact Tx.ty_Flip (by assumption) | exact Tx.ty_Elimination (by assumption) | exact Tx.ty_Table (by assumption))
local macro_rules | `(tactic| wtm_at "kit") => `(tactic| first | exact ErrQ.kit (Tx.q_NoCells (by assumption)) (Tx.s_NoSize_NoCells (by assumption)) | exact ErrQ.kit (Tx.q_NoCells (by assumption)) (Tx.s_NoCell_NoCells (by assumption)) | exact ErrQ.kit (Tx.q_NoCells (by assumption)) (Tx.s_NoCells_NoCells (by assumption)) | exact ErrQ.kit (Tx.q_NoCells (by assumption)) (Tx.s_NoFlip_NoCells (by assumption)) | exact ErrQ.kit (Tx.q_NoCells (by assumption)) (Tx.s_NoTable_NoCells (by assumption)) | exact ErrQ.kit (Tx.q_NoCells (by assumption)) (Tx.s_TooWide_NoCells (by assumption)))
local macro_rules | `(tactic| wtm_at "exm") => `(tactic| first | exact ErrQ.exm (Tx.q_NoCells (by assumption)) (Tx.s_NoSize_NoCells (by assumption)) | exact ErrQ.exm (Tx.q_NoCells (by assumption)) (Tx.s_NoCell_NoCells (by assumption)) | exact ErrQ.exm (Tx.q_NoCells (by assumption)) (Tx.s_NoCells_NoCells (by assumption)) | exact ErrQ.exm (Tx.q_NoCells (by assumption)) (Tx.s_NoFlip_NoCells (by assumption)) | exact ErrQ.exm (Tx.q_NoCells (by assumption)) (Tx.s_NoTable_NoCells (by assumption)) | exact ErrQ.exm (Tx.q_NoCells (by assumption)) (Tx.s_TooWide_NoCells (by assumption)))
local macro_rules | `(tactic| wtm_at "erq") => `(tactic| first | exact Tx.q_NoSize (by assumption) | exact Tx.q_NoCell (by assumption) | exact Tx.q_NoCells (by assumption) | exact Tx.q_NoFlip (by assumption) | exact Tx.q_NoTable (by assumption) | exact Tx.q_TooWide (by assumption) | exact Tx.q_CellError (by assumption) | exact Tx.q_LimitError (by assumption))
local macro_rules | `(tactic| wtm_at "kita") => `(tactic| first | exact kita_nil | (apply kita_no (by wtm_at "kit"); wtm_at "kita") | exact kita_yes (by wtm_at "kit"))
local macro_rules | `(tactic| wtm_at "kcl") => `(tactic| first | exact Paired.nil | (apply Paired.cons (ClsV.own _); wtm_at "kcl") | (apply Paired.cons (ClsV.ty _); wtm_at "kcl"))
local macro_rules | `(tactic| wtm_at "xd") => `(tactic| first | assumption | exact R.xdW (by assumption) (by wtm_at "r"))
local macro_rules | `(tactic| wtm_at "ei") => `(tactic| refine ⟨_, _, _, _, _, rfl, rfl, rfl, by wtm_at "xd", by wtm_at "erq", by exact Tx.cq (by assumption), .inl ⟨_, by first | exact .own _ | exact .ty _, by wtm_at "kit"⟩, ?_⟩)
local macro_rules | `(tactic| wtm_at "et") => `(tactic| refine ⟨_, _, _, _, _, rfl, rfl, rfl, by wtm_at "xd", by wtm_at "erq", by exact Tx.cq (by assumption), .inr ⟨_, _, _, rfl, by assumption, by wtm_at "kcl", by wtm_at "kita"⟩, ?_⟩)
local macro_rules | `(tactic| wtm_at "xf") => `(tactic| refine ⟨rfl, rfl, _, _, _, rfl, by wtm_at "xd", by rfl, ?_⟩)
local macro_rules | `(tactic| wtm_at "e") => `(tactic| simp only [ie_NoSize_NoCells (by assumption), ct_NoSize_NoCells (by assumption), ie_NoCell_NoCells (by assumption), ct_NoCell_NoCells (by assumption), ie_NoCells_NoCells (by assumption), ct_NoCells_NoCells (by assumption), ie_NoFlip_NoCells (by assumption), ct_NoFlip_NoCells (by assumption), ie_NoTable_NoCells (by assumption), ct_NoTable_NoCells (by assumption), ie_TooWide_NoCells (by assumption), ct_TooWide_NoCells (by assumption), ies_NoSize (by assumption), ies_NoCell (by assumption), ies_NoCells (by assumption), ies_NoFlip (by assumption), ies_NoTable (by assumption), ies_TooWide (by assumption), isGo_nil, isGo_cons])
def w__law_pot (K:PySem.W.Frag) (cl:Cl):(List Int)×Int×Unit→W K Addr:=fun x Q E S=>0≤x.2.1∧x.2.1<100∧ ∀p,S p=none→Q p (S.set p .pot)
abbrev sp__law_pot (K:PySem.W.Frag) (cl:Cl):Sp:=lift K (fun x:(List Int)×Int×Unit=> [kSc x.1,kI x.2.1]) kRef (w__law_pot K cl)
def spo__law_pot (K:PySem.W.Frag) (cl:Cl):Sp:=fun vs H Q _=> ∃(a:Addr) (ns:List Int) (k:Nat),vs= [.ref a,.int k]∧SqL K H a (ns.map V.int)∧k<100∧ ∀p o,H p=none→Pot p (upd H p o)→Q (.ref p) (upd H p o)
theorem okd__law_pot (T:Tx K mg cl):FnG P w K mg base 1 T.a__law_pot T.fd__law_pot ["_law_script","_law_k"] (spo__law_pot K cl):=by
  refine FnG.ok T.F__law_pot sc__law_pot (fun vs H Q E h=> ?_) (fun cdv A outer s H vs Q E hg hr h=> ?_)
  · obtain⟨_,_,_,rfl,_,_,_⟩:=h
    rfl
  · obtain⟨a,ns,k,rfl,hS,hk,q⟩:=h
    refine⟨_,pss_cons (ps_set (i:=2) sc__law_pot.nd rfl (by first | exact Or.inl rfl | exact Or.inr rfl) (pe_ifExp (pt_cmpR op_lt (pv 1) (pe_callB (kx_len (K:=K) rfl) (by rfl) T.z_len bt_len (pa_cons (pv 0) pa_nil)) (nomark _)) (pe_ix (kx_ix (K:=K) rfl) (pv 0) (pv 1) (fun _ _=>rfl)) (pe_int)))
    (pss_one (ps_ret (pe_lst (pa_cons (pe_callB (call_max2 rfl) (by rfl) T.z_max bt_max (pa_cons (pe_int) (pa_cons (pe_op op_sub (pe_callB call_abs (by rfl) T.z_abs bt_abs (pa_cons (pv 2) pa_nil)) (pe_op op_pow (pe_int) (pe_int))) pa_nil))) (pa_cons (pe_op op_modA (pe_op (kx_add (K:=K) rfl) (pe_op (kx_add (K:=K) rfl) (pe_op op_mul (pe_op op_modA (pe_callB call_abs (by rfl) T.z_abs bt_abs (pa_cons (pv 2) pa_nil)) (pe_int)) (pe_int)) (pe_op op_mul (pe_int) (pv 1))) (pe_int)) (pe_int)) pa_nil))))),?_⟩
    try dsimp only[cxg,cxOf,Cx.nox,Cx.wish]
    wtm_at "v"
    refine .inl ⟨a,_,rfl,.inl hS,?_⟩
    wtm_at "v"
    refine ite_d (fun h0=> ?_) (fun h0=> ?_)
    · rw[List.length_map] at h0
      wtm_at "v"
      refine s_script hS (by omega) (fun z hz=> ?_)
      wtm_at "v"
      refine⟨by simp;decide,fun p hp=>q _ _ hp ⟨_,_,upd_same,by split <;> omega,Int.emod_nonneg _ (by decide),Int.emod_lt_of_pos _ (by decide)⟩⟩
    · wtm_at "v"
      refine⟨by simp;decide,fun p hp=>q _ _ hp ⟨_,_,upd_same,by split <;> omega,Int.emod_nonneg _ (by decide),Int.emod_lt_of_pos _ (by decide)⟩⟩
theorem ok__law_pot (T:Tx K mg cl):FnG P w K mg base 1 T.a__law_pot T.fd__law_pot ["_law_script","_law_k"] (sp__law_pot K cl):=(okd__law_pot T).imp fun vs H Q E h=>by
  obtain⟨S,F,x,Qp,Ep,wd,ha,⟨h0,h1,hw⟩,hQ,hE⟩:=h
  obtain⟨v,w,rfl,⟨a,rfl,n,hS⟩,hk⟩:=at2 ha
  obtain rfl:=at_int hk
  refine⟨a,x.1,x.2.1.toNat,by rw[Int.toNat_of_nonneg h0],hS,by omega,fun p o hp hP=> ?_⟩
  exact hQ p _ _ _ (hw p (wd.sfree hp)) (wd.newS hp hP) rfl
def w__law_draw (K:PySem.W.Frag) (cl:Cl):Addr×Int×Unit→W K Int:=fun x Q E S=>S x.1=some .pot∧0<x.2.1∧x.2.1<2 ^ 200∧ ∀d,0≤d→d<x.2.1→Q d S
abbrev sp__law_draw (K:PySem.W.Frag) (cl:Cl):Sp:=lift K (fun x:Addr×Int×Unit=> [kRef x.1,kI x.2.1]) kI (w__law_draw K cl)
def spo__law_draw (K:PySem.W.Frag) (cl:Cl):Sp:=fun vs H Q _=> ∃p n,vs= [.ref p,.int n]∧Pot p H∧0<n∧n.natAbs<2 ^ 200∧ ∀H' d,R p H H'→0≤d→d<n→Q (.int d) H'
theorem okd__law_draw (T:Tx K mg cl):FnG P w K mg base 1 T.a__law_draw T.fd__law_draw ["_law_pot_here","_law_many"] (spo__law_draw K cl):=by
  refine FnG.ok T.F__law_draw sc__law_draw (fun vs H Q E h=> ?_) (fun cdv A outer s H vs Q E hg hr h=> ?_)
  · obtain⟨_,_,rfl,⟨_,_,_,_,_,_⟩,_,_,_⟩:=h
    rfl
  · obtain⟨p,n,rfl,⟨a,b,e,ha,hb,hb2⟩,hn,hn2,q⟩:=h
    refine⟨_,pss_cons (ps_if (pt_cmpR op_gt (pe_ix (kx_ix (K:=K) rfl) (pv 0) (pe_int) (fun _ _=>rfl)) (pe_int) (nomark _)) (pss_cons (ps_asg (pe_callB PC.call_divmodW (by rfl) T.z_divmod bt_divmod (pa_cons (pe_ix (kx_ix (K:=K) rfl) (pv 0) (pe_int) (fun _ _=>rfl)) (pa_cons (pv 1) pa_nil))) (pg_tupK (K:=K) rfl rfl (pgs_cons (pg_sub (pv 0) (pe_int) set_list) (pgs_cons (pg_name (i:=2) sc__law_draw.nd rfl (by first | exact Or.inl rfl | exact Or.inr rfl)) pgs_nil))))
    (pss_one (ps_ret (pv 2)))) pss_nil)
    (pss_cons (ps_asg (pe_op op_modA (pe_op (kx_add (K:=K) rfl) (pe_op op_mul (pe_ix (kx_ix (K:=K) rfl) (pv 0) (pe_int) (fun _ _=>rfl)) (pe_int)) (pe_int)) (pe_int)) (pg_sub (pv 0) (pe_int) set_list))
    (pss_one (ps_ret (pe_op op_modA (pe_op op_fdivA (pe_op op_modA (pe_op op_mul (pe_ix (kx_ix (K:=K) rfl) (pv 0) (pe_int) (fun _ _=>rfl)) (pe_ix (kx_ix (K:=K) rfl) (pv 0) (pe_int) (fun _ _=>rfl))) (pe_int)) (pe_int)) (pv 1))))),?_⟩
    try dsimp only[cxg,cxOf,Cx.nox,Cx.wish]
    have nf: ∀x u,HO.lst [.int a,.int b]≠ .frz x u:=fun x u z=>by cases z
    wtm_at "v"
    refine s_pot0 e ?_
    wtm_at "v"
    refine ite_d (fun h0=> ?_) (fun h0=> ?_)
    · wtm_at "v"
      refine s_pot0 e ?_
      wtm_at "v"
      refine⟨wide_div hn hn2 (by decide) (by decide),fun t ht=> ?_⟩
      have e':(upd H t (.tup [.int (a / n),.int (a % n)])) p=some (.lst [.int a,.int b]):=by
        rw[upd_ne (ne_of_none e ht)];exact e
      refine s_gtup (SqT.of upd_same) rfl ?_
      wtm_at "v"
      refine s_pset0 e' ?_
      wtm_at "v"
      refine q _ _ ((R.new ht).trans (R.draw e' nf (Int.ediv_nonneg ha (by omega)) hb hb2)) (Int.emod_nonneg _ (by omega)) (Int.emod_lt_of_pos _ hn)
    · wtm_at "v"
      refine s_pot1 e ?_
      wtm_at "v"
      refine s_pset1 e ?_
      have hb':=Int.emod_nonneg (b * 39373+12227) (show (2147483629:Int)≠0 by decide)
      have hb3:=Int.emod_lt_of_pos (b * 39373+12227) (show (0:Int)<2147483629 by decide)
      generalize (b * 39373+12227) % 2147483629=c at hb' hb3
      have e2:(upd H p (.lst [.int a,.int c])) p=some (.lst [.int a,.int c]):=upd_same
      wtm_at "v"
      refine s_pot1 e2 ?_
      wtm_at "v"
      refine s_pot1 e2 ?_
      wtm_at "v"
      wtm_at "v"
      exact q _ _ (R.draw e nf ha hb' (by omega)) (Int.emod_nonneg _ (by omega)) (Int.emod_lt_of_pos _ hn)
theorem ok__law_draw (T:Tx K mg cl):FnG P w K mg base 1 T.a__law_draw T.fd__law_draw ["_law_pot_here","_law_many"] (sp__law_draw K cl):=(okd__law_draw T).imp fun vs H Q E h=>by
  obtain⟨S,F,x,Qp,Ep,wd,ha,⟨hp,h0,h1,hw⟩,hQ,hE⟩:=h
  obtain⟨v,w,rfl,hv,hk⟩:=at2 ha
  obtain rfl:=at_int hk
  cases (show v= .ref x.1 from hv)
  exact⟨x.1,x.2.1,rfl,wd.cell _ _ hp,h0,by omega,fun H' d r d0 d1=>hQ d S H' _ (hw d d0 d1) (nxt_pot wd hp r) mk_int⟩
def w__law_width (K:PySem.W.Frag) (cl:Cl):Addr×Int×Unit→W K Int:=fun x=>outW (bnd (bnd (bnd (bnd (bnd (bnd (ret (3:Int)) fun p5=>(bnd (bnd (ret x.2.1) fun p3=>(bnd (ret ()) fun p4=>(ret (p3,p4)))) fun p6=>(ret (p5,p6)))) fun y2=>(ret (min y2.1 y2.2.1))) fun p25=>(bnd (bnd (bnd (bnd (ret (5:Int)) fun p10=>(bnd (bnd (ret x.2.1) fun p8=>(bnd (ret ()) fun p9=>(ret (p8,p9)))) fun p11=>(ret (p10,p11)))) fun y7=>(ret (min y7.1 y7.2.1))) fun p23=>(bnd (bnd (bnd (ret (1:Int)) fun v19=>(bnd (bnd (bnd (ret x.1) fun p17=>(bnd (bnd (ret x.2.1) fun p15=>(bnd (ret ()) fun p16=>(ret (p15,p16)))) fun p18=>(ret (p17,p18)))) fun p12=>(w__law_draw K cl p12)) fun v20=>(ret (v19+v20)))) fun p21=>(bnd (ret ()) fun p22=>(ret (p21,p22)))) fun p24=>(ret (p23,p24)))) fun p26=>(ret (p25,p26)))) fun y1=>(ret ([y1.1,y1.2.1,y1.2.2.1]:List Int))) fun v35=>(bnd (bnd (bnd (ret x.1) fun p33=>(bnd (bnd (ret (3:Int)) fun p31=>(bnd (ret ()) fun p32=>(ret (p31,p32)))) fun p34=>(ret (p33,p34)))) fun p28=>(w__law_draw K cl p28)) fun v36=>(wIx v35 v36))) fun v37=>(ret (Flow.rt v37))) none
abbrev sp__law_width (K:PySem.W.Frag) (cl:Cl):Sp:=lift K (fun x:Addr×Int×Unit=> [kRef x.1,kI x.2.1]) kI (w__law_width K cl)
theorem ok__law_width (T:Tx K mg cl):FnG P w K mg base 2 T.a__law_width T.fd__law_width ["_law_pot_here","_law_most"] (sp__law_width K cl):=
  okL T.F__law_width sc__law_width (fun _=>rfl) none (fun y e=>nomatch e) (fun cdv A outer s H E hg hr=>by
    refine⟨_,pss_one (ps_ret (pe_ix (kx_ix (K:=K) rfl) (pe_lst (pa_cons (pe_callB (call_min2 rfl) (by rfl) T.z_min bt_min (pa_cons (pe_int) (pa_cons (pv 1) pa_nil))) (pa_cons (pe_callB (call_min2 rfl) (by rfl) T.z_min bt_min (pa_cons (pe_int) (pa_cons (pv 1) pa_nil))) (pa_cons (pe_op (kx_add (K:=K) rfl) (pe_int) (pe_fnS ((ok__law_draw T).atS hg (hr.mono (by decide)) (b__law_draw T) .nil (takes_of rfl rfl rfl rfl)) rfl T.g__law_draw T.F__law_draw.kp (pa_cons (pv 0) (pa_cons (pv 1) pa_nil)))) pa_nil)))) (pe_fnS ((ok__law_draw T).atS hg (hr.mono (by decide)) (b__law_draw T) .nil (takes_of rfl rfl rfl rfl)) rfl T.g__law_draw T.F__law_draw.kp (pa_cons (pv 0) (pa_cons (pe_int) pa_nil))) (fun _ _=>rfl))),?_⟩
    exact⟨_,fun x=>(simS_ret le_none (sim_op os_ixL (sim_lstK (r:=kI) (fun y1:Int×Int×Int×Unit=>([y1.1,y1.2.1,y1.2.2.1]:List Int)) (fun _=>rfl) (fun _=>(by decide:3≤50000)) (simA_cons (sim_callB cb_min2 (simA_cons sim_i (simA_cons (sim_var (i:=1) (r:=kI) (x:=x.2.1) rfl) simA_nil))) (simA_cons (sim_callB cb_min2 (simA_cons sim_i (simA_cons (sim_var (i:=1) (r:=kI) (x:=x.2.1) rfl) simA_nil))) (simA_cons (sim_op os_add sim_i (sim_call (cal_lift (w:=w__law_draw K cl)) (simA_cons (sim_var (i:=0) (r:=kRef) (x:=x.1) rfl) (simA_cons (sim_var (i:=1) (r:=kI) (x:=x.2.1) rfl) simA_nil)))) simA_nil)))) (sim_call (cal_lift (w:=w__law_draw K cl)) (simA_cons (sim_var (i:=0) (r:=kRef) (x:=x.1) rfl) (simA_cons sim_i simA_nil))))),fun _ _ _ _ h=>h⟩)
def w__law_spots (K:PySem.W.Frag) (cl:Cl):Addr×Int×Int×Unit→W K (List Int):=fun x=>outW (bnd (bnd (bnd (ret x.1) fun p6=>(bnd (bnd (ret (5:Int)) fun p4=>(bnd (ret ()) fun p5=>(ret (p4,p5)))) fun p7=>(ret (p6,p7)))) fun p1=>(w__law_draw K cl p1)) fun (way_8:Int)=>(bnd (bnd (bnd (ret way_8) fun v9=>(bnd (ret (0:Int)) fun v10=>(ret (decide (v9=v10))))) fun v13=>(wIf v13 (ret true) (bnd (ret x.2.2.1) fun v11=>(bnd (ret x.2.1) fun v12=>(ret (decide (v11≤v12))))))) fun v57=>(wIf v57 (bnd (bnd (ret ()) fun y14=>(ret ([]:List Int))) fun v15=>(ret (Flow.rt v15))) (bnd (bnd (ret way_8) fun v16=>(bnd (ret (1:Int)) fun v17=>(ret (decide (v16=v17))))) fun v56=>(wIf v56 (bnd (bnd (bnd (bnd (ret x.2.1) fun v28=>(bnd (bnd (bnd (ret x.1) fun p26=>(bnd (bnd (bnd (ret x.2.2.1) fun v19=>(bnd (ret x.2.1) fun v20=>(ret (v19 - v20)))) fun p24=>(bnd (ret ()) fun p25=>(ret (p24,p25)))) fun p27=>(ret (p26,p27)))) fun p21=>(w__law_draw K cl p21)) fun v29=>(ret (v28+v29)))) fun p30=>(bnd (ret ()) fun p31=>(ret (p30,p31)))) fun y18=>(ret ([y18.1]:List Int))) fun v32=>(ret (Flow.rt v32))) (bnd (bnd (ret way_8) fun v33=>(bnd (ret (2:Int)) fun v34=>(ret (decide (v33=v34))))) fun v55=>(wIf v55 (bnd (bnd (ret x.2.1) fun v35=>(bnd (ret x.2.2.1) fun v36=>(wAss (RgOk v35 v36) (ret (rng v35 v36))))) fun v37=>(ret (Flow.rt v37))) (bnd (bnd (bnd (bnd (ret x.2.1) fun p41=>(bnd (bnd (ret x.2.2.1) fun p39=>(bnd (ret ()) fun p40=>(ret (p39,p40)))) fun p42=>(ret (p41,p42)))) fun y38=>(wAss (-(2 ^ 62)≤y38.1∧y38.1<2 ^ 62∧ -(2 ^ 62)≤y38.2.1∧y38.2.1<2 ^ 62) (ret (rng y38.1 y38.2.1,nI)))) fun y44=>(wAss (y44.1.length≤50000) (wCalm (fmapW y44.2 (fun (x43:Int)=>(bnd (bnd (bnd (ret x.1) fun p50=>(bnd (bnd (ret (2:Int)) fun p48=>(bnd (ret ()) fun p49=>(ret (p48,p49)))) fun p51=>(ret (p50,p51)))) fun p45=>(w__law_draw K cl p45)) fun v52=>(bnd (ret (0:Int)) fun v53=>(ret (decide (v52=v53)))))) (fun (x43:Int)=>(ret x43)) y44.1)))) fun v54=>(ret (Flow.rt v54)))))))))) none
abbrev sp__law_spots (K:PySem.W.Frag) (cl:Cl):Sp:=lift K (fun x:Addr×Int×Int×Unit=> [kRef x.1,kI x.2.1,kI x.2.2.1]) (kL kI) (w__law_spots K cl)
theorem ok__law_spots (T:Tx K mg cl):FnG P w K mg base 2 T.a__law_spots T.fd__law_spots ["_law_pot_here","_law_least","_law_width_here"] (sp__law_spots K cl):=
  okL T.F__law_spots sc__law_spots (fun _=>rfl) none (fun y e=>nomatch e) (fun cdv A outer s H E hg hr=>by
    refine⟨_,pss_cons (ps_set (i:=3) sc__law_spots.nd rfl (by first | exact Or.inl rfl | exact Or.inr rfl) (pe_fnS ((ok__law_draw T).atS hg (hr.mono (by decide)) (b__law_draw T) .nil (takes_of rfl rfl rfl rfl)) rfl T.g__law_draw T.F__law_draw.kp (pa_cons (pv 0) (pa_cons (pe_int) pa_nil))))
    (pss_cons (ps_if (PW.pt (pw_or (pt_cmpR (kx_eq (K:=K) rfl hr) (pv 3) (pe_int) (nomark _)) (pw_or1 (pt_cmpR op_le (pv 2) (pv 1) (nomark _))))) (pss_one (ps_ret (pe_lst (pa_nil)))) pss_nil)
    (pss_cons (ps_if (pt_cmpR (kx_eq (K:=K) rfl hr) (pv 3) (pe_int) (nomark _)) (pss_one (ps_ret (pe_lst (pa_cons (pe_op (kx_add (K:=K) rfl) (pv 1) (pe_fnS ((ok__law_draw T).atS hg (hr.mono (by decide)) (b__law_draw T) .nil (takes_of rfl rfl rfl rfl)) rfl T.g__law_draw T.F__law_draw.kp (pa_cons (pv 0) (pa_cons (pe_op op_sub (pv 2) (pv 1)) pa_nil)))) pa_nil)))) pss_nil)
    (pss_cons (ps_if (pt_cmpR (kx_eq (K:=K) rfl hr) (pv 3) (pe_int) (nomark _)) (pss_one (ps_ret (pe_listRg rfl rfl T.z_list (prg_2 rfl T.z_range (pv 1) (pv 2))))) pss_nil)
    (pss_one (ps_ret (pe_lc (own:= [("_law_spot",4)]) (g:=gName 4)  rfl sc__law_spots.nd (pi_range2 rfl T.z_range (pa_cons (pv 1) (pa_cons (pv 2) pa_nil))) (blkOk_by (own:= [("_law_spot",4)]) (N:=N__law_spots) (sc:=defScope st__law_spots) (by decide +kernel)) (fun _ _ _ _ _=>pg_name (i:=4) sc__law_spots.nd rfl (by first | exact Or.inl rfl | exact Or.inr rfl)) (fun _ _ _ _ _=>pts_one (pt_cmpR (kx_eq (K:=K) rfl hr) (pe_fnS ((ok__law_draw T).atS hg (hr.mono (by decide)) (b__law_draw T) .nil takes0) rfl T.g__law_draw T.F__law_draw.kp (pa_cons (pv 0) (pa_cons (pe_int) pa_nil))) (pe_int) (nomark _))) (fun _ _ _ _ _=>pv 4))))))),?_⟩
    exact⟨_,fun x=>(simS_seq (simS_asg simG_name le_none (sim_call (cal_lift (w:=w__law_draw K cl)) (simA_cons (sim_var (i:=0) (r:=kRef) (x:=x.1) rfl) (simA_cons sim_i simA_nil))) (fun (way_8:Int)=>(show SimS _ _ ([some (kRef x.1),some (kI x.2.1),some (kI x.2.2.1),some (kI way_8),none]:Gm K) _ _ _ _ from (simS_seq (simS_if le_none (simB_or (simB_test (sim_op os_eqI (sim_var (i:=3) (r:=kI) (x:=way_8) rfl) sim_i)) (simB_test (sim_op os_B0 (sim_var (i:=2) (r:=kI) (x:=x.2.2.1) rfl) (sim_var (i:=1) (r:=kI) (x:=x.2.1) rfl)))) (simS_ret le_none (sim_lstK (r:=kI) (fun y14:Unit=>([]:List Int)) (fun _=>rfl) (fun _=>(by decide:0≤50000)) simA_nil)) (simS_next (simS_seq (simS_if le_none (simB_test (sim_op os_eqI (sim_var (i:=3) (r:=kI) (x:=way_8) rfl) sim_i)) (simS_ret le_none (sim_lstK (r:=kI) (fun y18:Int×Unit=>([y18.1]:List Int)) (fun _=>rfl) (fun _=>(by decide:1≤50000)) (simA_cons (sim_op os_add (sim_var (i:=1) (r:=kI) (x:=x.2.1) rfl) (sim_call (cal_lift (w:=w__law_draw K cl)) (simA_cons (sim_var (i:=0) (r:=kRef) (x:=x.1) rfl) (simA_cons (sim_op os_I0 (sim_var (i:=2) (r:=kI) (x:=x.2.2.1) rfl) (sim_var (i:=1) (r:=kI) (x:=x.2.1) rfl)) simA_nil)))) simA_nil))) (simS_next (simS_seq (simS_if le_none (simB_test (sim_op os_eqI (sim_var (i:=3) (r:=kI) (x:=way_8) rfl) sim_i)) (simS_ret le_none (sim_new (simN_lstR2 (sim_var (i:=1) (r:=kI) (x:=x.2.1) rfl) (sim_var (i:=2) (r:=kI) (x:=x.2.2.1) rfl)))) (simS_next (simS_ret le_none (sim_lc (simI_r2 (simA_cons (sim_var (i:=1) (r:=kI) (x:=x.2.1) rfl) (simA_cons (sim_var (i:=2) (r:=kI) (x:=x.2.2.1) rfl) simA_nil))) simG_name (fun _ _ hy=>hy) (fun (x43:Int)=>(simB_test (sim_op os_eqI (sim_call (cal_lift (w:=w__law_draw K cl)) (simA_cons (sim_var (i:=0) (r:=kRef) (x:=x.1) rfl) (simA_cons sim_i simA_nil))) sim_i))) (fun (x43:Int)=>(sim_var (i:=4) (r:=kI) (x:=x43) rfl))))))))))))))))),fun _ _ _ _ h=>h⟩)
def w__law_pair (K:PySem.W.Frag) (cl:Cl):Addr×Int×Unit→W K ((List Int)×(List Int)):=fun x=>outW (bnd (bnd (bnd (bnd (bnd (ret x.1) fun p8=>(bnd (bnd (ret (0:Int)) fun p6=>(bnd (bnd (ret x.2.1) fun p4=>(bnd (ret ()) fun p5=>(ret (p4,p5)))) fun p7=>(ret (p6,p7)))) fun p9=>(ret (p8,p9)))) fun p1=>(w__law_spots K cl p1)) fun p22=>(bnd (bnd (bnd (bnd (ret x.1) fun p17=>(bnd (bnd (ret (1:Int)) fun p15=>(bnd (bnd (ret x.2.1) fun p13=>(bnd (ret ()) fun p14=>(ret (p13,p14)))) fun p16=>(ret (p15,p16)))) fun p18=>(ret (p17,p18)))) fun p10=>(w__law_spots K cl p10)) fun p20=>(bnd (ret ()) fun p21=>(ret (p20,p21)))) fun p23=>(ret (p22,p23)))) fun y19=>(ret (y19.1,y19.2.1))) fun (y24:((List Int)×(List Int)))=>(bnd (bnd (bnd (ret y24.1) fun y25=>(ret (y25,nI))) fun y27=>(wAss (y27.1.length≤50000) (wCalm (fmapW y27.2 (fun (x26:Int)=>(bnd (ret x26) fun v28=>(bnd (ret y24.2) fun v29=>(ret (decide (v28∈v29)))))) (fun (x26:Int)=>(ret x26)) y27.1)))) fun (both_30:List Int)=>(bnd (bnd (bnd (bnd (bnd (ret both_30) fun p32=>(bnd (ret ()) fun p33=>(ret (p32,p33)))) fun y31=>(ret (y31.1.length:Int))) fun v34=>(bnd (ret (2:Int)) fun v35=>(wAss (0<v35) (ret (v34 % v35))))) fun v36=>(bnd (ret (0:Int)) fun v37=>(ret (decide (v36=v37))))) fun v90=>(wIf v90 (bnd (bnd (bnd (ret y24.1) fun p41=>(bnd (bnd (ret y24.2) fun p39=>(bnd (ret ()) fun p40=>(ret (p39,p40)))) fun p42=>(ret (p41,p42)))) fun y38=>(ret (y38.1,y38.2.1))) fun v43=>(ret (Flow.rt v43))) (bnd (bnd (ret both_30) fun v55=>(bnd (bnd (bnd (ret x.1) fun p53=>(bnd (bnd (bnd (bnd (ret both_30) fun p46=>(bnd (ret ()) fun p47=>(ret (p46,p47)))) fun y45=>(ret (y45.1.length:Int))) fun p51=>(bnd (ret ()) fun p52=>(ret (p51,p52)))) fun p54=>(ret (p53,p54)))) fun p48=>(w__law_draw K cl p48)) fun v56=>(wIx v55 v56))) fun (gone_57:Int)=>(bnd (bnd (bnd (bnd (ret x.1) fun p63=>(bnd (bnd (ret (2:Int)) fun p61=>(bnd (ret ()) fun p62=>(ret (p61,p62)))) fun p64=>(ret (p63,p64)))) fun p58=>(w__law_draw K cl p58)) fun v65=>(bnd (ret (0:Int)) fun v66=>(ret (decide (v65=v66))))) fun v89=>(wIf v89 (bnd (bnd (bnd (bnd (bnd (ret y24.1) fun y67=>(ret (y67,nI))) fun y69=>(wAss (y69.1.length≤50000) (wCalm (fmapW y69.2 (fun (x68:Int)=>(bnd (ret x68) fun v70=>(bnd (ret gone_57) fun v71=>(ret (!decide (v70=v71)))))) (fun (x68:Int)=>(ret x68)) y69.1)))) fun p75=>(bnd (bnd (ret y24.2) fun p73=>(bnd (ret ()) fun p74=>(ret (p73,p74)))) fun p76=>(ret (p75,p76)))) fun y72=>(ret (y72.1,y72.2.1))) fun v77=>(ret (Flow.rt v77))) (bnd (bnd (bnd (ret y24.1) fun p86=>(bnd (bnd (bnd (bnd (ret y24.2) fun y78=>(ret (y78,nI))) fun y80=>(wAss (y80.1.length≤50000) (wCalm (fmapW y80.2 (fun (x79:Int)=>(bnd (ret x79) fun v81=>(bnd (ret gone_57) fun v82=>(ret (!decide (v81=v82)))))) (fun (x79:Int)=>(ret x79)) y80.1)))) fun p84=>(bnd (ret ()) fun p85=>(ret (p84,p85)))) fun p87=>(ret (p86,p87)))) fun y83=>(ret (y83.1,y83.2.1))) fun v88=>(ret (Flow.rt v88)))))))))) none
abbrev sp__law_pair (K:PySem.W.Frag) (cl:Cl):Sp:=lift K (fun x:Addr×Int×Unit=> [kRef x.1,kI x.2.1]) (kP (kL kI) (kL kI)) (w__law_pair K cl)
theorem ok__law_pair (T:Tx K mg cl):FnG P w K mg base 3 T.a__law_pair T.fd__law_pair ["_law_pot_here","_law_width_here"] (sp__law_pair K cl):=
  okL T.F__law_pair sc__law_pair (fun _=>rfl) none (fun y e=>nomatch e) (fun cdv A outer s H E hg hr=>by
    refine⟨_,pss_cons (ps_asg (pe_tup (pa_cons (pe_fnS ((ok__law_spots T).atS hg (hr.mono (by decide)) (b__law_spots T) .nil (takes_of rfl rfl rfl rfl)) rfl T.g__law_spots T.F__law_spots.kp (pa_cons (pv 0) (pa_cons (pe_int) (pa_cons (pv 1) pa_nil)))) (pa_cons (pe_fnS ((ok__law_spots T).atS hg (hr.mono (by decide)) (b__law_spots T) .nil (takes_of rfl rfl rfl rfl)) rfl T.g__law_spots T.F__law_spots.kp (pa_cons (pv 0) (pa_cons (pe_int) (pa_cons (pv 1) pa_nil)))) pa_nil))) (pg_tupK (K:=K) rfl rfl (pgs_cons (pg_name (i:=2) sc__law_pair.nd rfl (by first | exact Or.inl rfl | exact Or.inr rfl)) (pgs_cons (pg_name (i:=3) sc__law_pair.nd rfl (by first | exact Or.inl rfl | exact Or.inr rfl)) pgs_nil))))
    (pss_cons (ps_setLc (i:=4) (own:= [("_law_spot",5)]) (g:=gName 5)  rfl sc__law_pair.nd rfl rfl (sw_true rfl rfl rfl (by decide +kernel)) (pi_listK rfl (pv 2)) (blkOk_by (own:= [("_law_spot",5)]) (N:=N__law_pair) (sc:=defScope st__law_pair) (by decide +kernel)) (fun _ _ _ _ _=>pg_name (i:=5) sc__law_pair.nd rfl (by first | exact Or.inl rfl | exact Or.inr rfl)) (fun _ _ _ _ _=>pts_one (pt_cmpR (kx_in (K:=K) rfl) (pv 5) (pv 3) rfl)) (fun _ _ _ _ _=>pv 5))
    (pss_cons (ps_if (pt_cmpR (kx_eq (K:=K) rfl hr) (pe_op op_modA (pe_callB (kx_len (K:=K) rfl) (by rfl) T.z_len bt_len (pa_cons (pv 4) pa_nil)) (pe_int)) (pe_int) (nomark _)) (pss_one (ps_ret (pe_tup (pa_cons (pv 2) (pa_cons (pv 3) pa_nil))))) pss_nil)
    (pss_cons (ps_set (i:=6) sc__law_pair.nd rfl (by first | exact Or.inl rfl | exact Or.inr rfl) (pe_ix (kx_ix (K:=K) rfl) (pv 4) (pe_fnS ((ok__law_draw T).atS hg (hr.mono (by decide)) (b__law_draw T) .nil (takes_of rfl rfl rfl rfl)) rfl T.g__law_draw T.F__law_draw.kp (pa_cons (pv 0) (pa_cons (pe_callB (kx_len (K:=K) rfl) (by rfl) T.z_len bt_len (pa_cons (pv 4) pa_nil)) pa_nil))) (fun _ _=>rfl)))
    (pss_cons (ps_if (pt_cmpR (kx_eq (K:=K) rfl hr) (pe_fnS ((ok__law_draw T).atS hg (hr.mono (by decide)) (b__law_draw T) .nil (takes_of rfl rfl rfl rfl)) rfl T.g__law_draw T.F__law_draw.kp (pa_cons (pv 0) (pa_cons (pe_int) pa_nil))) (pe_int) (nomark _)) (pss_one (ps_ret (pe_tup (pa_cons (pe_lc (own:= [("_law_spot",5)]) (g:=gName 5)  rfl sc__law_pair.nd (pi_listK rfl (pv 2)) (blkOk_by (own:= [("_law_spot",5)]) (N:=N__law_pair) (sc:=defScope st__law_pair) (by decide +kernel)) (fun _ _ _ _ _=>pg_name (i:=5) sc__law_pair.nd rfl (by first | exact Or.inl rfl | exact Or.inr rfl)) (fun _ _ _ _ _=>pts_one (pt_cmpR (kx_ne (K:=K) rfl hr) (pv 5) (pv 6) (nomark _))) (fun _ _ _ _ _=>pv 5)) (pa_cons (pv 3) pa_nil))))) pss_nil)
    (pss_one (ps_ret (pe_tup (pa_cons (pv 2) (pa_cons (pe_lc (own:= [("_law_spot",5)]) (g:=gName 5)  rfl sc__law_pair.nd (pi_listK rfl (pv 3)) (blkOk_by (own:= [("_law_spot",5)]) (N:=N__law_pair) (sc:=defScope st__law_pair) (by decide +kernel)) (fun _ _ _ _ _=>pg_name (i:=5) sc__law_pair.nd rfl (by first | exact Or.inl rfl | exact Or.inr rfl)) (fun _ _ _ _ _=>pts_one (pt_cmpR (kx_ne (K:=K) rfl hr) (pv 5) (pv 6) (nomark _))) (fun _ _ _ _ _=>pv 5)) pa_nil))))))))),?_⟩
    exact⟨_,fun x=>(simS_seq (simS_asg (simG_pair simG_name simG_name) le_none (sim_pair (simA_cons (sim_call (cal_lift (w:=w__law_spots K cl)) (simA_cons (sim_var (i:=0) (r:=kRef) (x:=x.1) rfl) (simA_cons sim_i (simA_cons (sim_var (i:=1) (r:=kI) (x:=x.2.1) rfl) simA_nil)))) (simA_cons (sim_call (cal_lift (w:=w__law_spots K cl)) (simA_cons (sim_var (i:=0) (r:=kRef) (x:=x.1) rfl) (simA_cons sim_i (simA_cons (sim_var (i:=1) (r:=kI) (x:=x.2.1) rfl) simA_nil)))) simA_nil))) (fun (y24:((List Int)×(List Int)))=>(show SimS _ _ ([some (kRef x.1),some (kI x.2.1),some ((kL kI) y24.1),some ((kL kI) y24.2),none,none,none]:Gm K) _ _ _ _ from (simS_seq (simS_asg simG_name le_none (sim_lc (simI_list (r:=kI) (sim_var (i:=2) (r:=(kL kI)) (x:=y24.1) rfl)) simG_name (fun _ _ hy=>hy) (fun (x26:Int)=>(simB_test (sim_op os_inI (sim_var (i:=5) (r:=kI) (x:=x26) rfl) (sim_var (i:=3) (r:=(kL kI)) (x:=y24.2) rfl)))) (fun (x26:Int)=>(sim_var (i:=5) (r:=kI) (x:=x26) rfl))) (fun (both_30:List Int)=>(show SimS _ _ ([some (kRef x.1),some (kI x.2.1),some ((kL kI) y24.1),some ((kL kI) y24.2),some ((kL kI) both_30),none,none]:Gm K) _ _ _ _ from (simS_seq (simS_if le_none (simB_test (sim_op os_eqI (sim_op os_I (sim_callB cb_lenL (simA_cons (sim_var (i:=4) (r:=(kL kI)) (x:=both_30) rfl) simA_nil)) sim_i) sim_i)) (simS_ret le_none (sim_pair (simA_cons (sim_var (i:=2) (r:=(kL kI)) (x:=y24.1) rfl) (simA_cons (sim_var (i:=3) (r:=(kL kI)) (x:=y24.2) rfl) simA_nil)))) (simS_next (simS_seq (simS_asg simG_name le_none (sim_op os_ixL (sim_var (i:=4) (r:=(kL kI)) (x:=both_30) rfl) (sim_call (cal_lift (w:=w__law_draw K cl)) (simA_cons (sim_var (i:=0) (r:=kRef) (x:=x.1) rfl) (simA_cons (sim_callB cb_lenL (simA_cons (sim_var (i:=4) (r:=(kL kI)) (x:=both_30) rfl) simA_nil)) simA_nil)))) (fun (gone_57:Int)=>(show SimS _ _ ([some (kRef x.1),some (kI x.2.1),some ((kL kI) y24.1),some ((kL kI) y24.2),some ((kL kI) both_30),none,some (kI gone_57)]:Gm K) _ _ _ _ from (simS_seq (simS_if le_none (simB_test (sim_op os_eqI (sim_call (cal_lift (w:=w__law_draw K cl)) (simA_cons (sim_var (i:=0) (r:=kRef) (x:=x.1) rfl) (simA_cons sim_i simA_nil))) sim_i)) (simS_ret le_none (sim_pair (simA_cons (sim_lc (simI_list (r:=kI) (sim_var (i:=2) (r:=(kL kI)) (x:=y24.1) rfl)) simG_name (fun _ _ hy=>hy) (fun (x68:Int)=>(simB_test (sim_op os_neI (sim_var (i:=5) (r:=kI) (x:=x68) rfl) (sim_var (i:=6) (r:=kI) (x:=gone_57) rfl)))) (fun (x68:Int)=>(sim_var (i:=5) (r:=kI) (x:=x68) rfl))) (simA_cons (sim_var (i:=3) (r:=(kL kI)) (x:=y24.2) rfl) simA_nil)))) (simS_next (simS_ret le_none (sim_pair (simA_cons (sim_var (i:=2) (r:=(kL kI)) (x:=y24.1) rfl) (simA_cons (sim_lc (simI_list (r:=kI) (sim_var (i:=3) (r:=(kL kI)) (x:=y24.2) rfl)) simG_name (fun _ _ hy=>hy) (fun (x79:Int)=>(simB_test (sim_op os_neI (sim_var (i:=5) (r:=kI) (x:=x79) rfl) (sim_var (i:=6) (r:=kI) (x:=gone_57) rfl)))) (fun (x79:Int)=>(sim_var (i:=5) (r:=kI) (x:=x79) rfl))) simA_nil)))))))))))))))))))))),fun _ _ _ _ h=>h⟩)
def w__law_added (K:PySem.W.Frag) (cl:Cl):(List Int)×(List Int)×Unit→W K (List Int):=fun x=>outW (bnd (bnd (bnd (bnd (bnd (bnd (ret x.1) fun y1=>(ret (y1,nI))) fun y3=>(wAss (y3.1.length≤50000) (wCalm (fmapW y3.2 (fun (x2:Int)=>(bnd (ret x2) fun v4=>(bnd (ret x.2.1) fun v5=>(ret (!decide (v4∈v5)))))) (fun (x2:Int)=>(ret x2)) y3.1)))) fun v11=>(bnd (bnd (bnd (ret x.2.1) fun y6=>(ret (y6,nI))) fun y8=>(wAss (y8.1.length≤50000) (wCalm (fmapW y8.2 (fun (x7:Int)=>(bnd (ret x7) fun v9=>(bnd (ret x.1) fun v10=>(ret (!decide (v9∈v10)))))) (fun (x7:Int)=>(ret x7)) y8.1)))) fun v12=>(wAss (v11.length+v12.length≤50000) (ret (v11++v12))))) fun p14=>(bnd (ret ()) fun p15=>(ret (p14,p15)))) fun y13=>(ret (isort y13.1))) fun v16=>(ret (Flow.rt v16))) none
abbrev sp__law_added (K:PySem.W.Frag) (cl:Cl):Sp:=lift K (fun x:(List Int)×(List Int)×Unit=> [(kL kI) x.1,(kL kI) x.2.1]) (kL kI) (w__law_added K cl)
theorem ok__law_added (T:Tx K mg cl):FnG P w K mg base 1 T.a__law_added T.fd__law_added ["_law_some","_law_more"] (sp__law_added K cl):=
  okL T.F__law_added sc__law_added (fun _=>rfl) none (fun y e=>nomatch e) (fun cdv A outer s H E hg hr=>by
    refine⟨_,pss_one (ps_ret (pe_callB (kx_sorted (K:=K) rfl) (by rfl) T.z_sorted bt_sorted (pa_cons (pe_op (kx_add (K:=K) rfl) (pe_lc (own:= [("_law_spot",2)]) (g:=gName 2)  rfl sc__law_added.nd (pi_listK rfl (pv 0)) (blkOk_by (own:= [("_law_spot",2)]) (N:=N__law_added) (sc:=defScope st__law_added) (by decide +kernel)) (fun _ _ _ _ _=>pg_name (i:=2) sc__law_added.nd rfl (by first | exact Or.inl rfl | exact Or.inr rfl)) (fun _ _ _ _ _=>pts_one (pt_cmpR (kx_notIn (K:=K) rfl) (pv 2) (pv 1) rfl)) (fun _ _ _ _ _=>pv 2)) (pe_lc (own:= [("_law_spot",2)]) (g:=gName 2)  rfl sc__law_added.nd (pi_listK rfl (pv 1)) (blkOk_by (own:= [("_law_spot",2)]) (N:=N__law_added) (sc:=defScope st__law_added) (by decide +kernel)) (fun _ _ _ _ _=>pg_name (i:=2) sc__law_added.nd rfl (by first | exact Or.inl rfl | exact Or.inr rfl)) (fun _ _ _ _ _=>pts_one (pt_cmpR (kx_notIn (K:=K) rfl) (pv 2) (pv 0) rfl)) (fun _ _ _ _ _=>pv 2))) pa_nil))),?_⟩
    exact⟨_,fun x=>(simS_ret le_none (sim_callB cb_sortedL (simA_cons (sim_op os_addL (sim_lc (simI_list (r:=kI) (sim_var (i:=0) (r:=(kL kI)) (x:=x.1) rfl)) simG_name (fun _ _ hy=>hy) (fun (x2:Int)=>(simB_test (sim_op os_niI (sim_var (i:=2) (r:=kI) (x:=x2) rfl) (sim_var (i:=1) (r:=(kL kI)) (x:=x.2.1) rfl)))) (fun (x2:Int)=>(sim_var (i:=2) (r:=kI) (x:=x2) rfl))) (sim_lc (simI_list (r:=kI) (sim_var (i:=1) (r:=(kL kI)) (x:=x.2.1) rfl)) simG_name (fun _ _ hy=>hy) (fun (x7:Int)=>(simB_test (sim_op os_niI (sim_var (i:=2) (r:=kI) (x:=x7) rfl) (sim_var (i:=0) (r:=(kL kI)) (x:=x.1) rfl)))) (fun (x7:Int)=>(sim_var (i:=2) (r:=kI) (x:=x7) rfl)))) simA_nil))),fun _ _ _ _ h=>h⟩)
def w__law_lines (K:PySem.W.Frag) (cl:Cl):Int×(List ((List Int)×(List Int)))×Unit→W K (List (List Int)):=fun x=>outW (bnd (bnd (bnd (bnd (ret x.1) fun p2=>(bnd (ret ()) fun p3=>(ret (p2,p3)))) fun y1=>(wAss (-(2 ^ 62)≤y1.1∧y1.1<2 ^ 62) (ret (rng 0 y1.1,nI)))) fun y5=>(wAss (y5.1.length≤50000) (wCalm (fmapW y5.2 (fun (x4:Int)=>(ret true)) (fun (x4:Int)=>(bnd (bnd (ret x4) fun p7=>(bnd (ret ()) fun p8=>(ret (p7,p8)))) fun y6=>(ret ([y6.1]:List Int)))) y5.1)))) fun (found_9:List (List Int))=>(bnd (bnd (ret x.2.1) fun y12=>(ret (y12,nI))) fun y14=>(bnd (forW y14.2 (fun (x13:((List Int)×(List Int))) (s10:(List (List Int))×Unit)=>(bnd (bnd (ret ()) fun y15=>(ret ([]:List Int))) fun (more_16:List Int)=>(bnd (bnd (ret x13.1) fun y34=>(ret (y34,nI))) fun y36=>(bnd (forW y36.2 (fun (x35:Int) (s17:(List Int)×Unit)=>(bnd (bnd (bnd (ret s17.1) fun p45=>(bnd (bnd (bnd (ret s10.1) fun v38=>(bnd (ret x35) fun v39=>(wIx v38 v39))) fun p43=>(bnd (ret ()) fun p44=>(ret (p43,p44)))) fun p46=>(ret (p45,p46)))) fun p40=>(w__law_added K cl p40)) fun (more_47:List Int)=>(ret (Flow.nx (more_47,()))))) y36.1 (more_16,())) (aft fun (s17:(List Int)×Unit)=>(bnd (bnd (bnd (bnd (ret s10.1) fun p19=>(bnd (ret ()) fun p20=>(ret (p19,p20)))) fun y18=>(ret (enumI y18.1,nI))) fun y22=>(wAss (y22.1.length≤50000) (wCalm (fmapW y22.2 (fun (x21:(Int×(List Int)))=>(ret true)) (fun (x21:(Int×(List Int)))=>(bnd (bnd (ret x21.1) fun v23=>(bnd (ret x13.2) fun v24=>(ret (decide (v23∈v24))))) fun v32=>(wIf v32 (bnd (bnd (ret x21.2) fun p30=>(bnd (bnd (ret s17.1) fun p28=>(bnd (ret ()) fun p29=>(ret (p28,p29)))) fun p31=>(ret (p30,p31)))) fun p25=>(w__law_added K cl p25)) (ret x21.2)))) y22.1)))) fun (found_33:List (List Int))=>(ret (Flow.nx (found_33,()))))))))) y14.1 (found_9,())) (aft fun (s10:(List (List Int))×Unit)=>(bnd (ret s10.1) fun v11=>(ret (Flow.rt v11))))))) none
abbrev sp__law_lines (K:PySem.W.Frag) (cl:Cl):Sp:=lift K (fun x:Int×(List ((List Int)×(List Int)))×Unit=> [kI x.1,(kL (kP (kL kI) (kL kI))) x.2.1]) (kL (kL kI)) (w__law_lines K cl)
theorem ok__law_lines (T:Tx K mg cl):FnG P w K mg base 2 T.a__law_lines T.fd__law_lines ["_law_width_here","_law_pairs_here"] (sp__law_lines K cl):=
  okL T.F__law_lines sc__law_lines (fun _=>rfl) none (fun y e=>nomatch e) (fun cdv A outer s H E hg hr=>by
    refine⟨_,pss_cons (ps_setLc (i:=2) (own:= [("_law_spot",3)]) (g:=gName 3) (tt:=tYes)  rfl sc__law_lines.nd rfl rfl (sw_true rfl rfl rfl (by decide +kernel)) (pi_range1 rfl T.z_range (pa_cons (pv 0) pa_nil)) (blkOk_by (own:= [("_law_spot",3)]) (N:=N__law_lines) (sc:=defScope st__law_lines) (by decide +kernel)) (fun _ _ _ _ _=>pg_name (i:=3) sc__law_lines.nd rfl (by first | exact Or.inl rfl | exact Or.inr rfl)) (fun _ _ _ _ _=>pts_nil) (fun _ _ _ _ _=>pe_lst (pa_cons (pv 3) pa_nil)))
    (pss_cons (ps_for (passes_of rfl) rfl (pi_listK rfl (pv 1)) (pg_tupK (K:=K) rfl rfl (pgs_cons (pg_name (i:=4) sc__law_lines.nd rfl (by first | exact Or.inl rfl | exact Or.inr rfl)) (pgs_cons (pg_name (i:=5) sc__law_lines.nd rfl (by first | exact Or.inl rfl | exact Or.inr rfl)) pgs_nil)))
      (pss_cons (ps_set (i:=6) sc__law_lines.nd rfl (by first | exact Or.inl rfl | exact Or.inr rfl) (pe_lst (pa_nil)))
    (pss_cons (ps_for (passes_of rfl) rfl (pi_listK rfl (pv 4)) (pg_name (i:=3) sc__law_lines.nd rfl (by first | exact Or.inl rfl | exact Or.inr rfl))
      (pss_one (ps_set (i:=6) sc__law_lines.nd rfl (by first | exact Or.inl rfl | exact Or.inr rfl) (pe_fnS ((ok__law_added T).atS hg (hr.mono (by decide)) (b__law_added T) .nil (takes_of rfl rfl rfl rfl)) rfl T.g__law_added T.F__law_added.kp (pa_cons (pv 6) (pa_cons (pe_ix (kx_ix (K:=K) rfl) (pv 2) (pv 3) (fun _ _=>rfl)) pa_nil))))))
    (pss_one (ps_setLc (i:=2) (own:= [("_law_spot",3),("_law_line",7)]) (g:=gTup K 2 (gCons (gName 3) (gCons (gName 7) (gNil)))) (tt:=tYes)  rfl sc__law_lines.nd rfl rfl (sw_true rfl rfl rfl (by decide +kernel)) (pi_enumA (K:=K) rfl (by rfl) T.z_enumerate (pa_cons (pv 2) pa_nil)) (blkOk_by (own:= [("_law_spot",3),("_law_line",7)]) (N:=N__law_lines) (sc:=defScope st__law_lines) (by decide +kernel)) (fun _ _ _ _ _=>pg_tupK (K:=K) rfl rfl (pgs_cons (pg_name (i:=3) sc__law_lines.nd rfl (by first | exact Or.inl rfl | exact Or.inr rfl)) (pgs_cons (pg_name (i:=7) sc__law_lines.nd rfl (by first | exact Or.inl rfl | exact Or.inr rfl)) pgs_nil))) (fun _ _ _ _ _=>pts_nil) (fun _ _ _ _ _=>pe_ifExp (pt_cmpR (kx_in (K:=K) rfl) (pv 3) (pv 5) rfl) (pe_fnS ((ok__law_added T).atS hg (hr.mono (by decide)) (b__law_added T) .nil takes0) rfl T.g__law_added T.F__law_added.kp (pa_cons (pv 7) (pa_cons (pv 6) pa_nil))) (pv 7)))))))
    (pss_one (ps_ret (pv 2)))),?_⟩
    exact⟨_,fun x=>(simS_seq (simS_asg simG_name le_none (sim_lc (simI_r1 (simA_cons (sim_var (i:=0) (r:=kI) (x:=x.1) rfl) simA_nil)) simG_name (fun _ _ hy=>hy) (fun (x4:Int)=>simB_yes) (fun (x4:Int)=>(sim_lstK (r:=kI) (fun y6:Int×Unit=>([y6.1]:List Int)) (fun _=>rfl) (fun _=>(by decide:1≤50000)) (simA_cons (sim_var (i:=3) (r:=kI) (x:=x4) rfl) simA_nil)))) (fun (found_9:List (List Int))=>(show SimS _ _ ([some (kI x.1),some ((kL (kP (kL kI) (kL kI))) x.2.1),some ((kL (kL kI)) found_9),none,none,none,none,none]:Gm K) _ _ _ _ from (simS_seq (simS_for (Gl:=(fun s10:(List (List Int))×Unit=>([some (kI x.1),some ((kL (kP (kL kI) (kL kI))) x.2.1),some ((kL (kL kI)) s10.1),none,none,none,none,none]:Gm K))) (s0:=(found_9,())) le_none (simI_list (r:=(kP (kL kI) (kL kI))) (sim_var (i:=1) (r:=(kL (kP (kL kI) (kL kI)))) (x:=x.2.1) rfl)) (simG_pair simG_name simG_name) (.so (.so (.so (.no (.no (.no (.no (.no .nil)))))))) (fun (x13:((List Int)×(List Int))) (s10:(List (List Int))×Unit)=>(show SimS _ _ ([some (kI x.1),some ((kL (kP (kL kI) (kL kI))) x.2.1),some ((kL (kL kI)) s10.1),none,some ((kL kI) x13.1),some ((kL kI) x13.2),none,none]:Gm K) _ _ _ _ from (simS_seq (simS_asg simG_name le_none (sim_lstK (r:=kI) (fun y15:Unit=>([]:List Int)) (fun _=>rfl) (fun _=>(by decide:0≤50000)) simA_nil) (fun (more_16:List Int)=>(show SimS _ _ ([some (kI x.1),some ((kL (kP (kL kI) (kL kI))) x.2.1),some ((kL (kL kI)) s10.1),none,some ((kL kI) x13.1),some ((kL kI) x13.2),some ((kL kI) more_16),none]:Gm K) _ _ _ _ from (simS_seq (simS_for (Gl:=(fun s17:(List Int)×Unit=>([some (kI x.1),some ((kL (kP (kL kI) (kL kI))) x.2.1),some ((kL (kL kI)) s10.1),none,some ((kL kI) x13.1),some ((kL kI) x13.2),some ((kL kI) s17.1),none]:Gm K))) (s0:=(more_16,())) le_none (simI_list (r:=kI) (sim_var (i:=4) (r:=(kL kI)) (x:=x13.1) rfl)) simG_name (.so (.so (.so (.no (.so (.so (.so (.no .nil)))))))) (fun (x35:Int) (s17:(List Int)×Unit)=>(show SimS _ _ ([some (kI x.1),some ((kL (kP (kL kI) (kL kI))) x.2.1),some ((kL (kL kI)) s10.1),some (kI x35),some ((kL kI) x13.1),some ((kL kI) x13.2),some ((kL kI) s17.1),none]:Gm K) _ _ _ _ from (simS_asg simG_name le_none (sim_call (cal_lift (w:=w__law_added K cl)) (simA_cons (sim_var (i:=6) (r:=(kL kI)) (x:=s17.1) rfl) (simA_cons (sim_op os_ixL (sim_var (i:=2) (r:=(kL (kL kI))) (x:=s10.1) rfl) (sim_var (i:=3) (r:=kI) (x:=x35) rfl)) simA_nil))) (fun (more_47:List Int)=>(show SimS _ _ ([some (kI x.1),some ((kL (kP (kL kI) (kL kI))) x.2.1),some ((kL (kL kI)) s10.1),some (kI x35),some ((kL kI) x13.1),some ((kL kI) x13.2),some ((kL kI) more_47),none]:Gm K) _ _ _ _ from (simS_end (s:=((more_47,()):(List Int)×Unit)) (.so (.so (.so (.no (.so (.so (.so (.no .nil)))))))))))))) (fun (s17:(List Int)×Unit)=>(show SimS _ _ ([some (kI x.1),some ((kL (kP (kL kI) (kL kI))) x.2.1),some ((kL (kL kI)) s10.1),none,some ((kL kI) x13.1),some ((kL kI) x13.2),some ((kL kI) s17.1),none]:Gm K) _ _ _ _ from (simS_asg simG_name le_none (sim_lc (simI_enumL (simA_cons (sim_var (i:=2) (r:=(kL (kL kI))) (x:=s10.1) rfl) simA_nil)) (simG_pair simG_name simG_name) (fun _ _ hy=>hy) (fun (x21:(Int×(List Int)))=>simB_yes) (fun (x21:(Int×(List Int)))=>(sim_if (simB_test (sim_op os_inI (sim_var (i:=3) (r:=kI) (x:=x21.1) rfl) (sim_var (i:=5) (r:=(kL kI)) (x:=x13.2) rfl))) (sim_call (cal_lift (w:=w__law_added K cl)) (simA_cons (sim_var (i:=7) (r:=(kL kI)) (x:=x21.2) rfl) (simA_cons (sim_var (i:=6) (r:=(kL kI)) (x:=s17.1) rfl) simA_nil))) (sim_var (i:=7) (r:=(kL kI)) (x:=x21.2) rfl)))) (fun (found_33:List (List Int))=>(show SimS _ _ ([some (kI x.1),some ((kL (kP (kL kI) (kL kI))) x.2.1),some ((kL (kL kI)) found_33),none,some ((kL kI) x13.1),some ((kL kI) x13.2),some ((kL kI) s17.1),none]:Gm K) _ _ _ _ from (simS_end (s:=((found_33,()):(List (List Int))×Unit)) (.so (.so (.so (.no (.no (.no (.no (.no .nil)))))))))))))))))))))) (fun (s10:(List (List Int))×Unit)=>(show SimS _ _ ([some (kI x.1),some ((kL (kP (kL kI) (kL kI))) x.2.1),some ((kL (kL kI)) s10.1),none,none,none,none,none]:Gm K) _ _ _ _ from (simS_ret le_none (sim_var (i:=2) (r:=(kL (kL kI))) (x:=s10.1) rfl)))))))))),fun _ _ _ _ h=>h⟩)
def w_Board__size (K:PySem.W.Frag) (cl:Cl):(Nat×Nat)×Unit→W K Int:=fun x=>outW (bnd (bnd (ret x.1) fun x=>ret (x.1:Int)) fun v1=>(ret (Flow.rt v1))) none
abbrev sp_Board__size (K:PySem.W.Frag) (cl:Cl):Sp:=lift K (fun x:(Nat×Nat)×Unit=> [(k_Board K cl) x.1]) kI (w_Board__size K cl)
theorem ok_Board__size (T:Tx K mg cl):FnG P w K mg base 1 T.a_Board__size T.fd_Board__size ["self"] (sp_Board__size K cl):=
  okL T.F_Board__size sc_Board__size (fun _=>rfl) none (fun y e=>nomatch e) (fun cdv A outer s H E hg hr=>by
    refine⟨_,pss_one (ps_ret (pe_fldK (K:=K) rfl (pv 0))),?_⟩
    exact⟨_,fun x=>(simS_ret le_none (sim_fld (fs:=fs_Board K cl) (s:=kI) (fun x=>(x.1:Int)) (fun _=>rfl) (fun _=>fl_Board_own_size) T.cls_Board T.no_Board_own_size (sim_var (i:=0) (r:=(k_Board K cl)) (x:=x.1) rfl))),fun _ _ _ _ h=>h⟩)
def w_is_integer_in (K:PySem.W.Frag) (cl:Cl):PyData×Int×Int×Unit→W K Bool:=fun x=>outW (bnd (bnd (bnd (bnd (ret x.1) fun p4=>(bnd (bnd (ret "int") fun p2=>(bnd (ret ()) fun p3=>(ret (p2,p3)))) fun p5=>(ret (p4,p5)))) fun y1=>(wAss (IsTy y1.2.1) (ret (isD y1.1 y1.2.1)))) fun v18=>(wIf v18 (bnd (bnd (bnd (bnd (ret x.1) fun p10=>(bnd (bnd (ret "bool") fun p8=>(bnd (ret ()) fun p9=>(ret (p8,p9)))) fun p11=>(ret (p10,p11)))) fun y7=>(wAss (IsTy y7.2.1) (ret (isD y7.1 y7.2.1)))) fun v6=>(ret (!v6))) fun v17=>(wIf v17 (bnd (ret x.2.1) fun v13=>(bnd (bnd (ret x.1) (wAs PyData.int)) fun v14=>(bnd (ret (decide (v13≤v14))) fun v15=>(wIf v15 (bnd (ret x.2.2.1) fun v16=>(ret (decide (v14≤v16)))) (ret false))))) (ret false))) (ret false))) fun v19=>(ret (Flow.rt v19))) none
abbrev sp_is_integer_in (K:PySem.W.Frag) (cl:Cl):Sp:=lift K (fun x:PyData×Int×Int×Unit=> [kPy x.1,kI x.2.1,kI x.2.2.1]) kB (w_is_integer_in K cl)
theorem ok_is_integer_in (T:Tx K mg cl):FnG P w K mg base 1 T.a_is_integer_in T.fd_is_integer_in ["thing","low","high"] (sp_is_integer_in K cl):=
  okL T.F_is_integer_in sc_is_integer_in (fun _=>rfl) none (fun y e=>nomatch e) (fun cdv A outer s H E hg hr=>by
    refine⟨_,pss_one (ps_ret (pe_and (pe_callB (kx_isi (K:=K) rfl) (by rfl) T.z_isinstance bt_isinstance (pa_cons (pv 0) (pa_cons (pe_bltn (v:= .ty "int") (by rfl) T.z_int bt_int rfl) pa_nil))) (pe_and (pe_not (pe_callB (kx_isi (K:=K) rfl) (by rfl) T.z_isinstance bt_isinstance (pa_cons (pv 0) (pa_cons (pe_bltn (v:= .ty "bool") (by rfl) T.z_bool bt_bool rfl) pa_nil)))) (pe_one (pe_chain op_le op_le (pv 1) (pv 0) (pv 2)))))),?_⟩
    exact⟨_,fun x=>(simS_ret le_none (sim_andV (sim_callB cb_isi (simA_cons (sim_var (i:=0) (r:=kPy) (x:=x.1) rfl) (simA_cons (sim_ty (T:= "int")) simA_nil))) (sim_andV (sim_notV (sim_callB cb_isi (simA_cons (sim_var (i:=0) (r:=kPy) (x:=x.1) rfl) (simA_cons (sim_ty (T:= "bool")) simA_nil)))) (sim_chain os_B0 os_B0 (sim_var (i:=1) (r:=kI) (x:=x.2.1) rfl) (sim_as oc_I (sim_var (i:=0) (r:=kPy) (x:=x.1) rfl)) (sim_var (i:=2) (r:=kI) (x:=x.2.2.1) rfl))))),fun _ _ _ _ h=>h⟩)
def w_require_size (K:PySem.W.Frag) (cl:Cl):PyData×Unit→W K Unit:=fun x=>outW (bnd (bnd (bnd (bnd (ret x.1) fun p8=>(bnd (bnd (ret (1:Int)) fun p6=>(bnd (bnd (ret (40:Int)) fun p4=>(bnd (ret ()) fun p5=>(ret (p4,p5)))) fun p7=>(ret (p6,p7)))) fun p9=>(ret (p8,p9)))) fun p1=>(w_is_integer_in K cl p1)) fun v10=>(ret (!v10))) fun v13=>(wIf v13 (bnd (bnd (ret x.1) fun p11=>(bnd (ret ()) fun p12=>(ret (p11,p12)))) fun (y:PyData×Unit)=>(wRaise (cl.NoSize,[("value",kPy y.1)]))) (ret (Flow.nx ())))) (some ())
abbrev sp_require_size (K:PySem.W.Frag) (cl:Cl):Sp:=lift K (fun x:PyData×Unit=> [kPy x.1]) kN (w_require_size K cl)
theorem ok_require_size (T:Tx K mg cl):FnG P w K mg base 2 T.a_require_size T.fd_require_size ["size"] (sp_require_size K cl):=
  okL T.F_require_size sc_require_size (fun _=>rfl) (some ()) (fun y e=>by cases e;rfl) (fun cdv A outer s H E hg hr=>by
    refine⟨_,pss_one (ps_if (pt_not (pt_val (pe_fnS ((ok_is_integer_in T).atS hg (hr.mono (by decide)) (b_is_integer_in T) .nil (takes_of rfl rfl rfl rfl)) rfl T.g_is_integer_in T.F_is_integer_in.kp (pa_cons (pv 0) (pa_cons (pe_int) (pa_cons (pe_glob (v:=(.int 40)) rfl T.c_MOST_CELLS ⟨_,rfl⟩) pa_nil)))))) (pss_one (ps_err (k:=0) rfl T.e_NoSize er_rel1 (hr.mono (by decide)) (takes_of rfl rfl rfl rfl) (pa_cons (pv 0) pa_nil) rfl)) pss_nil),?_⟩
    exact⟨_,fun x=>(simS_if le_none (simB_not (simB_B (sim_call (cal_lift (w:=w_is_integer_in K cl)) (simA_cons (sim_var (i:=0) (r:=kPy) (x:=x.1) rfl) (simA_cons sim_i (simA_cons sim_i simA_nil)))))) (simS_raise le_none (simA_cons (sim_var (i:=0) (r:=kPy) (x:=x.1) rfl) simA_nil) (fun (y:PyData×Unit)=> [("value",kPy y.1)]) (by rintro y Z H vs ⟨v,_,rfl,h,rfl⟩;exact⟨v,[],rfl,rfl,v,[],rfl,h,rfl⟩)) (simS_next (simS_end (.no .nil)))),fun _ _ _ _ h=>h⟩)
def w_mask_of_cells (K:PySem.W.Frag) (cl:Cl):(List Int)×Unit→W K Int:=fun x=>outW (bnd (bnd (bnd (bnd (bnd (ret x.1) fun y1=>(ret (y1,nI))) fun y3=>(wAss (y3.1.length≤50000) (wCalm (fmapW y3.2 (fun (x2:Int)=>(ret true)) (fun (x2:Int)=>(bnd (ret (1:Int)) fun v4=>(bnd (ret x2) fun v5=>(wAss (CPow v4 v5) (ret (v4 * 2 ^ (v5).toNat)))))) y3.1)))) fun p7=>(bnd (ret ()) fun p8=>(ret (p7,p8)))) fun y6=>(ret y6.1.sum)) fun v9=>(ret (Flow.rt v9))) none
abbrev sp_mask_of_cells (K:PySem.W.Frag) (cl:Cl):Sp:=lift K (fun x:(List Int)×Unit=> [(kT kI) x.1]) kI (w_mask_of_cells K cl)
theorem ok_mask_of_cells (T:Tx K mg cl):FnG P w K mg base 1 T.a_mask_of_cells T.fd_mask_of_cells ["cells"] (sp_mask_of_cells K cl):=
  okL T.F_mask_of_cells sc_mask_of_cells (fun _=>rfl) none (fun y e=>nomatch e) (fun cdv A outer s H E hg hr=>by
    refine⟨_,pss_one (ps_ret (pe_callB (kx_sum (K:=K) rfl rfl) (by rfl) T.z_sum bt_sum (pa_cons (pe_lc (own:= [("cell",1)]) (g:=gName 1) (tt:=tYes)  rfl sc_mask_of_cells.nd (pi_tupK rfl (pv 0)) (blkOk_by (own:= [("cell",1)]) (N:=N_mask_of_cells) (sc:=defScope st_mask_of_cells) (by decide +kernel)) (fun _ _ _ _ _=>pg_name (i:=1) sc_mask_of_cells.nd rfl (by first | exact Or.inl rfl | exact Or.inr rfl)) (fun _ _ _ _ _=>pts_nil) (fun _ _ _ _ _=>pe_op op_shl (pe_int) (pv 1))) pa_nil))),?_⟩
    exact⟨_,fun x=>(simS_ret le_none (sim_callB cb_sum (simA_cons (sim_lc (simI_tup (r:=kI) (sim_var (i:=0) (r:=(kT kI)) (x:=x.1) rfl)) simG_name (fun _ _ hy=>hy) (fun (x2:Int)=>simB_yes) (fun (x2:Int)=>(sim_op os_I sim_i (sim_var (i:=1) (r:=kI) (x:=x2) rfl)))) simA_nil))),fun _ _ _ _ h=>h⟩)
def w_is_cell (K:PySem.W.Frag) (cl:Cl):PyData×Int×Unit→W K Bool:=fun x=>outW (bnd (bnd (bnd (ret x.1) fun p10=>(bnd (bnd (ret (0:Int)) fun p8=>(bnd (bnd (bnd (ret x.2.1) fun v1=>(bnd (ret (1:Int)) fun v2=>(ret (v1 - v2)))) fun p6=>(bnd (ret ()) fun p7=>(ret (p6,p7)))) fun p9=>(ret (p8,p9)))) fun p11=>(ret (p10,p11)))) fun p3=>(w_is_integer_in K cl p3)) fun v12=>(ret (Flow.rt v12))) none
abbrev sp_is_cell (K:PySem.W.Frag) (cl:Cl):Sp:=lift K (fun x:PyData×Int×Unit=> [kPy x.1,kI x.2.1]) kB (w_is_cell K cl)
theorem ok_is_cell (T:Tx K mg cl):FnG P w K mg base 2 T.a_is_cell T.fd_is_cell ["thing","size"] (sp_is_cell K cl):=
  okL T.F_is_cell sc_is_cell (fun _=>rfl) none (fun y e=>nomatch e) (fun cdv A outer s H E hg hr=>by
    refine⟨_,pss_one (ps_ret (pe_fnS ((ok_is_integer_in T).atS hg (hr.mono (by decide)) (b_is_integer_in T) .nil (takes_of rfl rfl rfl rfl)) rfl T.g_is_integer_in T.F_is_integer_in.kp (pa_cons (pv 0) (pa_cons (pe_int) (pa_cons (pe_op op_sub (pv 1) (pe_int)) pa_nil))))),?_⟩
    exact⟨_,fun x=>(simS_ret le_none (sim_call (cal_lift (w:=w_is_integer_in K cl)) (simA_cons (sim_var (i:=0) (r:=kPy) (x:=x.1) rfl) (simA_cons sim_i (simA_cons (sim_op os_I0 (sim_var (i:=1) (r:=kI) (x:=x.2.1) rfl) sim_i) simA_nil))))),fun _ _ _ _ h=>h⟩)
def w_cell_tuple (K:PySem.W.Frag) (cl:Cl):PyData×Int×Unit→W K (List Int):=fun x=>outW (bnd (bnd (bnd (bnd (bnd (ret x.1) fun p14=>(bnd (bnd (bnd (bnd (ret "list") fun p9=>(bnd (bnd (ret "tuple") fun p7=>(bnd (ret ()) fun p8=>(ret (p7,p8)))) fun p10=>(ret (p9,p10)))) fun y6=>(ret (y6.1,y6.2.1))) fun p12=>(bnd (ret ()) fun p13=>(ret (p12,p13)))) fun p15=>(ret (p14,p15)))) fun y11=>(wAss (y11.2.1=("list","tuple")) (ret (isD y11.1 "list" || isD y11.1 "tuple")))) fun v16=>(ret (!v16))) fun v31=>(wIf v31 (ret true) (bnd (bnd (bnd (bnd (wSeq x.1 fun xs=>ret (xs,nI)) fun y19=>(wAss (y19.1.length≤50000) (wCalm (fmapW y19.2 (fun (x18:PyData)=>(ret true)) (fun (x18:PyData)=>(bnd (bnd (ret x18) fun p23=>(bnd (ret ()) fun p24=>(ret (p23,p24)))) fun p20=>(bnd (bnd (ret x.2.1) fun p25=>(bnd (ret ()) fun p26=>(ret (p25,p26)))) fun p21=>(w_is_cell K cl ((fun (x:PyData×Unit) (y:Int×Unit)=>(x.1,y.1,())) p20 p21))))) y19.1)))) fun p28=>(bnd (ret ()) fun p29=>(ret (p28,p29)))) fun y27=>(ret (y27.1.all id))) fun v30=>(ret (!v30))))) fun v62=>(wIf v62 (bnd (bnd (ret x.1) fun p32=>(bnd (ret ()) fun p33=>(ret (p32,p33)))) fun (y:PyData×Unit)=>(wRaise (cl.NoCells,[("cells",kPy y.1)]))) (bnd (bnd (bnd (ret x.1) fun p35=>(bnd (ret ()) fun p36=>(ret (p35,p36)))) fun y34=>(wSortPy y34.1)) fun (found_37:List Int)=>(bnd (bnd (bnd (bnd (bnd (bnd (bnd (ret found_37) fun p45=>(bnd (bnd (bnd (ret found_37) fun v39=>(bnd (bnd (ret (1:Int)) fun v40=>(ret (some v40))) fun v41=>(bnd (ret none) fun v42=>(ret (sli v39 v41 v42))))) fun p43=>(bnd (ret ()) fun p44=>(ret (p43,p44)))) fun p46=>(ret (p45,p46)))) fun y38=>(ret (y38.1.zip y38.2.1,nI))) fun y48=>(wAss (y48.1.length≤50000) (wCalm (fmapW y48.2 (fun (x47:(Int×Int))=>(ret true)) (fun (x47:(Int×Int))=>(bnd (ret x47.1) fun v49=>(bnd (ret x47.2) fun v50=>(ret (decide (v49<v50)))))) y48.1)))) fun p52=>(bnd (ret ()) fun p53=>(ret (p52,p53)))) fun y51=>(ret (y51.1.all id))) fun v54=>(ret (!v54))) fun v61=>(wIf v61 (bnd (bnd (ret x.1) fun p55=>(bnd (ret ()) fun p56=>(ret (p55,p56)))) fun (y:PyData×Unit)=>(wRaise (cl.NoCells,[("cells",kPy y.1)]))) (bnd (bnd (bnd (ret found_37) fun p58=>(bnd (ret ()) fun p59=>(ret (p58,p59)))) fun y57=>(ret y57.1)) fun v60=>(ret (Flow.rt v60)))))))) none
abbrev sp_cell_tuple (K:PySem.W.Frag) (cl:Cl):Sp:=lift K (fun x:PyData×Int×Unit=> [kPy x.1,kI x.2.1]) (kT kI) (w_cell_tuple K cl)
theorem ok_cell_tuple (T:Tx K mg cl):FnG P w K mg base 3 T.a_cell_tuple T.fd_cell_tuple ["things","size"] (sp_cell_tuple K cl):=
  okL T.F_cell_tuple sc_cell_tuple (fun _=>rfl) none (fun y e=>nomatch e) (fun cdv A outer s H E hg hr=>by
    refine⟨_,pss_cons (ps_if (PW.pt (pw_or (pt_not (pt_val (pe_callB (kx_isiT (K:=K) rfl) (by rfl) T.z_isinstance bt_isinstance (pa_cons (pv 0) (pa_cons (pe_tup (pa_cons (pe_bltn (v:= .ty "list") (by rfl) T.z_list bt_list rfl) (pa_cons (pe_bltn (v:= .ty "tuple") (by rfl) T.z_tuple bt_tuple rfl) pa_nil))) pa_nil))))) (pw_or1 (pt_not (pt_val (pe_callB (kx_all (K:=K) rfl rfl) (by rfl) T.z_all bt_all (pa_cons (pe_lc (own:= [("one",2)]) (g:=gName 2) (tt:=tYes)  rfl sc_cell_tuple.nd (pi_seq (K:=K) rfl (pv 0)) (blkOk_by (own:= [("one",2)]) (N:=N_cell_tuple) (sc:=defScope st_cell_tuple) (by decide +kernel)) (fun _ _ _ _ _=>pg_name (i:=2) sc_cell_tuple.nd rfl (by first | exact Or.inl rfl | exact Or.inr rfl)) (fun _ _ _ _ _=>pts_nil) (fun _ _ _ _ _=>pe_fnKS ((ok_is_cell T).atKS hg (hr.mono (by decide)) (kb_is_cell__1_size T) takes0) rfl T.g_is_cell T.F_is_cell.kp (pa_cons (pv 2) pa_nil) (pk_cons (pv 1) pk_nil))) pa_nil))))))) (pss_one (ps_err (k:=0) rfl T.e_NoCells er_rel1 (hr.mono (by decide)) (takes_of rfl rfl rfl rfl) (pa_cons (pv 0) pa_nil) rfl)) pss_nil)
    (pss_cons (ps_set (i:=3) sc_cell_tuple.nd rfl (by first | exact Or.inl rfl | exact Or.inr rfl) (pe_callB (kx_sorted (K:=K) rfl) (by rfl) T.z_sorted bt_sorted (pa_cons (pv 0) pa_nil)))
    (pss_cons (ps_if (pt_not (pt_val (pe_callB (kx_all (K:=K) rfl rfl) (by rfl) T.z_all bt_all (pa_cons (pe_lc (own:= [("one",2),("other",4)]) (g:=gTup K 2 (gCons (gName 2) (gCons (gName 4) (gNil)))) (tt:=tYes)  rfl sc_cell_tuple.nd (pi_zipK (K:=K) rfl (by rfl) T.z_zip (pa_cons (pv 3) (pa_cons (pe_slice (kx_sl (K:=K) rfl) (pv 3) (po_some (pe_int)) po_none) pa_nil))) (blkOk_by (own:= [("one",2),("other",4)]) (N:=N_cell_tuple) (sc:=defScope st_cell_tuple) (by decide +kernel)) (fun _ _ _ _ _=>pg_tupK (K:=K) rfl rfl (pgs_cons (pg_name (i:=2) sc_cell_tuple.nd rfl (by first | exact Or.inl rfl | exact Or.inr rfl)) (pgs_cons (pg_name (i:=4) sc_cell_tuple.nd rfl (by first | exact Or.inl rfl | exact Or.inr rfl)) pgs_nil))) (fun _ _ _ _ _=>pts_nil) (fun _ _ _ _ _=>pe_cmpR op_lt (pv 2) (pv 4) (nomark _))) pa_nil)))) (pss_one (ps_err (k:=0) rfl T.e_NoCells er_rel1 (hr.mono (by decide)) (takes_of rfl rfl rfl rfl) (pa_cons (pv 0) pa_nil) rfl)) pss_nil)
    (pss_one (ps_ret (pe_callTy (kx_tuple (K:=K) rfl) (by rfl) T.z_tuple bt_tuple (pa_cons (pv 3) pa_nil)))))),?_⟩
    exact⟨_,fun x=>(simS_seq (simS_if le_none (simB_or (simB_not (simB_B (sim_callB cb_isiT2 (simA_cons (sim_var (i:=0) (r:=kPy) (x:=x.1) rfl) (simA_cons (sim_pair (simA_cons (sim_ty (T:= "list")) (simA_cons (sim_ty (T:= "tuple")) simA_nil))) simA_nil))))) (simB_not (simB_B (sim_callB cb_all (simA_cons (sim_lc (simI_py (i:=0) (d:=x.1) rfl) simG_name (fun _ _ hy=>hy) (fun (x18:PyData)=>simB_yes) (fun (x18:PyData)=>(sim_callK (cal_liftK (δ':=fun x:PyData×Int×Unit=> [kPy x.1,kI x.2.1]) (w:=w_is_cell K cl) (fun (x:PyData×Unit) (y:Int×Unit)=>(x.1,y.1,())) (by rintro Z H x y vs zs ⟨_,_,rfl,a0,rfl⟩ ⟨_,_,rfl,a1,rfl⟩;exact⟨_,_,rfl,a0,_,_,rfl,a1,rfl⟩)) (simA_cons (sim_var (i:=2) (r:=kPy) (x:=x18) rfl) simA_nil) (simA_cons (sim_var (i:=1) (r:=kI) (x:=x.2.1) rfl) simA_nil)))) simA_nil))))) (simS_raise le_none (simA_cons (sim_var (i:=0) (r:=kPy) (x:=x.1) rfl) simA_nil) (fun (y:PyData×Unit)=> [("cells",kPy y.1)]) (by rintro y Z H vs ⟨v,_,rfl,h,rfl⟩;exact⟨v,[],rfl,rfl,v,[],rfl,h,rfl⟩)) (simS_next (simS_seq (simS_asg simG_name le_none (sim_callB cb_sortedPy (simA_cons (sim_var (i:=0) (r:=kPy) (x:=x.1) rfl) simA_nil)) (fun (found_37:List Int)=>(show SimS _ _ ([some (kPy x.1),some (kI x.2.1),none,some ((kL kI) found_37),none]:Gm K) _ _ _ _ from (simS_seq (simS_if le_none (simB_not (simB_B (sim_callB cb_all (simA_cons (sim_lc (simI_zip (simA_cons (sim_var (i:=3) (r:=(kL kI)) (x:=found_37) rfl) (simA_cons (sim_sl ss_L (sim_var (i:=3) (r:=(kL kI)) (x:=found_37) rfl) (simO_some sim_i) simO_no) simA_nil))) (simG_pair simG_name simG_name) (fun _ _ hy=>hy) (fun (x47:(Int×Int))=>simB_yes) (fun (x47:(Int×Int))=>(sim_op os_B0 (sim_var (i:=2) (r:=kI) (x:=x47.1) rfl) (sim_var (i:=4) (r:=kI) (x:=x47.2) rfl)))) simA_nil)))) (simS_raise le_none (simA_cons (sim_var (i:=0) (r:=kPy) (x:=x.1) rfl) simA_nil) (fun (y:PyData×Unit)=> [("cells",kPy y.1)]) (by rintro y Z H vs ⟨v,_,rfl,h,rfl⟩;exact⟨v,[],rfl,rfl,v,[],rfl,h,rfl⟩)) (simS_next (simS_ret le_none (sim_callB cb_tupleL (simA_cons (sim_var (i:=3) (r:=(kL kI)) (x:=found_37) rfl) simA_nil))))))))))))),fun _ _ _ _ h=>h⟩)
def w_cell_mask (K:PySem.W.Frag) (cl:Cl):PyData×Int×Unit→W K Int:=fun x=>outW (bnd (bnd (bnd (bnd (bnd (ret x.1) fun p4=>(bnd (ret ()) fun p5=>(ret (p4,p5)))) fun p1=>(bnd (bnd (ret x.2.1) fun p6=>(bnd (ret ()) fun p7=>(ret (p6,p7)))) fun p2=>(w_cell_tuple K cl ((fun (x:PyData×Unit) (y:Int×Unit)=>(x.1,y.1,())) p1 p2)))) fun p11=>(bnd (ret ()) fun p12=>(ret (p11,p12)))) fun p8=>(w_mask_of_cells K cl p8)) fun v13=>(ret (Flow.rt v13))) none
abbrev sp_cell_mask (K:PySem.W.Frag) (cl:Cl):Sp:=lift K (fun x:PyData×Int×Unit=> [kPy x.1,kI x.2.1]) kI (w_cell_mask K cl)
theorem ok_cell_mask (T:Tx K mg cl):FnG P w K mg base 4 T.a_cell_mask T.fd_cell_mask ["things","size"] (sp_cell_mask K cl):=
  okL T.F_cell_mask sc_cell_mask (fun _=>rfl) none (fun y e=>nomatch e) (fun cdv A outer s H E hg hr=>by
    refine⟨_,pss_one (ps_ret (pe_fnS ((ok_mask_of_cells T).atS hg (hr.mono (by decide)) (b_mask_of_cells T) .nil (takes_of rfl rfl rfl rfl)) rfl T.g_mask_of_cells T.F_mask_of_cells.kp (pa_cons (pe_fnKS ((ok_cell_tuple T).atKS hg (hr.mono (by decide)) (kb_cell_tuple__1_size T) (takes_of rfl rfl rfl rfl)) rfl T.g_cell_tuple T.F_cell_tuple.kp (pa_cons (pv 0) pa_nil) (pk_cons (pv 1) pk_nil)) pa_nil))),?_⟩
    exact⟨_,fun x=>(simS_ret le_none (sim_call (cal_lift (w:=w_mask_of_cells K cl)) (simA_cons (sim_callK (cal_liftK (δ':=fun x:PyData×Int×Unit=> [kPy x.1,kI x.2.1]) (w:=w_cell_tuple K cl) (fun (x:PyData×Unit) (y:Int×Unit)=>(x.1,y.1,())) (by rintro Z H x y vs zs ⟨_,_,rfl,a0,rfl⟩ ⟨_,_,rfl,a1,rfl⟩;exact⟨_,_,rfl,a0,_,_,rfl,a1,rfl⟩)) (simA_cons (sim_var (i:=0) (r:=kPy) (x:=x.1) rfl) simA_nil) (simA_cons (sim_var (i:=1) (r:=kI) (x:=x.2.1) rfl) simA_nil)) simA_nil))),fun _ _ _ _ h=>h⟩)
def w_Board____init__ (K:PySem.W.Frag) (cl:Cl):Addr×PyData×PyData×Unit→W K Unit:=fun x=>outW (bnd (bnd (bnd (ret x.2.1) fun p4=>(bnd (ret ()) fun p5=>(ret (p4,p5)))) fun p1=>(w_require_size K cl p1)) fun _=>(bnd (bnd (ret x.2.1) (wAs PyData.int)) fun v19=>(bnd (ret x.1) fun v20=>(wSetF cl.Board "own_size" v20 (kI v19) (bnd (bnd (bnd (bnd (ret x.2.2.1) fun p13=>(bnd (bnd (bnd (ret x.2.1) (wAs PyData.int)) fun p11=>(bnd (ret ()) fun p12=>(ret (p11,p12)))) fun p14=>(ret (p13,p14)))) fun p8=>(w_cell_mask K cl p8)) fun v15=>(bnd (ret (1:Int)) fun v16=>(ret (Builtin.bitOr v15 v16)))) fun v17=>(bnd (ret x.1) fun v18=>(wSetF cl.Board "up_mask" v18 (kI v17) (ret (Flow.nx ()))))))))) (some ())
abbrev sp_Board____init__ (K:PySem.W.Frag) (cl:Cl):Sp:=lift K (fun x:Addr×PyData×PyData×Unit=> [kRef x.1,kPy x.2.1,kPy x.2.2.1]) kN (w_Board____init__ K cl)
theorem ok_Board____init__ (T:Tx K mg cl):FnG P w K mg base 5 T.a_Board____init__ T.fd_Board____init__ ["self","size","up"] (sp_Board____init__ K cl):=
  okL T.F_Board____init__ sc_Board____init__ (fun _=>rfl) (some ()) (fun y e=>by cases e;rfl) (fun cdv A outer s H E hg hr=>by
    refine⟨_,pss_cons (ps_expr (pe_fnS ((ok_require_size T).atS hg (hr.mono (by decide)) (b_require_size T) .nil (takes_of rfl rfl rfl rfl)) rfl T.g_require_size T.F_require_size.kp (pa_cons (pv 1) pa_nil)))
    (pss_cons (ps_fldK (K:=K) rfl (pv 0) (pv 1))
    (pss_one (ps_fldK (K:=K) rfl (pv 0) (pe_op op_or (pe_fnS ((ok_cell_mask T).atS hg (hr.mono (by decide)) (b_cell_mask T) .nil (takes_of rfl rfl rfl rfl)) rfl T.g_cell_mask T.F_cell_mask.kp (pa_cons (pv 2) (pa_cons (pv 1) pa_nil))) (pe_int))))),?_⟩
    exact⟨_,fun x=>(simS_seq (simS_drop le_none (sim_call (cal_lift (w:=w_require_size K cl)) (simA_cons (sim_var (i:=1) (r:=kPy) (x:=x.2.1) rfl) simA_nil)) (simS_seq (simS_fld (r:=kI) T.cls_Board T.no_Board_own_size le_none (sim_as oc_I (sim_var (i:=1) (r:=kPy) (x:=x.2.1) rfl)) (sim_var (i:=0) (r:=kRef) (x:=x.1) rfl) (simS_fld (r:=kI) T.cls_Board T.no_Board_up_mask le_none (sim_op os_I0 (sim_call (cal_lift (w:=w_cell_mask K cl)) (simA_cons (sim_var (i:=2) (r:=kPy) (x:=x.2.2.1) rfl) (simA_cons (sim_as oc_I (sim_var (i:=1) (r:=kPy) (x:=x.2.1) rfl)) simA_nil))) sim_i) (sim_var (i:=0) (r:=kRef) (x:=x.1) rfl) (simS_end (.no (.no (.no .nil))))))))),fun _ _ _ _ h=>h⟩)
def w_Flip__width (K:PySem.W.Frag) (cl:Cl):(Nat×Nat)×Unit→W K Int:=fun x=>outW (bnd (bnd (bnd (ret (1:Int)) fun p8=>(bnd (bnd (bnd (bnd (bnd (ret x.1) fun x=>ret (x.1:Int)) fun v1=>(bnd (bnd (ret x.1) fun x=>ret (x.2:Int)) fun v2=>(ret (Builtin.bitOr v1 v2)))) fun v3=>(ret ((Builtin.Int.intBits v3:Nat):Int))) fun p6=>(bnd (ret ()) fun p7=>(ret (p6,p7)))) fun p9=>(ret (p8,p9)))) fun y5=>(ret (max y5.1 y5.2.1))) fun v10=>(ret (Flow.rt v10))) none
abbrev sp_Flip__width (K:PySem.W.Frag) (cl:Cl):Sp:=lift K (fun x:(Nat×Nat)×Unit=> [(k_Flip K cl) x.1]) kI (w_Flip__width K cl)
theorem ok_Flip__width (T:Tx K mg cl):FnG P w K mg base 1 T.a_Flip__width T.fd_Flip__width ["self"] (sp_Flip__width K cl):=
  okL T.F_Flip__width sc_Flip__width (fun _=>rfl) none (fun y e=>nomatch e) (fun cdv A outer s H E hg hr=>by
    refine⟨_,pss_one (ps_ret (pe_callB (call_max2 rfl) (by rfl) T.z_max bt_max (pa_cons (pe_int) (pa_cons (pe_bits (pe_op op_or (pe_fldK (K:=K) rfl (pv 0)) (pe_fldK (K:=K) rfl (pv 0)))) pa_nil)))),?_⟩
    exact⟨_,fun x=>(simS_ret le_none (sim_callB cb_max2 (simA_cons sim_i (simA_cons (sim_bits (sim_op os_I0 (sim_fld (fs:=fs_Flip K cl) (s:=kI) (fun x=>(x.1:Int)) (fun _=>rfl) (fun _=>fl_Flip_test_mask) T.cls_Flip T.no_Flip_test_mask (sim_var (i:=0) (r:=(k_Flip K cl)) (x:=x.1) rfl)) (sim_fld (fs:=fs_Flip K cl) (s:=kI) (fun x=>(x.2:Int)) (fun _=>rfl) (fun _=>fl_Flip_toggle_mask) T.cls_Flip T.no_Flip_toggle_mask (sim_var (i:=0) (r:=(k_Flip K cl)) (x:=x.1) rfl)))) simA_nil)))),fun _ _ _ _ h=>h⟩)
def w_cells_in_cells (K:PySem.W.Frag) (cl:Cl):Int×Unit→W K (List Int):=fun x=>outW (bnd (bnd (bnd (bnd (bnd (bnd (bnd (ret x.1) fun v2=>(ret ((Builtin.Int.intBits v2:Nat):Int))) fun p4=>(bnd (ret ()) fun p5=>(ret (p4,p5)))) fun y1=>(wAss (-(2 ^ 62)≤y1.1∧y1.1<2 ^ 62) (ret (rng 0 y1.1,nI)))) fun y7=>(wAss (y7.1.length≤50000) (wCalm (fmapW y7.2 (fun (x6:Int)=>(bnd (bnd (bnd (ret x.1) fun v8=>(bnd (ret x6) fun v9=>(wAss (0≤v9) (ret (v8 / 2 ^ (v9).toNat))))) fun v10=>(bnd (ret (1:Int)) fun v11=>(ret (Builtin.bitAnd v10 v11)))) fun v12=>(bnd (ret (1:Int)) fun v13=>(ret (decide (v12=v13)))))) (fun (x6:Int)=>(ret x6)) y7.1)))) fun p15=>(bnd (ret ()) fun p16=>(ret (p15,p16)))) fun y14=>(ret y14.1)) fun v17=>(ret (Flow.rt v17))) none
abbrev sp_cells_in_cells (K:PySem.W.Frag) (cl:Cl):Sp:=lift K (fun x:Int×Unit=> [kI x.1]) (kX kI) (w_cells_in_cells K cl)
theorem ok_cells_in_cells (T:Tx K mg cl):FnG P w K mg base 1 T.a_cells_in_cells T.fd_cells_in_cells ["mask"] (sp_cells_in_cells K cl):=
  okL T.F_cells_in_cells sc_cells_in_cells (fun _=>rfl) none (fun y e=>nomatch e) (fun cdv A outer s H E hg hr=>by
    refine⟨_,pss_one (ps_ret (pe_callTy (kx_tuple (K:=K) rfl) (by rfl) T.z_tuple bt_tuple (pa_cons (pe_lc (own:= [("cell",1)]) (g:=gName 1)  rfl sc_cells_in_cells.nd (pi_range1 rfl T.z_range (pa_cons (pe_bits (pv 0)) pa_nil)) (blkOk_by (own:= [("cell",1)]) (N:=N_cells_in_cells) (sc:=defScope st_cells_in_cells) (by decide +kernel)) (fun _ _ _ _ _=>pg_name (i:=1) sc_cells_in_cells.nd rfl (by first | exact Or.inl rfl | exact Or.inr rfl)) (fun _ _ _ _ _=>pts_one (pt_cmpR (kx_eq (K:=K) rfl hr) (pe_op op_and (pe_op op_shr (pv 0) (pv 1)) (pe_int)) (pe_int) (nomark _))) (fun _ _ _ _ _=>pv 1)) pa_nil))),?_⟩
    exact⟨_,fun x=>(simS_ret le_none (sim_callB cb_tupleLX (simA_cons (sim_lc (simI_r1 (simA_cons (sim_bits (sim_var (i:=0) (r:=kI) (x:=x.1) rfl)) simA_nil)) simG_name (fun _ _ hy=>hy) (fun (x6:Int)=>(simB_test (sim_op os_eqI (sim_op os_I0 (sim_op os_I (sim_var (i:=0) (r:=kI) (x:=x.1) rfl) (sim_var (i:=1) (r:=kI) (x:=x6) rfl)) sim_i) sim_i))) (fun (x6:Int)=>(sim_var (i:=1) (r:=kI) (x:=x6) rfl))) simA_nil))),fun _ _ _ _ h=>h⟩)
def w_Flip__tested (K:PySem.W.Frag) (cl:Cl):(Nat×Nat)×Unit→W K (List Int):=fun x=>outW (bnd (bnd (bnd (bnd (bnd (ret x.1) fun x=>ret (x.1:Int)) fun p4=>(bnd (ret ()) fun p5=>(ret (p4,p5)))) fun p1=>(w_cells_in_cells K cl p1)) fun v6=>(ret v6)) fun v7=>(ret (Flow.rt v7))) none
abbrev sp_Flip__tested (K:PySem.W.Frag) (cl:Cl):Sp:=lift K (fun x:(Nat×Nat)×Unit=> [(k_Flip K cl) x.1]) (kT kI) (w_Flip__tested K cl)
theorem ok_Flip__tested (T:Tx K mg cl):FnG P w K mg base 2 T.a_Flip__tested T.fd_Flip__tested ["self"] (sp_Flip__tested K cl):=
  okL T.F_Flip__tested sc_Flip__tested (fun _=>rfl) none (fun y e=>nomatch e) (fun cdv A outer s H E hg hr=>by
    refine⟨_,pss_one (ps_ret (pe_fnS ((ok_cells_in_cells T).atS hg (hr.mono (by decide)) (b_cells_in_cells T) .nil (takes_of rfl rfl rfl rfl)) rfl T.g_cells_in_cells T.F_cells_in_cells.kp (pa_cons (pe_fldK (K:=K) rfl (pv 0)) pa_nil))),?_⟩
    exact⟨_,fun x=>(simS_ret le_none (sim_co (sim_call (cal_lift (w:=w_cells_in_cells K cl)) (simA_cons (sim_fld (fs:=fs_Flip K cl) (s:=kI) (fun x=>(x.1:Int)) (fun _=>rfl) (fun _=>fl_Flip_test_mask) T.cls_Flip T.no_Flip_test_mask (sim_var (i:=0) (r:=(k_Flip K cl)) (x:=x.1) rfl)) simA_nil)) co_XT)),fun _ _ _ _ h=>h⟩)
def w_Flip__toggled (K:PySem.W.Frag) (cl:Cl):(Nat×Nat)×Unit→W K (List Int):=fun x=>outW (bnd (bnd (bnd (bnd (bnd (ret x.1) fun x=>ret (x.2:Int)) fun p4=>(bnd (ret ()) fun p5=>(ret (p4,p5)))) fun p1=>(w_cells_in_cells K cl p1)) fun v6=>(ret v6)) fun v7=>(ret (Flow.rt v7))) none
abbrev sp_Flip__toggled (K:PySem.W.Frag) (cl:Cl):Sp:=lift K (fun x:(Nat×Nat)×Unit=> [(k_Flip K cl) x.1]) (kT kI) (w_Flip__toggled K cl)
theorem ok_Flip__toggled (T:Tx K mg cl):FnG P w K mg base 2 T.a_Flip__toggled T.fd_Flip__toggled ["self"] (sp_Flip__toggled K cl):=
  okL T.F_Flip__toggled sc_Flip__toggled (fun _=>rfl) none (fun y e=>nomatch e) (fun cdv A outer s H E hg hr=>by
    refine⟨_,pss_one (ps_ret (pe_fnS ((ok_cells_in_cells T).atS hg (hr.mono (by decide)) (b_cells_in_cells T) .nil (takes_of rfl rfl rfl rfl)) rfl T.g_cells_in_cells T.F_cells_in_cells.kp (pa_cons (pe_fldK (K:=K) rfl (pv 0)) pa_nil))),?_⟩
    exact⟨_,fun x=>(simS_ret le_none (sim_co (sim_call (cal_lift (w:=w_cells_in_cells K cl)) (simA_cons (sim_fld (fs:=fs_Flip K cl) (s:=kI) (fun x=>(x.2:Int)) (fun _=>rfl) (fun _=>fl_Flip_toggle_mask) T.cls_Flip T.no_Flip_toggle_mask (sim_var (i:=0) (r:=(k_Flip K cl)) (x:=x.1) rfl)) simA_nil)) co_XT)),fun _ _ _ _ h=>h⟩)
def w_mask_of_sequences (K:PySem.W.Frag) (cl:Cl):(List Int)×Unit→W K Int:=fun x=>outW (bnd (bnd (bnd (bnd (bnd (ret x.1) fun y1=>(ret (y1,nI))) fun y3=>(wAss (y3.1.length≤50000) (wCalm (fmapW y3.2 (fun (x2:Int)=>(ret true)) (fun (x2:Int)=>(bnd (ret (1:Int)) fun v4=>(bnd (ret x2) fun v5=>(wAss (CPow v4 v5) (ret (v4 * 2 ^ (v5).toNat)))))) y3.1)))) fun p7=>(bnd (ret ()) fun p8=>(ret (p7,p8)))) fun y6=>(ret y6.1.sum)) fun v9=>(ret (Flow.rt v9))) none
abbrev sp_mask_of_sequences (K:PySem.W.Frag) (cl:Cl):Sp:=lift K (fun x:(List Int)×Unit=> [(kT kI) x.1]) kI (w_mask_of_sequences K cl)
theorem ok_mask_of_sequences (T:Tx K mg cl):FnG P w K mg base 1 T.a_mask_of_sequences T.fd_mask_of_sequences ["spots"] (sp_mask_of_sequences K cl):=
  okL T.F_mask_of_sequences sc_mask_of_sequences (fun _=>rfl) none (fun y e=>nomatch e) (fun cdv A outer s H E hg hr=>by
    refine⟨_,pss_one (ps_ret (pe_callB (kx_sum (K:=K) rfl rfl) (by rfl) T.z_sum bt_sum (pa_cons (pe_lc (own:= [("spot",1)]) (g:=gName 1) (tt:=tYes)  rfl sc_mask_of_sequences.nd (pi_tupK rfl (pv 0)) (blkOk_by (own:= [("spot",1)]) (N:=N_mask_of_sequences) (sc:=defScope st_mask_of_sequences) (by decide +kernel)) (fun _ _ _ _ _=>pg_name (i:=1) sc_mask_of_sequences.nd rfl (by first | exact Or.inl rfl | exact Or.inr rfl)) (fun _ _ _ _ _=>pts_nil) (fun _ _ _ _ _=>pe_op op_shl (pe_int) (pv 1))) pa_nil))),?_⟩
    exact⟨_,fun x=>(simS_ret le_none (sim_callB cb_sum (simA_cons (sim_lc (simI_tup (r:=kI) (sim_var (i:=0) (r:=(kT kI)) (x:=x.1) rfl)) simG_name (fun _ _ hy=>hy) (fun (x2:Int)=>simB_yes) (fun (x2:Int)=>(sim_op os_I sim_i (sim_var (i:=1) (r:=kI) (x:=x2) rfl)))) simA_nil))),fun _ _ _ _ h=>h⟩)
def w_row_masks (K:PySem.W.Frag) (cl:Cl):PyData×Unit→W K (List Int):=fun x=>outW (bnd (bnd (bnd (bnd (bnd (ret x.1) fun p14=>(bnd (bnd (bnd (bnd (ret "list") fun p9=>(bnd (bnd (ret "tuple") fun p7=>(bnd (ret ()) fun p8=>(ret (p7,p8)))) fun p10=>(ret (p9,p10)))) fun y6=>(ret (y6.1,y6.2.1))) fun p12=>(bnd (ret ()) fun p13=>(ret (p12,p13)))) fun p15=>(ret (p14,p15)))) fun y11=>(wAss (y11.2.1=("list","tuple")) (ret (isD y11.1 "list" || isD y11.1 "tuple")))) fun v16=>(ret (!v16))) fun v25=>(wIf v25 (ret true) (bnd (bnd (ret (1:Int)) fun v20=>(bnd (bnd (bnd (ret x.1) fun p18=>(bnd (ret ()) fun p19=>(ret (p18,p19)))) fun y17=>(wSeq y17.1 fun ds=>ret (ds.length:Int))) fun v21=>(bnd (ret (decide (v20≤v21))) fun v22=>(wIf v22 (bnd (ret (40:Int)) fun v23=>(ret (decide (v21≤v23)))) (ret false))))) fun v24=>(ret (!v24))))) fun v49=>(wIf v49 (bnd (bnd (ret ("rows" :Str)) fun p26=>(bnd (ret ()) fun p27=>(ret (p26,p27)))) fun (y:Str×Unit)=>(wRaise (cl.NoTable,[("why",kS y.1)]))) (bnd (wTry (bnd (bnd (wSeq x.1 fun xs=>ret (xs,nI)) fun y31=>(wAss (y31.1.length≤50000) (wCalm (fmapW y31.2 (fun (x30:PyData)=>(ret true)) (fun (x30:PyData)=>(bnd (bnd (bnd (bnd (ret x30) fun p38=>(bnd (ret ()) fun p39=>(ret (p38,p39)))) fun p35=>(bnd (bnd (bnd (bnd (ret x.1) fun p33=>(bnd (ret ()) fun p34=>(ret (p33,p34)))) fun y32=>(wSeq y32.1 fun ds=>ret (ds.length:Int))) fun p40=>(bnd (ret ()) fun p41=>(ret (p40,p41)))) fun p36=>(w_cell_tuple K cl ((fun (x:PyData×Unit) (y:Int×Unit)=>(x.1,y.1,())) p35 p36)))) fun p45=>(bnd (ret ()) fun p46=>(ret (p45,p46)))) fun p42=>(w_mask_of_sequences K cl p42))) y31.1)))) fun v47=>(ret (Flow.rt v47))) (wCatch cl.NoCells (fun e48=>(fun _ _ _=>False)) wRaise)) (aftT fun (s28:Unit)=>(ret (Flow.nx ())))))) none
abbrev sp_row_masks (K:PySem.W.Frag) (cl:Cl):Sp:=lift K (fun x:PyData×Unit=> [kPy x.1]) (kL kI) (w_row_masks K cl)
theorem ok_row_masks (T:Tx K mg cl):FnG P w K mg base 4 T.a_row_masks T.fd_row_masks ["rows"] (sp_row_masks K cl):=
  okL T.F_row_masks sc_row_masks (fun _=>rfl) none (fun y e=>nomatch e) (fun cdv A outer s H E hg hr=>by
    refine⟨_,pss_cons (ps_if (PW.pt (pw_or (pt_not (pt_val (pe_callB (kx_isiT (K:=K) rfl) (by rfl) T.z_isinstance bt_isinstance (pa_cons (pv 0) (pa_cons (pe_tup (pa_cons (pe_bltn (v:= .ty "list") (by rfl) T.z_list bt_list rfl) (pa_cons (pe_bltn (v:= .ty "tuple") (by rfl) T.z_tuple bt_tuple rfl) pa_nil))) pa_nil))))) (pw_or1 (pt_not (pt_chain op_le op_le (pe_int) (pe_callB (kx_len (K:=K) rfl) (by rfl) T.z_len bt_len (pa_cons (pv 0) pa_nil)) (pe_glob (v:=(.int 40)) rfl T.c_MOST_CELLS ⟨_,rfl⟩)))))) (pss_one (ps_err (k:=0) rfl T.e_NoTable er_rel1 (hr.mono (by decide)) (takes_of rfl rfl rfl rfl) (pa_cons (pe_str) pa_nil) rfl)) pss_nil)
    (pss_one (ps_try_clauses rfl rfl sc_row_masks.nd (takes_of rfl rfl rfl rfl)
      (fun W pn xe tk _=>pss_one (ps_ret (pe_lc (own:= [("row",2)]) (g:=gName 2) (tt:=tYes)  rfl sc_row_masks.nd (pi_seq (K:=K) rfl (pv 0)) (blkOk_by (own:= [("row",2)]) (N:=N_row_masks) (sc:=defScope st_row_masks) (by decide +kernel)) (fun _ _ _ _ _=>pg_name (i:=2) sc_row_masks.nd rfl (by first | exact Or.inl rfl | exact Or.inr rfl)) (fun _ _ _ _ _=>pts_nil) (fun _ _ _ _ _=>pe_fnS ((ok_mask_of_sequences T).atS hg (hr.mono (by decide)) (b_mask_of_sequences T) .nil takes0) rfl T.g_mask_of_sequences T.F_mask_of_sequences.kp (pa_cons (pe_fnKS ((ok_cell_tuple T).atKS hg (hr.mono (by decide)) (kb_cell_tuple__1_size T) takes0) rfl T.g_cell_tuple T.F_cell_tuple.kp (pa_cons (pv 2) pa_nil) (pk_cons (pe_callB (kx_len (K:=K) rfl) (by rfl) T.z_len bt_len (pa_cons (pv 0) pa_nil)) pk_nil)) pa_nil)))))
      (.cons (i:=1) rfl rfl ⟨rfl,by decide,Or.inl T.e_NoCells.gC⟩ (fun a oe cls d pn hz hf=>pss_one (ps_never)) .nil))),?_⟩
    exact⟨_,fun x=>(simS_seq (simS_if le_none (simB_or (simB_not (simB_B (sim_callB cb_isiT2 (simA_cons (sim_var (i:=0) (r:=kPy) (x:=x.1) rfl) (simA_cons (sim_pair (simA_cons (sim_ty (T:= "list")) (simA_cons (sim_ty (T:= "tuple")) simA_nil))) simA_nil))))) (simB_not (simB_test (sim_chain os_B0 os_B0 sim_i (sim_callB cb_lenPy (simA_cons (sim_var (i:=0) (r:=kPy) (x:=x.1) rfl) simA_nil)) sim_i)))) (simS_raise le_none (simA_cons sim_s simA_nil) (fun (y:Str×Unit)=> [("why",kS y.1)]) (by rintro y Z H vs ⟨v,_,rfl,h,rfl⟩;exact⟨v,[],rfl,rfl,v,[],rfl,h,rfl⟩)) (simS_next (simS_try (Gc:= [some (kPy x.1),none,none]) (G1:=(fun s28:Unit=>([some (kPy x.1),none,none]:Gm K))) (fun ε'=>(simS_ret (.so (.no (.no .nil))) (sim_lc (simI_py (i:=0) (d:=x.1) rfl) (simG_name (i:=2) (r:=kPy)) (fun _ _ hy=>hy) (fun (x30:PyData)=>simB_yes) (fun (x30:PyData)=>(sim_call (cal_lift (w:=w_mask_of_sequences K cl)) (simA_cons (sim_callK (cal_liftK (δ':=fun x:PyData×Int×Unit=> [kPy x.1,kI x.2.1]) (w:=w_cell_tuple K cl) (fun (x:PyData×Unit) (y:Int×Unit)=>(x.1,y.1,())) (by rintro Z H x y vs zs ⟨_,_,rfl,a0,rfl⟩ ⟨_,_,rfl,a1,rfl⟩;exact⟨_,_,rfl,a0,_,_,rfl,a1,rfl⟩)) (simA_cons (sim_var (i:=2) (r:=kPy) (x:=x30) rfl) simA_nil) (simA_cons (sim_callB cb_lenPy (simA_cons (sim_var (i:=0) (r:=kPy) (x:=x.1) rfl) simA_nil)) simA_nil)) simA_nil)))))) (SimC.cons (i:=1) (Gs:=(fun s28:Unit=>([some (kPy x.1),none,none]:Gm K))) (fun a k d e48=>(show SimS _ _ ([some (kPy x.1),some (kErr a k d e48),none]:Gm K) _ _ _ _ from simS_never)) (fun _=>(.so (.no (.no .nil)))) (.nil le_none)) (fun (s28:Unit)=>(show SimS _ _ ([some (kPy x.1),none,none]:Gm K) _ _ _ _ from (simS_end (.no (.no (.no .nil)))))))))),fun _ _ _ _ h=>h⟩)
def w_Elimination____init__ (K:PySem.W.Frag) (cl:Cl):Addr×Unit→W K Unit:=fun x=>outW (bnd (wNew (.dic [])) fun v1=>(bnd (ret x.1) fun v2=>(wSetF cl.Elimination "pivots" v2 (kRef v1) (ret (Flow.nx ()))))) (some ())
abbrev sp_Elimination____init__ (K:PySem.W.Frag) (cl:Cl):Sp:=lift K (fun x:Addr×Unit=> [kRef x.1]) kN (w_Elimination____init__ K cl)
theorem ok_Elimination____init__ (T:Tx K mg cl):FnG P w K mg base 1 T.a_Elimination____init__ T.fd_Elimination____init__ ["self"] (sp_Elimination____init__ K cl):=
  okL T.F_Elimination____init__ sc_Elimination____init__ (fun _=>rfl) (some ()) (fun y e=>by cases e;rfl) (fun cdv A outer s H E hg hr=>by
    refine⟨_,pss_one (ps_fldK (K:=K) rfl (pv 0) (pe_dnewK)),?_⟩
    exact⟨_,fun x=>(simS_fld (r:=kRef) T.cls_Elimination T.no_Elimination_pivots le_none sim_dnewK (sim_var (i:=0) (r:=kRef) (x:=x.1) rfl) (simS_end (.no .nil))),fun _ _ _ _ h=>h⟩)
def w_Elimination__reduced (K:PySem.W.Frag) (cl:Cl):Addr×Int×Int×Unit→W K (Int×Int):=fun x=>outW (bnd (whileW (fun (s1:Int×Int×Unit)=>(bnd (bnd (ret s1.1) fun v8=>(ret ((Builtin.Int.intBits v8:Nat):Int))) fun v10=>(bnd (bnd (ret x.1) (wGetF cl.Elimination "pivots" kRef)) fun v11=>(wHas v11 (Sum.inl v10))))) (fun (s1:Int×Int×Unit)=>(bnd (bnd (bnd (ret x.1) (wGetF cl.Elimination "pivots" kRef)) fun v12=>(bnd (bnd (ret s1.1) fun v13=>(ret ((Builtin.Int.intBits v13:Nat):Int))) fun v15=>(wGetK (kP kI kI) v12 (Sum.inl v15)))) fun (y16:(Int×Int))=>(bnd (ret y16.1) fun v17=>((fun (mask_18:Int)=>(bnd (ret y16.2) fun v19=>((fun (items_20:Int)=>(ret (Flow.nx (mask_18,items_20,())))) (Builtin.bitXor s1.2.1 v19)))) (Builtin.bitXor s1.1 v17))))) (x.2.1,x.2.2.1,())) (aft fun (s1:Int×Int×Unit)=>(bnd (bnd (bnd (ret s1.1) fun p5=>(bnd (bnd (ret s1.2.1) fun p3=>(bnd (ret ()) fun p4=>(ret (p3,p4)))) fun p6=>(ret (p5,p6)))) fun y2=>(ret (y2.1,y2.2.1))) fun v7=>(ret (Flow.rt v7))))) none
abbrev sp_Elimination__reduced (K:PySem.W.Frag) (cl:Cl):Sp:=lift K (fun x:Addr×Int×Int×Unit=> [kRef x.1,kI x.2.1,kI x.2.2.1]) (kP kI kI) (w_Elimination__reduced K cl)
theorem ok_Elimination__reduced (T:Tx K mg cl):FnG P w K mg base 1 T.a_Elimination__reduced T.fd_Elimination__reduced ["self","mask","items"] (sp_Elimination__reduced K cl):=
  okL T.F_Elimination__reduced sc_Elimination__reduced (fun _=>rfl) none (fun y e=>nomatch e) (fun cdv A outer s H E hg hr=>by
    refine⟨_,pss_cons (ps_while (passes_of rfl) (pt_cmp (pc_din (L2.hu_of hr) (pe_bits (pv 1)) (pe_fldK (K:=K) rfl (pv 0))) rfl)
      (pss_cons (ps_asg (pe_dget (L2.hu_of hr) (pe_fldK (K:=K) rfl (pv 0)) (pe_bits (pv 1)) (fun _ _=>rfl)) (pg_tupK (K:=K) rfl rfl (pgs_cons (pg_name (i:=3) sc_Elimination__reduced.nd rfl (by first | exact Or.inl rfl | exact Or.inr rfl)) (pgs_cons (pg_name (i:=4) sc_Elimination__reduced.nd rfl (by first | exact Or.inl rfl | exact Or.inr rfl)) pgs_nil))))
    (pss_cons (ps_aug (i:=1) sc_Elimination__reduced.nd rfl (by first | exact Or.inl rfl | exact Or.inr rfl) (pv 3) ip_xor)
    (pss_one (ps_aug (i:=2) sc_Elimination__reduced.nd rfl (by first | exact Or.inl rfl | exact Or.inr rfl) (pv 4) ip_xor)))))
    (pss_one (ps_ret (pe_tup (pa_cons (pv 1) (pa_cons (pv 2) pa_nil))))),?_⟩
    exact⟨_,fun x=>(simS_seq (simS_while (Gl:=(fun s1:Int×Int×Unit=>([some (kRef x.1),some (kI s1.1),some (kI s1.2.1),none,none]:Gm K))) (s0:=(x.2.1,x.2.2.1,())) (fun _=>le_none) (.so (.so (.so (.no (.no .nil))))) (fun (s1:Int×Int×Unit)=>(simB_B (sim_din key_I (sim_bits (sim_var (i:=1) (r:=kI) (x:=s1.1) rfl)) (sim_fldC (s:=kRef) T.cls_Elimination T.no_Elimination_pivots (sim_var (i:=0) (r:=kRef) (x:=x.1) rfl))))) (fun (s1:Int×Int×Unit)=>(show SimS _ _ ([some (kRef x.1),some (kI s1.1),some (kI s1.2.1),none,none]:Gm K) _ _ _ _ from (simS_seq (simS_asg (simG_pair simG_name simG_name) le_none (sim_dget (r3:=(kP kI kI)) key_I (sim_fldC (s:=kRef) T.cls_Elimination T.no_Elimination_pivots (sim_var (i:=0) (r:=kRef) (x:=x.1) rfl)) (sim_bits (sim_var (i:=1) (r:=kI) (x:=s1.1) rfl))) (fun (y16:(Int×Int))=>(show SimS _ _ ([some (kRef x.1),some (kI s1.1),some (kI s1.2.1),some (kI y16.1),some (kI y16.2)]:Gm K) _ _ _ _ from (simS_seq (simS_augI (x:=s1.1) le_none rfl (sim_var (i:=3) (r:=kI) (x:=y16.1) rfl) (fun (mask_18:Int)=>(show SimS _ _ ([some (kRef x.1),some (kI mask_18),some (kI s1.2.1),some (kI y16.1),some (kI y16.2)]:Gm K) _ _ _ _ from (simS_augI (x:=s1.2.1) le_none rfl (sim_var (i:=4) (r:=kI) (x:=y16.2) rfl) (fun (items_20:Int)=>(show SimS _ _ ([some (kRef x.1),some (kI mask_18),some (kI items_20),some (kI y16.1),some (kI y16.2)]:Gm K) _ _ _ _ from (simS_end (s:=((mask_18,items_20,()):Int×Int×Unit)) (.so (.so (.so (.no (.no .nil))))))))))))))))))) (fun (s1:Int×Int×Unit)=>(show SimS _ _ ([some (kRef x.1),some (kI s1.1),some (kI s1.2.1),none,none]:Gm K) _ _ _ _ from (simS_ret le_none (sim_pair (simA_cons (sim_var (i:=1) (r:=kI) (x:=s1.1) rfl) (simA_cons (sim_var (i:=2) (r:=kI) (x:=s1.2.1) rfl) simA_nil)))))))),fun _ _ _ _ h=>h⟩)
def w_Elimination__take (K:PySem.W.Frag) (cl:Cl):Addr×Int×Int×Unit→W K Bool:=fun x=>outW (bnd (bnd (ret x.1) fun p3=>(wRcv (IsC cl.Elimination "reduced" p3) (bnd (bnd (ret x.2.1) fun p6=>(bnd (bnd (ret x.2.2.1) fun p4=>(bnd (ret ()) fun p5=>(ret (p4,p5)))) fun p7=>(ret (p6,p7)))) fun p1=>(w_Elimination__reduced K cl (p3,p1))))) fun (y8:(Int×Int))=>(bnd (bnd (ret y8.1) fun v9=>(bnd (ret (0:Int)) fun v10=>(ret (decide (v9=v10))))) fun v23=>(wIf v23 (bnd (ret false) fun v11=>(ret (Flow.rt v11))) (bnd (bnd (bnd (ret y8.1) fun p18=>(bnd (bnd (ret y8.2) fun p16=>(bnd (ret ()) fun p17=>(ret (p16,p17)))) fun p19=>(ret (p18,p19)))) fun y15=>(ret (y15.1,y15.2.1))) fun v12=>(bnd (bnd (ret x.1) (wGetF cl.Elimination "pivots" kRef)) fun v13=>(bnd (bnd (ret y8.1) fun v20=>(ret ((Builtin.Int.intBits v20:Nat):Int))) fun v14=>(wPutK v13 (Sum.inl v14) ((kP kI kI) v12) (bnd (ret true) fun v22=>(ret (Flow.rt v22)))))))))) none
abbrev sp_Elimination__take (K:PySem.W.Frag) (cl:Cl):Sp:=lift K (fun x:Addr×Int×Int×Unit=> [kRef x.1,kI x.2.1,kI x.2.2.1]) kB (w_Elimination__take K cl)
theorem ok_Elimination__take (T:Tx K mg cl):FnG P w K mg base 2 T.a_Elimination__take T.fd_Elimination__take ["self","mask","items"] (sp_Elimination__take K cl):=
  okL T.F_Elimination__take sc_Elimination__take (fun _=>rfl) none (fun y e=>nomatch e) (fun cdv A outer s H E hg hr=>by
    refine⟨_,pss_cons (ps_asg (pe_mS ((ok_Elimination__reduced T).atS hg (hr.mono (by decide)) (b_Elimination__reduced T) .nil (takes_of rfl rfl rfl rfl)) T.cls_Elimination T.m_Elimination__reduced (pv 0) (pa_cons (pv 1) (pa_cons (pv 2) pa_nil))) (pg_tupK (K:=K) rfl rfl (pgs_cons (pg_name (i:=3) sc_Elimination__take.nd rfl (by first | exact Or.inl rfl | exact Or.inr rfl)) (pgs_cons (pg_name (i:=4) sc_Elimination__take.nd rfl (by first | exact Or.inl rfl | exact Or.inr rfl)) pgs_nil))))
    (pss_cons (ps_if (pt_cmpR (kx_eq (K:=K) rfl hr) (pv 3) (pe_int) (nomark _)) (pss_one (ps_ret (pe_bl))) pss_nil)
    (pss_cons (ps_dput (L2.hu_of hr) (pe_fldK (K:=K) rfl (pv 0)) (pe_bits (pv 3)) (pe_tup (pa_cons (pv 3) (pa_cons (pv 4) pa_nil))) (by rfl))
    (pss_one (ps_ret (pe_bl))))),?_⟩
    exact⟨_,fun x=>(simS_seq (simS_asg (simG_pair simG_name simG_name) le_none (sim_ms (cal_lift (w:=w_Elimination__reduced K cl)) (rcv_C (C:=cl.Elimination) (m:= "reduced")) (sim_var (i:=0) (r:=kRef) (x:=x.1) rfl) (simA_cons (sim_var (i:=1) (r:=kI) (x:=x.2.1) rfl) (simA_cons (sim_var (i:=2) (r:=kI) (x:=x.2.2.1) rfl) simA_nil))) (fun (y8:(Int×Int))=>(show SimS _ _ ([some (kRef x.1),some (kI x.2.1),some (kI x.2.2.1),some (kI y8.1),some (kI y8.2)]:Gm K) _ _ _ _ from (simS_seq (simS_if le_none (simB_test (sim_op os_eqI (sim_var (i:=3) (r:=kI) (x:=y8.1) rfl) sim_i)) (simS_ret le_none sim_b) (simS_next (simS_seq (simS_dput (r:=(kP kI kI)) key_I le_none (sim_pair (simA_cons (sim_var (i:=3) (r:=kI) (x:=y8.1) rfl) (simA_cons (sim_var (i:=4) (r:=kI) (x:=y8.2) rfl) simA_nil))) (sim_fldC (s:=kRef) T.cls_Elimination T.no_Elimination_pivots (sim_var (i:=0) (r:=kRef) (x:=x.1) rfl)) (sim_bits (sim_var (i:=3) (r:=kI) (x:=y8.1) rfl)) (simS_ret le_none sim_b)))))))))),fun _ _ _ _ h=>h⟩)
def w_are_invertible (K:PySem.W.Frag) (cl:Cl):(List Int)×Unit→W K Bool:=fun x=>outW (bnd (bnd (ret ()) fun p1=>(wMk cl.Elimination (w_Elimination____init__ K cl) p1)) fun (found_4:Addr)=>(bnd (bnd (bnd (bnd (bnd (ret x.1) fun y5=>(ret (y5,nI))) fun y7=>(wAss (y7.1.length≤50000) (wCalm (fmapW y7.2 (fun (x6:Int)=>(ret true)) (fun (x6:Int)=>(bnd (ret found_4) fun p10=>(wRcv (IsC cl.Elimination "take" p10) (bnd (bnd (ret x6) fun p13=>(bnd (bnd (ret (0:Int)) fun p11=>(bnd (ret ()) fun p12=>(ret (p11,p12)))) fun p14=>(ret (p13,p14)))) fun p8=>(w_Elimination__take K cl (p10,p8)))))) y7.1)))) fun p16=>(bnd (ret ()) fun p17=>(ret (p16,p17)))) fun y15=>(ret (y15.1.all id))) fun v18=>(ret (Flow.rt v18)))) none
abbrev sp_are_invertible (K:PySem.W.Frag) (cl:Cl):Sp:=lift K (fun x:(List Int)×Unit=> [(kL kI) x.1]) kB (w_are_invertible K cl)
theorem ok_are_invertible (T:Tx K mg cl):FnG P w K mg base 3 T.a_are_invertible T.fd_are_invertible ["masks"] (sp_are_invertible K cl):=
  okL T.F_are_invertible sc_are_invertible (fun _=>rfl) none (fun y e=>nomatch e) (fun cdv A outer s H E hg hr=>by
    refine⟨_,pss_cons (ps_set (i:=1) sc_are_invertible.nd rfl (by first | exact Or.inl rfl | exact Or.inr rfl) (pe_fnS0 ((ok_Elimination____init__ T).make T.mk_Elimination hg (hr.mono (by decide)) (b_Elimination____init__ T) .nil (takes_of rfl rfl rfl rfl)) rfl T.gc_Elimination T.mk_Elimination.kp))
    (pss_one (ps_ret (pe_callB (kx_all (K:=K) rfl rfl) (by rfl) T.z_all bt_all (pa_cons (pe_lc (own:= [("mask",2)]) (g:=gName 2) (tt:=tYes)  rfl sc_are_invertible.nd (pi_listK rfl (pv 0)) (blkOk_by (own:= [("mask",2)]) (N:=N_are_invertible) (sc:=defScope st_are_invertible) (by decide +kernel)) (fun _ _ _ _ _=>pg_name (i:=2) sc_are_invertible.nd rfl (by first | exact Or.inl rfl | exact Or.inr rfl)) (fun _ _ _ _ _=>pts_nil) (fun _ _ _ _ _=>pe_mS ((ok_Elimination__take T).atS hg (hr.mono (by decide)) (b_Elimination__take T) .nil takes0) T.cls_Elimination T.m_Elimination__take (pv 1) (pa_cons (pv 2) (pa_cons (pe_int) pa_nil)))) pa_nil)))),?_⟩
    exact⟨_,fun x=>(simS_seq (simS_asg simG_name le_none (sim_call (cal_mk (w:=w_Elimination____init__ K cl)) simA_nil) (fun (found_4:Addr)=>(show SimS _ _ ([some ((kL kI) x.1),some (kRef found_4),none]:Gm K) _ _ _ _ from (simS_ret le_none (sim_callB cb_all (simA_cons (sim_lc (simI_list (r:=kI) (sim_var (i:=0) (r:=(kL kI)) (x:=x.1) rfl)) simG_name (fun _ _ hy=>hy) (fun (x6:Int)=>simB_yes) (fun (x6:Int)=>(sim_ms (cal_lift (w:=w_Elimination__take K cl)) (rcv_C (C:=cl.Elimination) (m:= "take")) (sim_var (i:=1) (r:=kRef) (x:=found_4) rfl) (simA_cons (sim_var (i:=2) (r:=kI) (x:=x6) rfl) (simA_cons sim_i simA_nil))))) simA_nil))))))),fun _ _ _ _ h=>h⟩)
def w_Table____init__ (K:PySem.W.Frag) (cl:Cl):Addr×PyData×Unit→W K Unit:=fun x=>outW (bnd (bnd (bnd (ret x.2.1) fun p4=>(bnd (ret ()) fun p5=>(ret (p4,p5)))) fun p1=>(w_row_masks K cl p1)) fun (masks_6:List Int)=>(bnd (bnd (bnd (ret masks_6) fun v8=>(bnd (ret (0:Int)) fun v9=>(wIx v8 v9))) fun v10=>(bnd (ret (1:Int)) fun v11=>(ret (!decide (v10=v11))))) fun v25=>(wIf v25 (bnd (bnd (ret ("first" :Str)) fun p12=>(bnd (ret ()) fun p13=>(ret (p12,p13)))) fun (y:Str×Unit)=>(wRaise (cl.NoTable,[("why",kS y.1)]))) (bnd (bnd (bnd (bnd (ret masks_6) fun p17=>(bnd (ret ()) fun p18=>(ret (p17,p18)))) fun p14=>(w_are_invertible K cl p14)) fun v19=>(ret (!v19))) fun v24=>(wIf v24 (bnd (bnd (ret ("singular" :Str)) fun p20=>(bnd (ret ()) fun p21=>(ret (p20,p21)))) fun (y:Str×Unit)=>(wRaise (cl.NoTable,[("why",kS y.1)]))) (bnd (ret masks_6) fun v22=>(bnd (ret x.1) fun v23=>(wSetF cl.Table "masks" v23 ((kL kI) v22) (ret (Flow.nx ())))))))))) (some ())
abbrev sp_Table____init__ (K:PySem.W.Frag) (cl:Cl):Sp:=lift K (fun x:Addr×PyData×Unit=> [kRef x.1,kPy x.2.1]) kN (w_Table____init__ K cl)
theorem ok_Table____init__ (T:Tx K mg cl):FnG P w K mg base 5 T.a_Table____init__ T.fd_Table____init__ ["self","rows"] (sp_Table____init__ K cl):=
  okL T.F_Table____init__ sc_Table____init__ (fun _=>rfl) (some ()) (fun y e=>by cases e;rfl) (fun cdv A outer s H E hg hr=>by
    refine⟨_,pss_cons (ps_set (i:=2) sc_Table____init__.nd rfl (by first | exact Or.inl rfl | exact Or.inr rfl) (pe_fnS ((ok_row_masks T).atS hg (hr.mono (by decide)) (b_row_masks T) .nil (takes_of rfl rfl rfl rfl)) rfl T.g_row_masks T.F_row_masks.kp (pa_cons (pv 1) pa_nil)))
    (pss_cons (ps_if (pt_cmpR (kx_ne (K:=K) rfl hr) (pe_ix (kx_ix (K:=K) rfl) (pv 2) (pe_int) (fun _ _=>rfl)) (pe_int) (nomark _)) (pss_one (ps_err (k:=0) rfl T.e_NoTable er_rel1 (hr.mono (by decide)) (takes_of rfl rfl rfl rfl) (pa_cons (pe_str) pa_nil) rfl)) pss_nil)
    (pss_cons (ps_if (pt_not (pt_val (pe_fnS ((ok_are_invertible T).atS hg (hr.mono (by decide)) (b_are_invertible T) .nil (takes_of rfl rfl rfl rfl)) rfl T.g_are_invertible T.F_are_invertible.kp (pa_cons (pv 2) pa_nil)))) (pss_one (ps_err (k:=0) rfl T.e_NoTable er_rel1 (hr.mono (by decide)) (takes_of rfl rfl rfl rfl) (pa_cons (pe_str) pa_nil) rfl)) pss_nil)
    (pss_one (ps_fldK (K:=K) rfl (pv 0) (pv 2))))),?_⟩
    exact⟨_,fun x=>(simS_seq (simS_asg simG_name le_none (sim_call (cal_lift (w:=w_row_masks K cl)) (simA_cons (sim_var (i:=1) (r:=kPy) (x:=x.2.1) rfl) simA_nil)) (fun (masks_6:List Int)=>(show SimS _ _ ([some (kRef x.1),some (kPy x.2.1),some ((kL kI) masks_6)]:Gm K) _ _ _ _ from (simS_seq (simS_if le_none (simB_test (sim_op os_neI (sim_op os_ixL (sim_var (i:=2) (r:=(kL kI)) (x:=masks_6) rfl) sim_i) sim_i)) (simS_raise le_none (simA_cons sim_s simA_nil) (fun (y:Str×Unit)=> [("why",kS y.1)]) (by rintro y Z H vs ⟨v,_,rfl,h,rfl⟩;exact⟨v,[],rfl,rfl,v,[],rfl,h,rfl⟩)) (simS_next (simS_seq (simS_if le_none (simB_not (simB_B (sim_call (cal_lift (w:=w_are_invertible K cl)) (simA_cons (sim_var (i:=2) (r:=(kL kI)) (x:=masks_6) rfl) simA_nil)))) (simS_raise le_none (simA_cons sim_s simA_nil) (fun (y:Str×Unit)=> [("why",kS y.1)]) (by rintro y Z H vs ⟨v,_,rfl,h,rfl⟩;exact⟨v,[],rfl,rfl,v,[],rfl,h,rfl⟩)) (simS_next (simS_fld (r:=(kL kI)) T.cls_Table T.no_Table_masks le_none (sim_var (i:=2) (r:=(kL kI)) (x:=masks_6) rfl) (sim_var (i:=0) (r:=kRef) (x:=x.1) rfl) (simS_end (.no (.no (.no .nil))))))))))))))),fun _ _ _ _ h=>h⟩)
def w_cells_in_sequences (K:PySem.W.Frag) (cl:Cl):Int×Unit→W K (List Int):=fun x=>outW (bnd (bnd (bnd (bnd (bnd (bnd (bnd (ret x.1) fun v2=>(ret ((Builtin.Int.intBits v2:Nat):Int))) fun p4=>(bnd (ret ()) fun p5=>(ret (p4,p5)))) fun y1=>(wAss (-(2 ^ 62)≤y1.1∧y1.1<2 ^ 62) (ret (rng 0 y1.1,nI)))) fun y7=>(wAss (y7.1.length≤50000) (wCalm (fmapW y7.2 (fun (x6:Int)=>(bnd (bnd (bnd (ret x.1) fun v8=>(bnd (ret x6) fun v9=>(wAss (0≤v9) (ret (v8 / 2 ^ (v9).toNat))))) fun v10=>(bnd (ret (1:Int)) fun v11=>(ret (Builtin.bitAnd v10 v11)))) fun v12=>(bnd (ret (1:Int)) fun v13=>(ret (decide (v12=v13)))))) (fun (x6:Int)=>(ret x6)) y7.1)))) fun p15=>(bnd (ret ()) fun p16=>(ret (p15,p16)))) fun y14=>(ret y14.1)) fun v17=>(ret (Flow.rt v17))) none
abbrev sp_cells_in_sequences (K:PySem.W.Frag) (cl:Cl):Sp:=lift K (fun x:Int×Unit=> [kI x.1]) (kT kI) (w_cells_in_sequences K cl)
theorem ok_cells_in_sequences (T:Tx K mg cl):FnG P w K mg base 1 T.a_cells_in_sequences T.fd_cells_in_sequences ["mask"] (sp_cells_in_sequences K cl):=
  okL T.F_cells_in_sequences sc_cells_in_sequences (fun _=>rfl) none (fun y e=>nomatch e) (fun cdv A outer s H E hg hr=>by
    refine⟨_,pss_one (ps_ret (pe_callTy (kx_tuple (K:=K) rfl) (by rfl) T.z_tuple bt_tuple (pa_cons (pe_lc (own:= [("spot",1)]) (g:=gName 1)  rfl sc_cells_in_sequences.nd (pi_range1 rfl T.z_range (pa_cons (pe_bits (pv 0)) pa_nil)) (blkOk_by (own:= [("spot",1)]) (N:=N_cells_in_sequences) (sc:=defScope st_cells_in_sequences) (by decide +kernel)) (fun _ _ _ _ _=>pg_name (i:=1) sc_cells_in_sequences.nd rfl (by first | exact Or.inl rfl | exact Or.inr rfl)) (fun _ _ _ _ _=>pts_one (pt_cmpR (kx_eq (K:=K) rfl hr) (pe_op op_and (pe_op op_shr (pv 0) (pv 1)) (pe_int)) (pe_int) (nomark _))) (fun _ _ _ _ _=>pv 1)) pa_nil))),?_⟩
    exact⟨_,fun x=>(simS_ret le_none (sim_callB cb_tupleL (simA_cons (sim_lc (simI_r1 (simA_cons (sim_bits (sim_var (i:=0) (r:=kI) (x:=x.1) rfl)) simA_nil)) simG_name (fun _ _ hy=>hy) (fun (x6:Int)=>(simB_test (sim_op os_eqI (sim_op os_I0 (sim_op os_I (sim_var (i:=0) (r:=kI) (x:=x.1) rfl) (sim_var (i:=1) (r:=kI) (x:=x6) rfl)) sim_i) sim_i))) (fun (x6:Int)=>(sim_var (i:=1) (r:=kI) (x:=x6) rfl))) simA_nil))),fun _ _ _ _ h=>h⟩)
def w_table_of (K:PySem.W.Frag) (cl:Cl):PyData×(List (Nat×Nat))×Unit→W K (List Nat):=fun x=>outW (bnd (bnd (bnd (bnd (bnd (bnd (bnd (bnd (bnd (ret x.1) fun p5=>(bnd (ret ()) fun p6=>(ret (p5,p6)))) fun p2=>(wMk cl.Board (w_Board____init__ K cl) ((fun x:PyData×Unit=>(x.1,(PyData.tuple []),())) p2))) (wFrz cl.Board (fs_Board K cl))) fun p9=>(wRcv (fun _=>True) (bnd (ret ()) fun p7=>(w_Board__size K cl (p9,p7))))) fun p10=>(bnd (ret ()) fun p11=>(ret (p10,p11)))) fun y1=>(wAss (-(2 ^ 62)≤y1.1∧y1.1<2 ^ 62) (ret (rng 0 y1.1,nI)))) fun y13=>(wAss (y13.1.length≤50000) (wCalm (fmapW y13.2 (fun (x12:Int)=>(ret true)) (fun (x12:Int)=>(bnd (ret (1:Int)) fun v14=>(bnd (ret x12) fun v15=>(wAss (CPow v14 v15) (ret (v14 * 2 ^ (v15).toNat)))))) y13.1)))) (wThaw kI)) fun (masks_17:Addr)=>(bnd (ret (x.2.1,nI)) fun y44=>(bnd (forW y44.2 (fun (x43:(Nat×Nat)) (s18:Unit)=>(bnd (bnd (bnd (ret x43) fun p47=>(wRcv (fun _=>True) (bnd (ret ()) fun p45=>(w_Flip__width K cl (p47,p45))))) fun v49=>(bnd (bnd (ret x.1) (wAs PyData.int)) fun v50=>(ret (decide (v50<v49))))) fun v80=>(wIf v80 (bnd (bnd (bnd (ret x43) fun p53=>(wRcv (fun _=>True) (bnd (ret ()) fun p51=>(w_Flip__width K cl (p53,p51))))) fun p54=>(bnd (ret ()) fun p55=>(ret (p54,p55)))) fun (y:Int×Unit)=>(wRaise (cl.TooWide,[("needed",kI y.1)]))) (bnd (ret (0:Int)) fun (tested_56:Int)=>(bnd (bnd (bnd (ret x43) fun p72=>(wRcv (fun _=>True) (bnd (ret ()) fun p70=>(w_Flip__tested K cl (p72,p70))))) fun y69=>(ret (y69,nI))) fun y74=>(bnd (forW y74.2 (fun (x73:Int) (s57:Int×Unit)=>(bnd (bnd (ret masks_17) fun v76=>(bnd (ret x73) fun v77=>(wPk kI v76 fun z=>wIx z v77))) fun v78=>((fun (tested_79:Int)=>(ret (Flow.nx (tested_79,())))) (Builtin.bitXor s57.1 v78)))) y74.1 (tested_56,())) (aft fun (s57:Int×Unit)=>(bnd (bnd (bnd (ret x43) fun p62=>(wRcv (fun _=>True) (bnd (ret ()) fun p60=>(w_Flip__toggled K cl (p62,p60))))) fun y59=>(ret (y59,nI))) fun y64=>(bnd (forW y64.2 (fun (x63:Int) (s58:Unit)=>(bnd (ret masks_17) fun v65=>(bnd (ret x63) fun v66=>(wPk kI v65 fun xs=>(bnd (wIx xs v66) fun v67=>(bnd (ret s57.1) fun v68=>(wSetI v65 v66 (kI (Builtin.bitXor v67 v68)) (ret (Flow.nx ()))))))))) y64.1 ()) (aft fun (s58:Unit)=>(ret (Flow.nx ())))))))))))) y44.1 ()) (aft fun (s18:Unit)=>(bnd (bnd (bnd (bnd (bnd (bnd (bnd (ret masks_17) fun y27=>(wPk kI y27 fun xs=>ret (xs,Stays y27 (xs.map kI)))) fun y29=>(wAss (y29.1.length≤50000) (wCalm (fmapW y29.2 (fun (x28:Int)=>(ret true)) (fun (x28:Int)=>(bnd (bnd (ret x28) fun p33=>(bnd (ret ()) fun p34=>(ret (p33,p34)))) fun p30=>(w_cells_in_sequences K cl p30))) y29.1)))) fun v35=>(ret ((fun xs=>PyData.list (xs.map (fun xs=>PyData.tuple (xs.map PyData.int)))) v35))) fun p39=>(bnd (ret ()) fun p40=>(ret (p39,p40)))) fun p36=>(wMk cl.Table (w_Table____init__ K cl) p36)) (wFrz cl.Table (fs_Table K cl))) fun v41=>(ret (Flow.rt v41))))))) none
abbrev sp_table_of (K:PySem.W.Frag) (cl:Cl):Sp:=lift K (fun x:PyData×(List (Nat×Nat))×Unit=> [kPy x.1,(kQ (k_Flip K cl)) x.2.1]) (k_Table K cl) (w_table_of K cl)
theorem ok_table_of (T:Tx K mg cl):FnG P w K mg base 7 T.a_table_of T.fd_table_of ["size","flips"] (sp_table_of K cl):=
  okL T.F_table_of sc_table_of (fun _=>rfl) none (fun y e=>nomatch e) (fun cdv A outer s H E hg hr=>by
    refine⟨_,pss_cons (ps_setLc (i:=2) (own:= [("cell",3)]) (g:=gName 3) (tt:=tYes)  rfl sc_table_of.nd rfl rfl (sw_true rfl rfl rfl (by decide +kernel)) (pi_range1 rfl T.z_range (pa_cons (pe_mS0 ((ok_Board__size T).atS hg (hr.mono (by decide)) (b_Board__size T) .nil (takes_of rfl rfl rfl rfl)) T.cls_Board T.m_Board__size (pe_fnS ((ok_Board____init__ T).make T.mk_Board hg (hr.mono (by decide)) (b_Board____init__ T).choose_spec.2 (b_Board____init__ T).choose_spec.1 (takes_of rfl rfl rfl rfl)) rfl T.gc_Board T.mk_Board.kp (pa_cons (pv 0) pa_nil))) pa_nil)) (blkOk_by (own:= [("cell",3)]) (N:=N_table_of) (sc:=defScope st_table_of) (by decide +kernel)) (fun _ _ _ _ _=>pg_name (i:=3) sc_table_of.nd rfl (by first | exact Or.inl rfl | exact Or.inr rfl)) (fun _ _ _ _ _=>pts_nil) (fun _ _ _ _ _=>pe_op op_shl (pe_int) (pv 3)))
    (pss_cons (ps_for (passes_of rfl) rfl (pi_seq (K:=K) rfl (pv 1)) (pg_name (i:=4) sc_table_of.nd rfl (by first | exact Or.inl rfl | exact Or.inr rfl))
      (pss_cons (ps_if (pt_cmpR op_gt (pe_mS0 ((ok_Flip__width T).atS hg (hr.mono (by decide)) (b_Flip__width T) .nil (takes_of rfl rfl rfl rfl)) T.cls_Flip T.m_Flip__width (pv 4)) (pv 0) (nomark _)) (pss_one (ps_err (k:=0) rfl T.e_TooWide er_rel1 (hr.mono (by decide)) (takes_of rfl rfl rfl rfl) (pa_cons (pe_mS0 ((ok_Flip__width T).atS hg (hr.mono (by decide)) (b_Flip__width T) .nil (takes_of rfl rfl rfl rfl)) T.cls_Flip T.m_Flip__width (pv 4)) pa_nil) rfl)) pss_nil)
    (pss_cons (ps_set (i:=5) sc_table_of.nd rfl (by first | exact Or.inl rfl | exact Or.inr rfl) (pe_int))
    (pss_cons (ps_for (passes_of rfl) rfl (pi_tupK rfl (pe_mS0 ((ok_Flip__tested T).atS hg (hr.mono (by decide)) (b_Flip__tested T) .nil (takes_of rfl rfl rfl rfl)) T.cls_Flip T.m_Flip__tested (pv 4))) (pg_name (i:=3) sc_table_of.nd rfl (by first | exact Or.inl rfl | exact Or.inr rfl))
      (pss_one (ps_aug (i:=5) sc_table_of.nd rfl (by first | exact Or.inl rfl | exact Or.inr rfl) (pe_ix (kx_ix (K:=K) rfl) (pv 2) (pv 3) (fun _ _=>rfl)) ip_xor)))
    (pss_one (ps_for (passes_of rfl) rfl (pi_tupK rfl (pe_mS0 ((ok_Flip__toggled T).atS hg (hr.mono (by decide)) (b_Flip__toggled T) .nil (takes_of rfl rfl rfl rfl)) T.cls_Flip T.m_Flip__toggled (pv 4))) (pg_name (i:=3) sc_table_of.nd rfl (by first | exact Or.inl rfl | exact Or.inr rfl))
      (pss_one (ps_augS (pv 2) (pv 3) (pg_ix (K:=K) rfl) (pv 5) ip_xor set_list))))))))
    (pss_one (ps_ret (pe_fnS ((ok_Table____init__ T).make T.mk_Table hg (hr.mono (by decide)) (b_Table____init__ T) .nil (takes_of rfl rfl rfl rfl)) rfl T.gc_Table T.mk_Table.kp (pa_cons (pe_lc (own:= [("mask",6)]) (g:=gName 6) (tt:=tYes)  rfl sc_table_of.nd (pi_listK rfl (pv 2)) (blkOk_by (own:= [("mask",6)]) (N:=N_table_of) (sc:=defScope st_table_of) (by decide +kernel)) (fun _ _ _ _ _=>pg_name (i:=6) sc_table_of.nd rfl (by first | exact Or.inl rfl | exact Or.inr rfl)) (fun _ _ _ _ _=>pts_nil) (fun _ _ _ _ _=>pe_fnS ((ok_cells_in_sequences T).atS hg (hr.mono (by decide)) (b_cells_in_sequences T) .nil takes0) rfl T.g_cells_in_sequences T.F_cells_in_sequences.kp (pa_cons (pv 6) pa_nil))) pa_nil))))),?_⟩
    exact⟨_,fun x=>(simS_seq (simS_asg simG_name le_none (sim_thaw (simN_lc (simI_r1 (simA_cons (sim_ms (cal_lift (w:=w_Board__size K cl)) (rc_Board_size (cl:=cl)) (sim_frz (fs:=fs_Board K cl) (r:=(k_Board K cl)) (fun _=>rfl) (sim_call (cal_mkD (δ':=fun x:PyData×PyData×Unit=> [kPy x.1,kPy x.2.1]) (w:=w_Board____init__ K cl) (fun x:PyData×Unit=>(x.1,(PyData.tuple []),())) [kPy (PyData.tuple [])] (fun _=>rfl) (fun _ _=>⟨_,_,rfl,(mk_dfltP T.dt_Board____init___up),rfl⟩)) (simA_cons (sim_var (i:=0) (r:=kPy) (x:=x.1) rfl) simA_nil))) simA_nil) simA_nil)) simG_name (fun _ _ hy=>hy) (fun (x12:Int)=>simB_yes) (fun (x12:Int)=>(sim_op os_I sim_i (sim_var (i:=3) (r:=kI) (x:=x12) rfl))))) (fun (masks_17:Addr)=>(show SimS _ _ ([some (kPy x.1),some ((kQ (k_Flip K cl)) x.2.1),some (kRef masks_17),none,none,none,none]:Gm K) _ _ _ _ from (simS_seq (simS_for (Gl:=(fun s18:Unit=>([some (kPy x.1),some ((kQ (k_Flip K cl)) x.2.1),some (kRef masks_17),none,none,none,none]:Gm K))) (s0:=()) le_none (simI_seq (i:=1) (r:=(k_Flip K cl)) (x:=x.2.1) rfl) simG_name (.so (.so (.so (.no (.no (.no (.no .nil))))))) (fun (x43:(Nat×Nat)) (s18:Unit)=>(show SimS _ _ ([some (kPy x.1),some ((kQ (k_Flip K cl)) x.2.1),some (kRef masks_17),none,some ((k_Flip K cl) x43),none,none]:Gm K) _ _ _ _ from (simS_seq (simS_if le_none (simB_test (sim_op os_B0 (sim_ms (cal_lift (w:=w_Flip__width K cl)) (rc_Flip_width (cl:=cl)) (sim_var (i:=4) (r:=(k_Flip K cl)) (x:=x43) rfl) simA_nil) (sim_as oc_I (sim_var (i:=0) (r:=kPy) (x:=x.1) rfl)))) (simS_raise le_none (simA_cons (sim_ms (cal_lift (w:=w_Flip__width K cl)) (rc_Flip_width (cl:=cl)) (sim_var (i:=4) (r:=(k_Flip K cl)) (x:=x43) rfl) simA_nil) simA_nil) (fun (y:Int×Unit)=> [("needed",kI y.1)]) (by rintro y Z H vs ⟨v,_,rfl,h,rfl⟩;exact⟨v,[],rfl,rfl,v,[],rfl,h,rfl⟩)) (simS_next (simS_seq (simS_asg simG_name le_none sim_i (fun (tested_56:Int)=>(show SimS _ _ ([some (kPy x.1),some ((kQ (k_Flip K cl)) x.2.1),some (kRef masks_17),none,some ((k_Flip K cl) x43),some (kI tested_56),none]:Gm K) _ _ _ _ from (simS_seq (simS_for (Gl:=(fun s57:Int×Unit=>([some (kPy x.1),some ((kQ (k_Flip K cl)) x.2.1),some (kRef masks_17),none,some ((k_Flip K cl) x43),some (kI s57.1),none]:Gm K))) (s0:=(tested_56,())) le_none (simI_tup (r:=kI) (sim_ms (cal_lift (w:=w_Flip__tested K cl)) (rc_Flip_tested (cl:=cl)) (sim_var (i:=4) (r:=(k_Flip K cl)) (x:=x43) rfl) simA_nil)) simG_name (.so (.so (.so (.no (.so (.so (.no .nil))))))) (fun (x73:Int) (s57:Int×Unit)=>(show SimS _ _ ([some (kPy x.1),some ((kQ (k_Flip K cl)) x.2.1),some (kRef masks_17),some (kI x73),some ((k_Flip K cl) x43),some (kI s57.1),none]:Gm K) _ _ _ _ from (simS_augI (x:=s57.1) le_none rfl (sim_op (os_ixC (r:=kI)) (sim_var (i:=2) (r:=kRef) (x:=masks_17) rfl) (sim_var (i:=3) (r:=kI) (x:=x73) rfl)) (fun (tested_79:Int)=>(show SimS _ _ ([some (kPy x.1),some ((kQ (k_Flip K cl)) x.2.1),some (kRef masks_17),some (kI x73),some ((k_Flip K cl) x43),some (kI tested_79),none]:Gm K) _ _ _ _ from (simS_end (s:=((tested_79,()):Int×Unit)) (.so (.so (.so (.no (.so (.so (.no .nil))))))))))))) (fun (s57:Int×Unit)=>(show SimS _ _ ([some (kPy x.1),some ((kQ (k_Flip K cl)) x.2.1),some (kRef masks_17),none,some ((k_Flip K cl) x43),some (kI s57.1),none]:Gm K) _ _ _ _ from (simS_for (Gl:=(fun s58:Unit=>([some (kPy x.1),some ((kQ (k_Flip K cl)) x.2.1),some (kRef masks_17),none,some ((k_Flip K cl) x43),some (kI s57.1),none]:Gm K))) (s0:=()) le_none (simI_tup (r:=kI) (sim_ms (cal_lift (w:=w_Flip__toggled K cl)) (rc_Flip_toggled (cl:=cl)) (sim_var (i:=4) (r:=(k_Flip K cl)) (x:=x43) rfl) simA_nil)) simG_name (.so (.so (.so (.no (.so (.so (.no .nil))))))) (fun (x63:Int) (s58:Unit)=>(show SimS _ _ ([some (kPy x.1),some ((kQ (k_Flip K cl)) x.2.1),some (kRef masks_17),some (kI x63),some ((k_Flip K cl) x43),some (kI s57.1),none]:Gm K) _ _ _ _ from (simS_augS (f:=fun z y=>Builtin.bitXor z y) le_none (sim_var (i:=2) (r:=kRef) (x:=masks_17) rfl) (sim_var (i:=3) (r:=kI) (x:=x63) rfl) (sim_var (i:=5) (r:=kI) (x:=s57.1) rfl) (simS_end (s:=(():Unit)) (.so (.so (.so (.no (.so (.so (.no .nil))))))))))) (fun (s58:Unit)=>(show SimS _ _ ([some (kPy x.1),some ((kQ (k_Flip K cl)) x.2.1),some (kRef masks_17),none,some ((k_Flip K cl) x43),some (kI s57.1),none]:Gm K) _ _ _ _ from (simS_end (s:=(():Unit)) (.so (.so (.so (.no (.no (.no (.no .nil)))))))))))))))))))))))) (fun (s18:Unit)=>(show SimS _ _ ([some (kPy x.1),some ((kQ (k_Flip K cl)) x.2.1),some (kRef masks_17),none,none,none,none]:Gm K) _ _ _ _ from (simS_ret le_none (sim_frz (fs:=fs_Table K cl) (r:=(k_Table K cl)) (fun _=>rfl) (sim_call (cal_mk (w:=w_Table____init__ K cl)) (simA_cons (sim_co (sim_lc (simI_cell (r:=kI) (sim_var (i:=2) (r:=kRef) (x:=masks_17) rfl)) simG_name (fun _ _ hy=>hy) (fun (x28:Int)=>simB_yes) (fun (x28:Int)=>(sim_call (cal_lift (w:=w_cells_in_sequences K cl)) (simA_cons (sim_var (i:=6) (r:=kI) (x:=x28) rfl) simA_nil)))) (co_LP (co_TP co_I))) simA_nil)))))))))))),fun _ _ _ _ h=>h⟩)
def w_is_odd (K:PySem.W.Frag) (cl:Cl):Int×Unit→W K Bool:=fun x=>outW (bnd (bnd (ret x.1) fun p15=>(bnd (bnd (ret false) fun p13=>(bnd (ret ()) fun p14=>(ret (p13,p14)))) fun p16=>(ret (p15,p16)))) fun (y1:Int×Bool×Unit)=>(bnd (whileW (fun (s2:Int×Bool×Unit)=>(bnd (ret s2.1) fun v4=>(bnd (ret (0:Int)) fun v5=>(ret (decide (v5<v4)))))) (fun (s2:Int×Bool×Unit)=>(bnd (bnd (ret s2.1) fun v8=>(bnd (bnd (ret s2.1) fun v6=>(bnd (ret (1:Int)) fun v7=>(ret (v6 - v7)))) fun v9=>(ret (Builtin.bitAnd v8 v9)))) fun (rest_10:Int)=>(bnd (bnd (ret s2.2.1) fun v11=>(ret (!v11))) fun (found_12:Bool)=>(ret (Flow.nx (rest_10,found_12,())))))) (y1.1,y1.2.1,())) (aft fun (s2:Int×Bool×Unit)=>(bnd (ret s2.2.1) fun v3=>(ret (Flow.rt v3)))))) none
abbrev sp_is_odd (K:PySem.W.Frag) (cl:Cl):Sp:=lift K (fun x:Int×Unit=> [kI x.1]) kB (w_is_odd K cl)
theorem ok_is_odd (T:Tx K mg cl):FnG P w K mg base 1 T.a_is_odd T.fd_is_odd ["mask"] (sp_is_odd K cl):=
  okL T.F_is_odd sc_is_odd (fun _=>rfl) none (fun y e=>nomatch e) (fun cdv A outer s H E hg hr=>by
    refine⟨_,pss_cons (ps_par (i:=1) (j:=2) (by rfl) sc_is_odd.nd rfl rfl (by decide) rfl rfl (pa_cons (pv 0) (pa_cons (pe_bl) pa_nil)) (by rfl))
    (pss_cons (ps_while (passes_of rfl) (pt_cmpR op_gt (pv 1) (pe_int) (nomark _))
      (pss_cons (ps_set (i:=1) sc_is_odd.nd rfl (by first | exact Or.inl rfl | exact Or.inr rfl) (pe_op op_and (pv 1) (pe_op op_sub (pv 1) (pe_int))))
    (pss_one (ps_set (i:=2) sc_is_odd.nd rfl (by first | exact Or.inl rfl | exact Or.inr rfl) (pe_not (pv 2))))))
    (pss_one (ps_ret (pv 2)))),?_⟩
    exact⟨_,fun x=>(simS_seq (simS_par (r:=kI) (s:=kB) le_none (simA_cons (sim_var (i:=0) (r:=kI) (x:=x.1) rfl) (simA_cons sim_b simA_nil)) (fun (y1:Int×Bool×Unit)=>(show SimS _ _ ([some (kI x.1),some (kI y1.1),some (kB y1.2.1)]:Gm K) _ _ _ _ from (simS_seq (simS_while (Gl:=(fun s2:Int×Bool×Unit=>([some (kI x.1),some (kI s2.1),some (kB s2.2.1)]:Gm K))) (s0:=(y1.1,y1.2.1,())) (fun _=>le_none) (.so (.so (.so .nil))) (fun (s2:Int×Bool×Unit)=>(simB_test (sim_op os_B0 (sim_var (i:=1) (r:=kI) (x:=s2.1) rfl) sim_i))) (fun (s2:Int×Bool×Unit)=>(show SimS _ _ ([some (kI x.1),some (kI s2.1),some (kB s2.2.1)]:Gm K) _ _ _ _ from (simS_seq (simS_asg simG_name le_none (sim_op os_I0 (sim_var (i:=1) (r:=kI) (x:=s2.1) rfl) (sim_op os_I0 (sim_var (i:=1) (r:=kI) (x:=s2.1) rfl) sim_i)) (fun (rest_10:Int)=>(show SimS _ _ ([some (kI x.1),some (kI rest_10),some (kB s2.2.1)]:Gm K) _ _ _ _ from (simS_asg simG_name le_none (sim_notV (sim_var (i:=2) (r:=kB) (x:=s2.2.1) rfl)) (fun (found_12:Bool)=>(show SimS _ _ ([some (kI x.1),some (kI rest_10),some (kB found_12)]:Gm K) _ _ _ _ from (simS_end (s:=((rest_10,found_12,()):Int×Bool×Unit)) (.so (.so (.so .nil))))))))))))) (fun (s2:Int×Bool×Unit)=>(show SimS _ _ ([some (kI x.1),some (kI s2.1),some (kB s2.2.1)]:Gm K) _ _ _ _ from (simS_ret le_none (sim_var (i:=2) (r:=kB) (x:=s2.2.1) rfl)))))))))),fun _ _ _ _ h=>h⟩)
def w_Flip____init__ (K:PySem.W.Frag) (cl:Cl):Addr×PyData×PyData×Unit→W K Unit:=fun x=>outW (bnd (bnd (bnd (ret x.2.1) fun p6=>(bnd (bnd (ret (40:Int)) fun p4=>(bnd (ret ()) fun p5=>(ret (p4,p5)))) fun p7=>(ret (p6,p7)))) fun p1=>(w_cell_mask K cl p1)) fun v34=>(bnd (ret x.1) fun v35=>(wSetF cl.Flip "test_mask" v35 (kI v34) (bnd (bnd (bnd (ret x.2.2.1) fun p13=>(bnd (bnd (ret (40:Int)) fun p11=>(bnd (ret ()) fun p12=>(ret (p11,p12)))) fun p14=>(ret (p13,p14)))) fun p8=>(w_cell_mask K cl p8)) fun v32=>(bnd (ret x.1) fun v33=>(wSetF cl.Flip "toggle_mask" v33 (kI v32) (bnd (bnd (bnd (bnd (ret x.1) (wGetF cl.Flip "toggle_mask" kI)) fun v15=>(bnd (ret (1:Int)) fun v16=>(ret (Builtin.bitAnd v15 v16)))) fun v17=>(bnd (ret (1:Int)) fun v18=>(ret (decide (v17=v18))))) fun v31=>(wIf v31 (bnd (bnd (ret ("fixed" :Str)) fun p19=>(bnd (ret ()) fun p20=>(ret (p19,p20)))) fun (y:Str×Unit)=>(wRaise (cl.NoFlip,[("why",kS y.1)]))) (bnd (bnd (bnd (bnd (bnd (ret x.1) (wGetF cl.Flip "test_mask" kI)) fun v21=>(bnd (bnd (ret x.1) (wGetF cl.Flip "toggle_mask" kI)) fun v22=>(ret (Builtin.bitAnd v21 v22)))) fun p26=>(bnd (ret ()) fun p27=>(ret (p26,p27)))) fun p23=>(w_is_odd K cl p23)) fun v30=>(wIf v30 (bnd (bnd (ret ("odd" :Str)) fun p28=>(bnd (ret ()) fun p29=>(ret (p28,p29)))) fun (y:Str×Unit)=>(wRaise (cl.NoFlip,[("why",kS y.1)]))) (ret (Flow.nx ())))))))))))) (some ())
abbrev sp_Flip____init__ (K:PySem.W.Frag) (cl:Cl):Sp:=lift K (fun x:Addr×PyData×PyData×Unit=> [kRef x.1,kPy x.2.1,kPy x.2.2.1]) kN (w_Flip____init__ K cl)
theorem ok_Flip____init__ (T:Tx K mg cl):FnG P w K mg base 5 T.a_Flip____init__ T.fd_Flip____init__ ["self","tested","toggled"] (sp_Flip____init__ K cl):=
  okL T.F_Flip____init__ sc_Flip____init__ (fun _=>rfl) (some ()) (fun y e=>by cases e;rfl) (fun cdv A outer s H E hg hr=>by
    refine⟨_,pss_cons (ps_fldK (K:=K) rfl (pv 0) (pe_fnS ((ok_cell_mask T).atS hg (hr.mono (by decide)) (b_cell_mask T) .nil (takes_of rfl rfl rfl rfl)) rfl T.g_cell_mask T.F_cell_mask.kp (pa_cons (pv 1) (pa_cons (pe_glob (v:=(.int 40)) rfl T.c_MOST_CELLS ⟨_,rfl⟩) pa_nil))))
    (pss_cons (ps_fldK (K:=K) rfl (pv 0) (pe_fnS ((ok_cell_mask T).atS hg (hr.mono (by decide)) (b_cell_mask T) .nil (takes_of rfl rfl rfl rfl)) rfl T.g_cell_mask T.F_cell_mask.kp (pa_cons (pv 2) (pa_cons (pe_glob (v:=(.int 40)) rfl T.c_MOST_CELLS ⟨_,rfl⟩) pa_nil))))
    (pss_cons (ps_if (pt_cmpR (kx_eq (K:=K) rfl hr) (pe_op op_and (pe_fldK (K:=K) rfl (pv 0)) (pe_int)) (pe_int) (nomark _)) (pss_one (ps_err (k:=0) rfl T.e_NoFlip er_rel1 (hr.mono (by decide)) (takes_of rfl rfl rfl rfl) (pa_cons (pe_str) pa_nil) rfl)) pss_nil)
    (pss_one (ps_if (pt_val (pe_fnS ((ok_is_odd T).atS hg (hr.mono (by decide)) (b_is_odd T) .nil (takes_of rfl rfl rfl rfl)) rfl T.g_is_odd T.F_is_odd.kp (pa_cons (pe_op op_and (pe_fldK (K:=K) rfl (pv 0)) (pe_fldK (K:=K) rfl (pv 0))) pa_nil))) (pss_one (ps_err (k:=0) rfl T.e_NoFlip er_rel1 (hr.mono (by decide)) (takes_of rfl rfl rfl rfl) (pa_cons (pe_str) pa_nil) rfl)) pss_nil)))),?_⟩
    exact⟨_,fun x=>(simS_seq (simS_fld (r:=kI) T.cls_Flip T.no_Flip_test_mask le_none (sim_call (cal_lift (w:=w_cell_mask K cl)) (simA_cons (sim_var (i:=1) (r:=kPy) (x:=x.2.1) rfl) (simA_cons sim_i simA_nil))) (sim_var (i:=0) (r:=kRef) (x:=x.1) rfl) (simS_seq (simS_fld (r:=kI) T.cls_Flip T.no_Flip_toggle_mask le_none (sim_call (cal_lift (w:=w_cell_mask K cl)) (simA_cons (sim_var (i:=2) (r:=kPy) (x:=x.2.2.1) rfl) (simA_cons sim_i simA_nil))) (sim_var (i:=0) (r:=kRef) (x:=x.1) rfl) (simS_seq (simS_if le_none (simB_test (sim_op os_eqI (sim_op os_I0 (sim_fldC (s:=kI) T.cls_Flip T.no_Flip_toggle_mask (sim_var (i:=0) (r:=kRef) (x:=x.1) rfl)) sim_i) sim_i)) (simS_raise le_none (simA_cons sim_s simA_nil) (fun (y:Str×Unit)=> [("why",kS y.1)]) (by rintro y Z H vs ⟨v,_,rfl,h,rfl⟩;exact⟨v,[],rfl,rfl,v,[],rfl,h,rfl⟩)) (simS_next (simS_if le_none (simB_B (sim_call (cal_lift (w:=w_is_odd K cl)) (simA_cons (sim_op os_I0 (sim_fldC (s:=kI) T.cls_Flip T.no_Flip_test_mask (sim_var (i:=0) (r:=kRef) (x:=x.1) rfl)) (sim_fldC (s:=kI) T.cls_Flip T.no_Flip_toggle_mask (sim_var (i:=0) (r:=kRef) (x:=x.1) rfl))) simA_nil))) (simS_raise le_none (simA_cons sim_s simA_nil) (fun (y:Str×Unit)=> [("why",kS y.1)]) (by rintro y Z H vs ⟨v,_,rfl,h,rfl⟩;exact⟨v,[],rfl,rfl,v,[],rfl,h,rfl⟩)) (simS_next (simS_end (.no (.no (.no .nil))))))))))))),fun _ _ _ _ h=>h⟩)
def w__law_flip_of (K:PySem.W.Frag) (cl:Cl):((List Int)×(List Int))×Unit→W K (Nat×Nat):=fun x=>outW (bnd (bnd (bnd (bnd (bnd (bnd (bnd (bnd (ret x.1) fun v1=>(ret v1.1)) fun p3=>(bnd (ret ()) fun p4=>(ret (p3,p4)))) fun y2=>(ret y2.1)) fun v5=>(ret ((fun xs=>PyData.list (xs.map PyData.int)) v5))) fun p16=>(bnd (bnd (bnd (bnd (bnd (bnd (ret x.1) fun v6=>(ret v6.2)) fun p8=>(bnd (ret ()) fun p9=>(ret (p8,p9)))) fun y7=>(ret y7.1)) fun v10=>(ret ((fun xs=>PyData.list (xs.map PyData.int)) v10))) fun p14=>(bnd (ret ()) fun p15=>(ret (p14,p15)))) fun p17=>(ret (p16,p17)))) fun p11=>(wMk cl.Flip (w_Flip____init__ K cl) p11)) (wFrz cl.Flip (fs_Flip K cl))) fun v18=>(ret (Flow.rt v18))) none
abbrev sp__law_flip_of (K:PySem.W.Frag) (cl:Cl):Sp:=lift K (fun x:((List Int)×(List Int))×Unit=> [(kP (kL kI) (kL kI)) x.1]) (k_Flip K cl) (w__law_flip_of K cl)
theorem ok__law_flip_of (T:Tx K mg cl):FnG P w K mg base 7 T.a__law_flip_of T.fd__law_flip_of ["_law_pair_here"] (sp__law_flip_of K cl):=
  okL T.F__law_flip_of sc__law_flip_of (fun _=>rfl) none (fun y e=>nomatch e) (fun cdv A outer s H E hg hr=>by
    refine⟨_,pss_one (ps_ret (pe_fnS ((ok_Flip____init__ T).make T.mk_Flip hg (hr.mono (by decide)) (b_Flip____init__ T) .nil (takes_of rfl rfl rfl rfl)) rfl T.gc_Flip T.mk_Flip.kp (pa_cons (pe_callTy (kx_list (K:=K) rfl) (by rfl) T.z_list bt_list (pa_cons (pe_ix (kx_ix (K:=K) rfl) (pv 0) (pe_int) (fun _ _=>rfl)) pa_nil)) (pa_cons (pe_callTy (kx_list (K:=K) rfl) (by rfl) T.z_list bt_list (pa_cons (pe_ix (kx_ix (K:=K) rfl) (pv 0) (pe_int) (fun _ _=>rfl)) pa_nil)) pa_nil)))),?_⟩
    exact⟨_,fun x=>(simS_ret le_none (sim_frz (fs:=fs_Flip K cl) (r:=(k_Flip K cl)) (fun _=>rfl) (sim_call (cal_mk (w:=w_Flip____init__ K cl)) (simA_cons (sim_co (sim_callB cb_listL (simA_cons (sim_p1 (sim_var (i:=0) (r:=(kP (kL kI) (kL kI))) (x:=x.1) rfl)) simA_nil)) (co_LP co_I)) (simA_cons (sim_co (sim_callB cb_listL (simA_cons (sim_p2 (sim_var (i:=0) (r:=(kP (kL kI) (kL kI))) (x:=x.1) rfl)) simA_nil)) (co_LP co_I)) simA_nil))))),fun _ _ _ _ h=>h⟩)
def w_identity_table (K:PySem.W.Frag) (cl:Cl):PyData×Unit→W K (List Nat):=fun x=>outW (bnd (bnd (bnd (bnd (bnd (bnd (bnd (bnd (bnd (bnd (bnd (bnd (ret x.1) fun p21=>(bnd (ret ()) fun p22=>(ret (p21,p22)))) fun p18=>(wMk cl.Board (w_Board____init__ K cl) ((fun x:PyData×Unit=>(x.1,(PyData.tuple []),())) p18))) (wFrz cl.Board (fs_Board K cl))) fun p25=>(wRcv (fun _=>True) (bnd (ret ()) fun p23=>(w_Board__size K cl (p25,p23))))) fun p26=>(bnd (ret ()) fun p27=>(ret (p26,p27)))) fun y17=>(wAss (-(2 ^ 62)≤y17.1∧y17.1<2 ^ 62) (ret (rng 0 y17.1,nI)))) fun y29=>(wAss (y29.1.length≤50000) (wCalm (fmapW y29.2 (fun (x28:Int)=>(ret true)) (fun (x28:Int)=>(bnd (bnd (ret x28) fun p31=>(bnd (ret ()) fun p32=>(ret (p31,p32)))) fun y30=>(ret ([y30.1]:List Int)))) y29.1)))) fun v33=>(ret ((fun xs=>PyData.list (xs.map (fun xs=>PyData.list (xs.map PyData.int)))) v33))) fun p37=>(bnd (ret ()) fun p38=>(ret (p37,p38)))) fun p34=>(wMk cl.Table (w_Table____init__ K cl) p34)) (wFrz cl.Table (fs_Table K cl))) fun v39=>(ret (Flow.rt v39))) none
abbrev sp_identity_table (K:PySem.W.Frag) (cl:Cl):Sp:=lift K (fun x:PyData×Unit=> [kPy x.1]) (k_Table K cl) (w_identity_table K cl)
theorem ok_identity_table (T:Tx K mg cl):FnG P w K mg base 7 T.a_identity_table T.fd_identity_table ["size"] (sp_identity_table K cl):=
  okL T.F_identity_table sc_identity_table (fun _=>rfl) none (fun y e=>nomatch e) (fun cdv A outer s H E hg hr=>by
    refine⟨_,pss_one (ps_ret (pe_fnS ((ok_Table____init__ T).make T.mk_Table hg (hr.mono (by decide)) (b_Table____init__ T) .nil (takes_of rfl rfl rfl rfl)) rfl T.gc_Table T.mk_Table.kp (pa_cons (pe_lc (own:= [("cell",1)]) (g:=gName 1) (tt:=tYes)  rfl sc_identity_table.nd (pi_range1 rfl T.z_range (pa_cons (pe_mS0 ((ok_Board__size T).atS hg (hr.mono (by decide)) (b_Board__size T) .nil (takes_of rfl rfl rfl rfl)) T.cls_Board T.m_Board__size (pe_fnS ((ok_Board____init__ T).make T.mk_Board hg (hr.mono (by decide)) (b_Board____init__ T).choose_spec.2 (b_Board____init__ T).choose_spec.1 (takes_of rfl rfl rfl rfl)) rfl T.gc_Board T.mk_Board.kp (pa_cons (pv 0) pa_nil))) pa_nil)) (blkOk_by (own:= [("cell",1)]) (N:=N_identity_table) (sc:=defScope st_identity_table) (by decide +kernel)) (fun _ _ _ _ _=>pg_name (i:=1) sc_identity_table.nd rfl (by first | exact Or.inl rfl | exact Or.inr rfl)) (fun _ _ _ _ _=>pts_nil) (fun _ _ _ _ _=>pe_lst (pa_cons (pv 1) pa_nil))) pa_nil))),?_⟩
    exact⟨_,fun x=>(simS_ret le_none (sim_frz (fs:=fs_Table K cl) (r:=(k_Table K cl)) (fun _=>rfl) (sim_call (cal_mk (w:=w_Table____init__ K cl)) (simA_cons (sim_co (sim_lc (simI_r1 (simA_cons (sim_ms (cal_lift (w:=w_Board__size K cl)) (rc_Board_size (cl:=cl)) (sim_frz (fs:=fs_Board K cl) (r:=(k_Board K cl)) (fun _=>rfl) (sim_call (cal_mkD (δ':=fun x:PyData×PyData×Unit=> [kPy x.1,kPy x.2.1]) (w:=w_Board____init__ K cl) (fun x:PyData×Unit=>(x.1,(PyData.tuple []),())) [kPy (PyData.tuple [])] (fun _=>rfl) (fun _ _=>⟨_,_,rfl,(mk_dfltP T.dt_Board____init___up),rfl⟩)) (simA_cons (sim_var (i:=0) (r:=kPy) (x:=x.1) rfl) simA_nil))) simA_nil) simA_nil)) simG_name (fun _ _ hy=>hy) (fun (x28:Int)=>simB_yes) (fun (x28:Int)=>(sim_lstK (r:=kI) (fun y30:Int×Unit=>([y30.1]:List Int)) (fun _=>rfl) (fun _=>(by decide:1≤50000)) (simA_cons (sim_var (i:=1) (r:=kI) (x:=x28) rfl) simA_nil)))) (co_LP (co_LP co_I))) simA_nil)))),fun _ _ _ _ h=>h⟩)
def w_cell_tuple__2 (K:PySem.W.Frag) (cl:Cl):(Addr ⊕ List Int)×Int×Unit→W K (List Int):=fun x=>outW (bnd (bnd (bnd (bnd (bnd (ret x.1) fun p9=>(bnd (bnd (bnd (bnd (ret "list") fun p4=>(bnd (bnd (ret "tuple") fun p2=>(bnd (ret ()) fun p3=>(ret (p2,p3)))) fun p5=>(ret (p4,p5)))) fun y1=>(ret (y1.1,y1.2.1))) fun p7=>(bnd (ret ()) fun p8=>(ret (p7,p8)))) fun p10=>(ret (p9,p10)))) fun y6=>(wAss (y6.2.1=("list","tuple")) (wR kI y6.1 fun _ _=>ret true))) fun v11=>(ret (!v11))) fun v27=>(wIf v27 (ret true) (bnd (bnd (bnd (bnd (wR kI x.1 fun xs I=>ret (xs,I)) fun y14=>(wAss (y14.1.length≤50000) (wCalm (fmapW y14.2 (fun (x13:Int)=>(ret true)) (fun (x13:Int)=>(bnd (bnd (bnd (ret x13) fun v15=>(ret (PyData.int v15))) fun p19=>(bnd (ret ()) fun p20=>(ret (p19,p20)))) fun p16=>(bnd (bnd (ret x.2.1) fun p21=>(bnd (ret ()) fun p22=>(ret (p21,p22)))) fun p17=>(w_is_cell K cl ((fun (x:PyData×Unit) (y:Int×Unit)=>(x.1,y.1,())) p16 p17))))) y14.1)))) fun p24=>(bnd (ret ()) fun p25=>(ret (p24,p25)))) fun y23=>(ret (y23.1.all id))) fun v26=>(ret (!v26))))) fun v58=>(wIf v58 (bnd (bnd (ret x.1) fun p28=>(bnd (ret ()) fun p29=>(ret (p28,p29)))) fun (y:(Addr ⊕ List Int)×Unit)=>(wRaise (cl.NoCells,[("cells",(kR kI) y.1)]))) (bnd (bnd (bnd (ret x.1) fun p31=>(bnd (ret ()) fun p32=>(ret (p31,p32)))) fun y30=>(wR kI y30.1 fun xs _=>ret (isort xs))) fun (found_33:List Int)=>(bnd (bnd (bnd (bnd (bnd (bnd (bnd (ret found_33) fun p41=>(bnd (bnd (bnd (ret found_33) fun v35=>(bnd (bnd (ret (1:Int)) fun v36=>(ret (some v36))) fun v37=>(bnd (ret none) fun v38=>(ret (sli v35 v37 v38))))) fun p39=>(bnd (ret ()) fun p40=>(ret (p39,p40)))) fun p42=>(ret (p41,p42)))) fun y34=>(ret (y34.1.zip y34.2.1,nI))) fun y44=>(wAss (y44.1.length≤50000) (wCalm (fmapW y44.2 (fun (x43:(Int×Int))=>(ret true)) (fun (x43:(Int×Int))=>(bnd (ret x43.1) fun v45=>(bnd (ret x43.2) fun v46=>(ret (decide (v45<v46)))))) y44.1)))) fun p48=>(bnd (ret ()) fun p49=>(ret (p48,p49)))) fun y47=>(ret (y47.1.all id))) fun v50=>(ret (!v50))) fun v57=>(wIf v57 (bnd (bnd (ret x.1) fun p51=>(bnd (ret ()) fun p52=>(ret (p51,p52)))) fun (y:(Addr ⊕ List Int)×Unit)=>(wRaise (cl.NoCells,[("cells",(kR kI) y.1)]))) (bnd (bnd (bnd (ret found_33) fun p54=>(bnd (ret ()) fun p55=>(ret (p54,p55)))) fun y53=>(ret y53.1)) fun v56=>(ret (Flow.rt v56)))))))) none
abbrev sp_cell_tuple__2 (K:PySem.W.Frag) (cl:Cl):Sp:=lift K (fun x:(Addr ⊕ List Int)×Int×Unit=> [(kR kI) x.1,kI x.2.1]) (kT kI) (w_cell_tuple__2 K cl)
theorem ok_cell_tuple__2 (T:Tx K mg cl):FnG P w K mg base 3 T.a_cell_tuple__2 T.fd_cell_tuple__2 ["things","size"] (sp_cell_tuple__2 K cl):=
  okL T.F_cell_tuple__2 sc_cell_tuple__2 (fun _=>rfl) none (fun y e=>nomatch e) (fun cdv A outer s H E hg hr=>by
    refine⟨_,pss_cons (ps_if (PW.pt (pw_or (pt_not (pt_val (pe_callB (kx_isiT (K:=K) rfl) (by rfl) T.z_isinstance bt_isinstance (pa_cons (pv 0) (pa_cons (pe_tup (pa_cons (pe_bltn (v:= .ty "list") (by rfl) T.z_list bt_list rfl) (pa_cons (pe_bltn (v:= .ty "tuple") (by rfl) T.z_tuple bt_tuple rfl) pa_nil))) pa_nil))))) (pw_or1 (pt_not (pt_val (pe_callB (kx_all (K:=K) rfl rfl) (by rfl) T.z_all bt_all (pa_cons (pe_lc (own:= [("one",2)]) (g:=gName 2) (tt:=tYes)  rfl sc_cell_tuple__2.nd (pi_seq (K:=K) rfl (pv 0)) (blkOk_by (own:= [("one",2)]) (N:=N_cell_tuple__2) (sc:=defScope st_cell_tuple__2) (by decide +kernel)) (fun _ _ _ _ _=>pg_name (i:=2) sc_cell_tuple__2.nd rfl (by first | exact Or.inl rfl | exact Or.inr rfl)) (fun _ _ _ _ _=>pts_nil) (fun _ _ _ _ _=>pe_fnKS ((ok_is_cell T).atKS hg (hr.mono (by decide)) (kb_is_cell__1_size T) takes0) rfl T.g_is_cell T.F_is_cell.kp (pa_cons (pv 2) pa_nil) (pk_cons (pv 1) pk_nil))) pa_nil))))))) (pss_one (ps_err (k:=0) rfl T.e_NoCells er_rel1 (hr.mono (by decide)) (takes_of rfl rfl rfl rfl) (pa_cons (pv 0) pa_nil) rfl)) pss_nil)
    (pss_cons (ps_set (i:=3) sc_cell_tuple__2.nd rfl (by first | exact Or.inl rfl | exact Or.inr rfl) (pe_callB (kx_sorted (K:=K) rfl) (by rfl) T.z_sorted bt_sorted (pa_cons (pv 0) pa_nil)))
    (pss_cons (ps_if (pt_not (pt_val (pe_callB (kx_all (K:=K) rfl rfl) (by rfl) T.z_all bt_all (pa_cons (pe_lc (own:= [("one",2),("other",4)]) (g:=gTup K 2 (gCons (gName 2) (gCons (gName 4) (gNil)))) (tt:=tYes)  rfl sc_cell_tuple__2.nd (pi_zipK (K:=K) rfl (by rfl) T.z_zip (pa_cons (pv 3) (pa_cons (pe_slice (kx_sl (K:=K) rfl) (pv 3) (po_some (pe_int)) po_none) pa_nil))) (blkOk_by (own:= [("one",2),("other",4)]) (N:=N_cell_tuple__2) (sc:=defScope st_cell_tuple__2) (by decide +kernel)) (fun _ _ _ _ _=>pg_tupK (K:=K) rfl rfl (pgs_cons (pg_name (i:=2) sc_cell_tuple__2.nd rfl (by first | exact Or.inl rfl | exact Or.inr rfl)) (pgs_cons (pg_name (i:=4) sc_cell_tuple__2.nd rfl (by first | exact Or.inl rfl | exact Or.inr rfl)) pgs_nil))) (fun _ _ _ _ _=>pts_nil) (fun _ _ _ _ _=>pe_cmpR op_lt (pv 2) (pv 4) (nomark _))) pa_nil)))) (pss_one (ps_err (k:=0) rfl T.e_NoCells er_rel1 (hr.mono (by decide)) (takes_of rfl rfl rfl rfl) (pa_cons (pv 0) pa_nil) rfl)) pss_nil)
    (pss_one (ps_ret (pe_callTy (kx_tuple (K:=K) rfl) (by rfl) T.z_tuple bt_tuple (pa_cons (pv 3) pa_nil)))))),?_⟩
    exact⟨_,fun x=>(simS_seq (simS_if le_none (simB_or (simB_not (simB_B (sim_callB (cb_isiT2R co_I) (simA_cons (sim_var (i:=0) (r:=(kR kI)) (x:=x.1) rfl) (simA_cons (sim_pair (simA_cons (sim_ty (T:= "list")) (simA_cons (sim_ty (T:= "tuple")) simA_nil))) simA_nil))))) (simB_not (simB_B (sim_callB cb_all (simA_cons (sim_lc (simI_R (i:=0) (r:=kI) (x:=x.1) rfl) simG_name (fun _ _ hy=>hy) (fun (x13:Int)=>simB_yes) (fun (x13:Int)=>(sim_callK (cal_liftK (δ':=fun x:PyData×Int×Unit=> [kPy x.1,kI x.2.1]) (w:=w_is_cell K cl) (fun (x:PyData×Unit) (y:Int×Unit)=>(x.1,y.1,())) (by rintro Z H x y vs zs ⟨_,_,rfl,a0,rfl⟩ ⟨_,_,rfl,a1,rfl⟩;exact⟨_,_,rfl,a0,_,_,rfl,a1,rfl⟩)) (simA_cons (sim_co (sim_var (i:=2) (r:=kI) (x:=x13) rfl) co_I) simA_nil) (simA_cons (sim_var (i:=1) (r:=kI) (x:=x.2.1) rfl) simA_nil)))) simA_nil))))) (simS_raise le_none (simA_cons (sim_var (i:=0) (r:=(kR kI)) (x:=x.1) rfl) simA_nil) (fun (y:(Addr ⊕ List Int)×Unit)=> [("cells",(kR kI) y.1)]) (by rintro y Z H vs ⟨v,_,rfl,h,rfl⟩;exact⟨v,[],rfl,rfl,v,[],rfl,h,rfl⟩)) (simS_next (simS_seq (simS_asg simG_name le_none (sim_callB cb_sortedR (simA_cons (sim_var (i:=0) (r:=(kR kI)) (x:=x.1) rfl) simA_nil)) (fun (found_33:List Int)=>(show SimS _ _ ([some ((kR kI) x.1),some (kI x.2.1),none,some ((kL kI) found_33),none]:Gm K) _ _ _ _ from (simS_seq (simS_if le_none (simB_not (simB_B (sim_callB cb_all (simA_cons (sim_lc (simI_zip (simA_cons (sim_var (i:=3) (r:=(kL kI)) (x:=found_33) rfl) (simA_cons (sim_sl ss_L (sim_var (i:=3) (r:=(kL kI)) (x:=found_33) rfl) (simO_some sim_i) simO_no) simA_nil))) (simG_pair simG_name simG_name) (fun _ _ hy=>hy) (fun (x43:(Int×Int))=>simB_yes) (fun (x43:(Int×Int))=>(sim_op os_B0 (sim_var (i:=2) (r:=kI) (x:=x43.1) rfl) (sim_var (i:=4) (r:=kI) (x:=x43.2) rfl)))) simA_nil)))) (simS_raise le_none (simA_cons (sim_var (i:=0) (r:=(kR kI)) (x:=x.1) rfl) simA_nil) (fun (y:(Addr ⊕ List Int)×Unit)=> [("cells",(kR kI) y.1)]) (by rintro y Z H vs ⟨v,_,rfl,h,rfl⟩;exact⟨v,[],rfl,rfl,v,[],rfl,h,rfl⟩)) (simS_next (simS_ret le_none (sim_callB cb_tupleL (simA_cons (sim_var (i:=3) (r:=(kL kI)) (x:=found_33) rfl) simA_nil))))))))))))),fun _ _ _ _ h=>h⟩)
def w_row_masks__2 (K:PySem.W.Frag) (cl:Cl):Addr×Unit→W K (List Int):=fun x=>outW (bnd (bnd (bnd (bnd (bnd (ret x.1) fun p9=>(bnd (bnd (bnd (bnd (ret "list") fun p4=>(bnd (bnd (ret "tuple") fun p2=>(bnd (ret ()) fun p3=>(ret (p2,p3)))) fun p5=>(ret (p4,p5)))) fun y1=>(ret (y1.1,y1.2.1))) fun p7=>(bnd (ret ()) fun p8=>(ret (p7,p8)))) fun p10=>(ret (p9,p10)))) fun y6=>(wRcv (IsLst y6.1) (wAss (y6.2.1=("list","tuple")) (ret true)))) fun v11=>(ret (!v11))) fun v20=>(wIf v20 (ret true) (bnd (bnd (ret (1:Int)) fun v15=>(bnd (bnd (bnd (ret x.1) fun p13=>(bnd (ret ()) fun p14=>(ret (p13,p14)))) fun y12=>(wLenC y12.1)) fun v16=>(bnd (ret (decide (v15≤v16))) fun v17=>(wIf v17 (bnd (ret (40:Int)) fun v18=>(ret (decide (v16≤v18)))) (ret false))))) fun v19=>(ret (!v19))))) fun v45=>(wIf v45 (bnd (bnd (ret ("rows" :Str)) fun p21=>(bnd (ret ()) fun p22=>(ret (p21,p22)))) fun (y:Str×Unit)=>(wRaise (cl.NoTable,[("why",kS y.1)]))) (bnd (wTry (bnd (bnd (bnd (ret x.1) fun y24=>(wPk kRef y24 fun xs=>ret (xs,Stays y24 (xs.map kRef)))) fun y26=>(wAss (y26.1.length≤50000) (wCalm (fmapW y26.2 (fun (x25:Addr)=>(ret true)) (fun (x25:Addr)=>(bnd (bnd (bnd (bnd (bnd (ret x25) fun v27=>(ret (Sum.inl v27:Addr ⊕ List Int))) fun p34=>(bnd (ret ()) fun p35=>(ret (p34,p35)))) fun p31=>(bnd (bnd (bnd (bnd (ret x.1) fun p29=>(bnd (ret ()) fun p30=>(ret (p29,p30)))) fun y28=>(wLenC y28.1)) fun p36=>(bnd (ret ()) fun p37=>(ret (p36,p37)))) fun p32=>(w_cell_tuple__2 K cl ((fun (x:(Addr ⊕ List Int)×Unit) (y:Int×Unit)=>(x.1,y.1,())) p31 p32)))) fun p41=>(bnd (ret ()) fun p42=>(ret (p41,p42)))) fun p38=>(w_mask_of_sequences K cl p38))) y26.1)))) fun v43=>(ret (Flow.rt v43))) (wCatch cl.NoCells (fun e44=>(fun _ _ _=>False)) wRaise)) (aftT fun (s23:Unit)=>(ret (Flow.nx ())))))) none
abbrev sp_row_masks__2 (K:PySem.W.Frag) (cl:Cl):Sp:=lift K (fun x:Addr×Unit=> [kRef x.1]) (kL kI) (w_row_masks__2 K cl)
theorem ok_row_masks__2 (T:Tx K mg cl):FnG P w K mg base 4 T.a_row_masks__2 T.fd_row_masks__2 ["rows"] (sp_row_masks__2 K cl):=
  okL T.F_row_masks__2 sc_row_masks__2 (fun _=>rfl) none (fun y e=>nomatch e) (fun cdv A outer s H E hg hr=>by
    refine⟨_,pss_cons (ps_if (PW.pt (pw_or (pt_not (pt_val (pe_callB (kx_isiT (K:=K) rfl) (by rfl) T.z_isinstance bt_isinstance (pa_cons (pv 0) (pa_cons (pe_tup (pa_cons (pe_bltn (v:= .ty "list") (by rfl) T.z_list bt_list rfl) (pa_cons (pe_bltn (v:= .ty "tuple") (by rfl) T.z_tuple bt_tuple rfl) pa_nil))) pa_nil))))) (pw_or1 (pt_not (pt_chain op_le op_le (pe_int) (pe_callB (kx_len (K:=K) rfl) (by rfl) T.z_len bt_len (pa_cons (pv 0) pa_nil)) (pe_glob (v:=(.int 40)) rfl T.c_MOST_CELLS ⟨_,rfl⟩)))))) (pss_one (ps_err (k:=0) rfl T.e_NoTable er_rel1 (hr.mono (by decide)) (takes_of rfl rfl rfl rfl) (pa_cons (pe_str) pa_nil) rfl)) pss_nil)
    (pss_one (ps_try_clauses rfl rfl sc_row_masks__2.nd (takes_of rfl rfl rfl rfl)
      (fun W pn xe tk _=>pss_one (ps_ret (pe_lc (own:= [("row",2)]) (g:=gName 2) (tt:=tYes)  rfl sc_row_masks__2.nd (pi_listK rfl (pv 0)) (blkOk_by (own:= [("row",2)]) (N:=N_row_masks__2) (sc:=defScope st_row_masks__2) (by decide +kernel)) (fun _ _ _ _ _=>pg_name (i:=2) sc_row_masks__2.nd rfl (by first | exact Or.inl rfl | exact Or.inr rfl)) (fun _ _ _ _ _=>pts_nil) (fun _ _ _ _ _=>pe_fnS ((ok_mask_of_sequences T).atS hg (hr.mono (by decide)) (b_mask_of_sequences T) .nil takes0) rfl T.g_mask_of_sequences T.F_mask_of_sequences.kp (pa_cons (pe_fnKS ((ok_cell_tuple__2 T).atKS hg (hr.mono (by decide)) (kb_cell_tuple__2__1_size T) takes0) rfl T.g_cell_tuple__2 T.F_cell_tuple__2.kp (pa_cons (pv 2) pa_nil) (pk_cons (pe_callB (kx_len (K:=K) rfl) (by rfl) T.z_len bt_len (pa_cons (pv 0) pa_nil)) pk_nil)) pa_nil)))))
      (.cons (i:=1) rfl rfl ⟨rfl,by decide,Or.inl T.e_NoCells.gC⟩ (fun a oe cls d pn hz hf=>pss_one (ps_never)) .nil))),?_⟩
    exact⟨_,fun x=>(simS_seq (simS_if le_none (simB_or (simB_not (simB_B (sim_callB cb_isiT2M (simA_cons (sim_var (i:=0) (r:=kRef) (x:=x.1) rfl) (simA_cons (sim_pair (simA_cons (sim_ty (T:= "list")) (simA_cons (sim_ty (T:= "tuple")) simA_nil))) simA_nil))))) (simB_not (simB_test (sim_chain os_B0 os_B0 sim_i (sim_callB cb_lenC (simA_cons (sim_var (i:=0) (r:=kRef) (x:=x.1) rfl) simA_nil)) sim_i)))) (simS_raise le_none (simA_cons sim_s simA_nil) (fun (y:Str×Unit)=> [("why",kS y.1)]) (by rintro y Z H vs ⟨v,_,rfl,h,rfl⟩;exact⟨v,[],rfl,rfl,v,[],rfl,h,rfl⟩)) (simS_next (simS_try (Gc:= [some (kRef x.1),none,none]) (G1:=(fun s23:Unit=>([some (kRef x.1),none,none]:Gm K))) (fun ε'=>(simS_ret (.so (.no (.no .nil))) (sim_lc (simI_cell (r:=kRef) (sim_var (i:=0) (r:=kRef) (x:=x.1) rfl)) (simG_name (i:=2) (r:=kRef)) (fun _ _ hy=>hy) (fun (x25:Addr)=>simB_yes) (fun (x25:Addr)=>(sim_call (cal_lift (w:=w_mask_of_sequences K cl)) (simA_cons (sim_callK (cal_liftK (δ':=fun x:(Addr ⊕ List Int)×Int×Unit=> [(kR kI) x.1,kI x.2.1]) (w:=w_cell_tuple__2 K cl) (fun (x:(Addr ⊕ List Int)×Unit) (y:Int×Unit)=>(x.1,y.1,())) (by rintro Z H x y vs zs ⟨_,_,rfl,a0,rfl⟩ ⟨_,_,rfl,a1,rfl⟩;exact⟨_,_,rfl,a0,_,_,rfl,a1,rfl⟩)) (simA_cons (sim_co (sim_var (i:=2) (r:=kRef) (x:=x25) rfl) co_RL) simA_nil) (simA_cons (sim_callB cb_lenC (simA_cons (sim_var (i:=0) (r:=kRef) (x:=x.1) rfl) simA_nil)) simA_nil)) simA_nil)))))) (SimC.cons (i:=1) (Gs:=(fun s23:Unit=>([some (kRef x.1),none,none]:Gm K))) (fun a k d e44=>(show SimS _ _ ([some (kRef x.1),some (kErr a k d e44),none]:Gm K) _ _ _ _ from simS_never)) (fun _=>(.so (.no (.no .nil)))) (.nil le_none)) (fun (s23:Unit)=>(show SimS _ _ ([some (kRef x.1),none,none]:Gm K) _ _ _ _ from (simS_end (.no (.no (.no .nil)))))))))),fun _ _ _ _ h=>h⟩)
def w_Table____init____2 (K:PySem.W.Frag) (cl:Cl):Addr×Addr×Unit→W K Unit:=fun x=>outW (bnd (bnd (bnd (ret x.2.1) fun p4=>(bnd (ret ()) fun p5=>(ret (p4,p5)))) fun p1=>(w_row_masks__2 K cl p1)) fun (masks_6:List Int)=>(bnd (bnd (bnd (ret masks_6) fun v8=>(bnd (ret (0:Int)) fun v9=>(wIx v8 v9))) fun v10=>(bnd (ret (1:Int)) fun v11=>(ret (!decide (v10=v11))))) fun v25=>(wIf v25 (bnd (bnd (ret ("first" :Str)) fun p12=>(bnd (ret ()) fun p13=>(ret (p12,p13)))) fun (y:Str×Unit)=>(wRaise (cl.NoTable,[("why",kS y.1)]))) (bnd (bnd (bnd (bnd (ret masks_6) fun p17=>(bnd (ret ()) fun p18=>(ret (p17,p18)))) fun p14=>(w_are_invertible K cl p14)) fun v19=>(ret (!v19))) fun v24=>(wIf v24 (bnd (bnd (ret ("singular" :Str)) fun p20=>(bnd (ret ()) fun p21=>(ret (p20,p21)))) fun (y:Str×Unit)=>(wRaise (cl.NoTable,[("why",kS y.1)]))) (bnd (ret masks_6) fun v22=>(bnd (ret x.1) fun v23=>(wSetF cl.Table "masks" v23 ((kL kI) v22) (ret (Flow.nx ())))))))))) (some ())
abbrev sp_Table____init____2 (K:PySem.W.Frag) (cl:Cl):Sp:=lift K (fun x:Addr×Addr×Unit=> [kRef x.1,kRef x.2.1]) kN (w_Table____init____2 K cl)
theorem ok_Table____init____2 (T:Tx K mg cl):FnG P w K mg base 5 T.a_Table____init____2 T.fd_Table____init____2 ["self","rows"] (sp_Table____init____2 K cl):=
  okL T.F_Table____init____2 sc_Table____init____2 (fun _=>rfl) (some ()) (fun y e=>by cases e;rfl) (fun cdv A outer s H E hg hr=>by
    refine⟨_,pss_cons (ps_set (i:=2) sc_Table____init____2.nd rfl (by first | exact Or.inl rfl | exact Or.inr rfl) (pe_fnS ((ok_row_masks__2 T).atS hg (hr.mono (by decide)) (b_row_masks__2 T) .nil (takes_of rfl rfl rfl rfl)) rfl T.g_row_masks__2 T.F_row_masks__2.kp (pa_cons (pv 1) pa_nil)))
    (pss_cons (ps_if (pt_cmpR (kx_ne (K:=K) rfl hr) (pe_ix (kx_ix (K:=K) rfl) (pv 2) (pe_int) (fun _ _=>rfl)) (pe_int) (nomark _)) (pss_one (ps_err (k:=0) rfl T.e_NoTable er_rel1 (hr.mono (by decide)) (takes_of rfl rfl rfl rfl) (pa_cons (pe_str) pa_nil) rfl)) pss_nil)
    (pss_cons (ps_if (pt_not (pt_val (pe_fnS ((ok_are_invertible T).atS hg (hr.mono (by decide)) (b_are_invertible T) .nil (takes_of rfl rfl rfl rfl)) rfl T.g_are_invertible T.F_are_invertible.kp (pa_cons (pv 2) pa_nil)))) (pss_one (ps_err (k:=0) rfl T.e_NoTable er_rel1 (hr.mono (by decide)) (takes_of rfl rfl rfl rfl) (pa_cons (pe_str) pa_nil) rfl)) pss_nil)
    (pss_one (ps_fldK (K:=K) rfl (pv 0) (pv 2))))),?_⟩
    exact⟨_,fun x=>(simS_seq (simS_asg simG_name le_none (sim_call (cal_lift (w:=w_row_masks__2 K cl)) (simA_cons (sim_var (i:=1) (r:=kRef) (x:=x.2.1) rfl) simA_nil)) (fun (masks_6:List Int)=>(show SimS _ _ ([some (kRef x.1),some (kRef x.2.1),some ((kL kI) masks_6)]:Gm K) _ _ _ _ from (simS_seq (simS_if le_none (simB_test (sim_op os_neI (sim_op os_ixL (sim_var (i:=2) (r:=(kL kI)) (x:=masks_6) rfl) sim_i) sim_i)) (simS_raise le_none (simA_cons sim_s simA_nil) (fun (y:Str×Unit)=> [("why",kS y.1)]) (by rintro y Z H vs ⟨v,_,rfl,h,rfl⟩;exact⟨v,[],rfl,rfl,v,[],rfl,h,rfl⟩)) (simS_next (simS_seq (simS_if le_none (simB_not (simB_B (sim_call (cal_lift (w:=w_are_invertible K cl)) (simA_cons (sim_var (i:=2) (r:=(kL kI)) (x:=masks_6) rfl) simA_nil)))) (simS_raise le_none (simA_cons sim_s simA_nil) (fun (y:Str×Unit)=> [("why",kS y.1)]) (by rintro y Z H vs ⟨v,_,rfl,h,rfl⟩;exact⟨v,[],rfl,rfl,v,[],rfl,h,rfl⟩)) (simS_next (simS_fld (r:=(kL kI)) T.cls_Table T.no_Table_masks le_none (sim_var (i:=2) (r:=(kL kI)) (x:=masks_6) rfl) (sim_var (i:=0) (r:=kRef) (x:=x.1) rfl) (simS_end (.no (.no (.no .nil))))))))))))))),fun _ _ _ _ h=>h⟩)
def w_Table____repr__ (K:PySem.W.Frag) (cl:Cl):(List Nat)×Unit→W K Str:=fun x=>outW (bnd (bnd (ret ("Table(" :Str)) fun y14=>(wAss ((Str.empty++y14).length≤50000) (bnd (bnd (bnd (bnd (bnd (bnd (ret x.1) fun x=>ret (x.map fun (n:Nat)=>(n:Int))) fun y1=>(ret (y1,nI))) fun y3=>(wAss (y3.1.length≤50000) (wCalm (fmapW y3.2 (fun (x2:Int)=>(ret true)) (fun (x2:Int)=>(bnd (bnd (bnd (bnd (ret x2) fun p7=>(bnd (ret ()) fun p8=>(ret (p7,p8)))) fun p4=>(w_cells_in_sequences K cl p4)) fun p10=>(bnd (ret ()) fun p11=>(ret (p10,p11)))) fun y9=>(ret y9.1))) y3.1)))) fun v13=>(ret ((fun xs=>PyData.list (xs.map (fun xs=>PyData.list (xs.map PyData.int)))) v13))) fun v12=>(wAss (NoSc v12=true∧Tame v12 40 50000) (ret v12.shown))) fun y15=>(wAss (((Str.empty++y14)++y15).length≤50000) (bnd (ret (")" :Str)) fun y16=>(wAss ((((Str.empty++y14)++y15)++y16).length≤50000) (ret (((Str.empty++y14)++y15)++y16)))))))) fun v17=>(ret (Flow.rt v17))) none
abbrev sp_Table____repr__ (K:PySem.W.Frag) (cl:Cl):Sp:=lift K (fun x:(List Nat)×Unit=> [(k_Table K cl) x.1]) kS (w_Table____repr__ K cl)
theorem ok_Table____repr__ (T:Tx K mg cl):FnG P w K mg base 2 T.a_Table____repr__ T.fd_Table____repr__ ["self"] (sp_Table____repr__ K cl):=
  okL T.F_Table____repr__ sc_Table____repr__ (fun _=>rfl) none (fun y e=>nomatch e) (fun cdv A outer s H E hg hr=>by
    refine⟨_,pss_one (ps_ret (pe_joined (.cons (pe_str) (.cons (pe_fmtRD (K:=K) rfl hg hr (pe_lc (own:= [("mask",1)]) (g:=gName 1) (tt:=tYes)  rfl sc_Table____repr__.nd (pi_listK rfl (pe_fldK (K:=K) rfl (pv 0))) (blkOk_by (own:= [("mask",1)]) (N:=N_Table____repr__) (sc:=defScope st_Table____repr__) (by decide +kernel)) (fun _ _ _ _ _=>pg_name (i:=1) sc_Table____repr__.nd rfl (by first | exact Or.inl rfl | exact Or.inr rfl)) (fun _ _ _ _ _=>pts_nil) (fun _ _ _ _ _=>pe_callTy (kx_list (K:=K) rfl) (by rfl) T.z_list bt_list (pa_cons (pe_fnS ((ok_cells_in_sequences T).atS hg (hr.mono (by decide)) (b_cells_in_sequences T) .nil takes0) rfl T.g_cells_in_sequences T.F_cells_in_sequences.kp (pa_cons (pv 1) pa_nil)) pa_nil)))) (.cons (pe_str) .nil))))),?_⟩
    exact⟨_,fun x=>(simS_ret le_none (sim_joined (simJ_cons sim_s (simJ_cons (sim_fmtR (sim_co (sim_lc (simI_list (r:=kI) (sim_fld (fs:=fs_Table K cl) (s:=(kL kI)) (fun x=>(x.map fun (n:Nat)=>(n:Int))) (fun _=>rfl) (fun _=>fl_Table_masks) T.cls_Table T.no_Table_masks (sim_var (i:=0) (r:=(k_Table K cl)) (x:=x.1) rfl))) simG_name (fun _ _ hy=>hy) (fun (x2:Int)=>simB_yes) (fun (x2:Int)=>(sim_callB cb_listT (simA_cons (sim_call (cal_lift (w:=w_cells_in_sequences K cl)) (simA_cons (sim_var (i:=1) (r:=kI) (x:=x2) rfl) simA_nil)) simA_nil)))) (co_LP (co_LP co_I)))) (simJ_cons sim_s simJ_nil))))),fun _ _ _ _ h=>h⟩)
def w_Table____len__ (K:PySem.W.Frag) (cl:Cl):(List Nat)×Unit→W K Int:=fun x=>outW (bnd (bnd (bnd (bnd (ret x.1) fun x=>ret (x.map fun (n:Nat)=>(n:Int))) fun p2=>(bnd (ret ()) fun p3=>(ret (p2,p3)))) fun y1=>(ret (y1.1.length:Int))) fun v4=>(ret (Flow.rt v4))) none
abbrev sp_Table____len__ (K:PySem.W.Frag) (cl:Cl):Sp:=lift K (fun x:(List Nat)×Unit=> [(k_Table K cl) x.1]) kI (w_Table____len__ K cl)
theorem ok_Table____len__ (T:Tx K mg cl):FnG P w K mg base 1 T.a_Table____len__ T.fd_Table____len__ ["self"] (sp_Table____len__ K cl):=
  okL T.F_Table____len__ sc_Table____len__ (fun _=>rfl) none (fun y e=>nomatch e) (fun cdv A outer s H E hg hr=>by
    refine⟨_,pss_one (ps_ret (pe_callB (kx_len (K:=K) rfl) (by rfl) T.z_len bt_len (pa_cons (pe_fldK (K:=K) rfl (pv 0)) pa_nil))),?_⟩
    exact⟨_,fun x=>(simS_ret le_none (sim_callB cb_lenL (simA_cons (sim_fld (fs:=fs_Table K cl) (s:=(kL kI)) (fun x=>(x.map fun (n:Nat)=>(n:Int))) (fun _=>rfl) (fun _=>fl_Table_masks) T.cls_Table T.no_Table_masks (sim_var (i:=0) (r:=(k_Table K cl)) (x:=x.1) rfl)) simA_nil))),fun _ _ _ _ h=>h⟩)
def w_Table__row (K:PySem.W.Frag) (cl:Cl):(List Nat)×PyData×Unit→W K (List Int):=fun x=>outW (bnd (bnd (bnd (bnd (ret x.2.1) fun p7=>(bnd (ret ()) fun p8=>(ret (p7,p8)))) fun p4=>(bnd (bnd (bnd (bnd (bnd (ret x.1) fun x=>ret (x.map fun (n:Nat)=>(n:Int))) fun p2=>(bnd (ret ()) fun p3=>(ret (p2,p3)))) fun y1=>(ret (y1.1.length:Int))) fun p9=>(bnd (ret ()) fun p10=>(ret (p9,p10)))) fun p5=>(w_is_cell K cl ((fun (x:PyData×Unit) (y:Int×Unit)=>(x.1,y.1,())) p4 p5)))) fun v11=>(ret (!v11))) fun v24=>(wIf v24 (bnd (bnd (ret x.2.1) fun p12=>(bnd (ret ()) fun p13=>(ret (p12,p13)))) fun (y:PyData×Unit)=>(wRaise (cl.NoCell,[("cell",kPy y.1)]))) (bnd (bnd (bnd (bnd (bnd (ret x.1) fun x=>ret (x.map fun (n:Nat)=>(n:Int))) fun v16=>(bnd (bnd (ret x.2.1) (wAs PyData.int)) fun v17=>(wIx v16 v17))) fun p21=>(bnd (ret ()) fun p22=>(ret (p21,p22)))) fun p18=>(w_cells_in_sequences K cl p18)) fun v23=>(ret (Flow.rt v23))))) none
abbrev sp_Table__row (K:PySem.W.Frag) (cl:Cl):Sp:=lift K (fun x:(List Nat)×PyData×Unit=> [(k_Table K cl) x.1,kPy x.2.1]) (kT kI) (w_Table__row K cl)
theorem ok_Table__row (T:Tx K mg cl):FnG P w K mg base 3 T.a_Table__row T.fd_Table__row ["self","cell"] (sp_Table__row K cl):=
  okL T.F_Table__row sc_Table__row (fun _=>rfl) none (fun y e=>nomatch e) (fun cdv A outer s H E hg hr=>by
    refine⟨_,pss_cons (ps_if (pt_not (pt_val (pe_fnKS ((ok_is_cell T).atKS hg (hr.mono (by decide)) (kb_is_cell__1_size T) (takes_of rfl rfl rfl rfl)) rfl T.g_is_cell T.F_is_cell.kp (pa_cons (pv 1) pa_nil) (pk_cons (pe_callB (kx_len (K:=K) rfl) (by rfl) T.z_len bt_len (pa_cons (pe_fldK (K:=K) rfl (pv 0)) pa_nil)) pk_nil)))) (pss_one (ps_err (k:=0) rfl T.e_NoCell er_rel1 (hr.mono (by decide)) (takes_of rfl rfl rfl rfl) (pa_cons (pv 1) pa_nil) rfl)) pss_nil)
    (pss_one (ps_ret (pe_fnS ((ok_cells_in_sequences T).atS hg (hr.mono (by decide)) (b_cells_in_sequences T) .nil (takes_of rfl rfl rfl rfl)) rfl T.g_cells_in_sequences T.F_cells_in_sequences.kp (pa_cons (pe_ix (kx_ix (K:=K) rfl) (pe_fldK (K:=K) rfl (pv 0)) (pv 1) (fun _ _=>rfl)) pa_nil)))),?_⟩
    exact⟨_,fun x=>(simS_seq (simS_if le_none (simB_not (simB_B (sim_callK (cal_liftK (δ':=fun x:PyData×Int×Unit=> [kPy x.1,kI x.2.1]) (w:=w_is_cell K cl) (fun (x:PyData×Unit) (y:Int×Unit)=>(x.1,y.1,())) (by rintro Z H x y vs zs ⟨_,_,rfl,a0,rfl⟩ ⟨_,_,rfl,a1,rfl⟩;exact⟨_,_,rfl,a0,_,_,rfl,a1,rfl⟩)) (simA_cons (sim_var (i:=1) (r:=kPy) (x:=x.2.1) rfl) simA_nil) (simA_cons (sim_callB cb_lenL (simA_cons (sim_fld (fs:=fs_Table K cl) (s:=(kL kI)) (fun x=>(x.map fun (n:Nat)=>(n:Int))) (fun _=>rfl) (fun _=>fl_Table_masks) T.cls_Table T.no_Table_masks (sim_var (i:=0) (r:=(k_Table K cl)) (x:=x.1) rfl)) simA_nil)) simA_nil)))) (simS_raise le_none (simA_cons (sim_var (i:=1) (r:=kPy) (x:=x.2.1) rfl) simA_nil) (fun (y:PyData×Unit)=> [("cell",kPy y.1)]) (by rintro y Z H vs ⟨v,_,rfl,h,rfl⟩;exact⟨v,[],rfl,rfl,v,[],rfl,h,rfl⟩)) (simS_next (simS_ret le_none (sim_call (cal_lift (w:=w_cells_in_sequences K cl)) (simA_cons (sim_op os_ixL (sim_fld (fs:=fs_Table K cl) (s:=(kL kI)) (fun x=>(x.map fun (n:Nat)=>(n:Int))) (fun _=>rfl) (fun _=>fl_Table_masks) T.cls_Table T.no_Table_masks (sim_var (i:=0) (r:=(k_Table K cl)) (x:=x.1) rfl)) (sim_as oc_I (sim_var (i:=1) (r:=kPy) (x:=x.2.1) rfl))) simA_nil)))))),fun _ _ _ _ h=>h⟩)
def w_Table__size (K:PySem.W.Frag) (cl:Cl):(List Nat)×Unit→W K Int:=fun x=>outW (bnd (bnd (bnd (bnd (ret x.1) fun x=>ret (x.map fun (n:Nat)=>(n:Int))) fun p2=>(bnd (ret ()) fun p3=>(ret (p2,p3)))) fun y1=>(ret (y1.1.length:Int))) fun v4=>(ret (Flow.rt v4))) none
abbrev sp_Table__size (K:PySem.W.Frag) (cl:Cl):Sp:=lift K (fun x:(List Nat)×Unit=> [(k_Table K cl) x.1]) kI (w_Table__size K cl)
theorem ok_Table__size (T:Tx K mg cl):FnG P w K mg base 1 T.a_Table__size T.fd_Table__size ["self"] (sp_Table__size K cl):=
  okL T.F_Table__size sc_Table__size (fun _=>rfl) none (fun y e=>nomatch e) (fun cdv A outer s H E hg hr=>by
    refine⟨_,pss_one (ps_ret (pe_callB (kx_len (K:=K) rfl) (by rfl) T.z_len bt_len (pa_cons (pe_fldK (K:=K) rfl (pv 0)) pa_nil))),?_⟩
    exact⟨_,fun x=>(simS_ret le_none (sim_callB cb_lenL (simA_cons (sim_fld (fs:=fs_Table K cl) (s:=(kL kI)) (fun x=>(x.map fun (n:Nat)=>(n:Int))) (fun _=>rfl) (fun _=>fl_Table_masks) T.cls_Table T.no_Table_masks (sim_var (i:=0) (r:=(k_Table K cl)) (x:=x.1) rfl)) simA_nil))),fun _ _ _ _ h=>h⟩)
def w__law_is_grid (K:PySem.W.Frag) (cl:Cl):(List Nat)×(List (List Int))×Unit→W K Bool:=fun x=>outW (bnd (bnd (bnd (bnd (bnd (ret x.1) fun p4=>(bnd (bnd (ret cl.Table) fun p2=>(bnd (ret ()) fun p3=>(ret (p2,p3)))) fun p5=>(ret (p4,p5)))) fun y1=>(wAss (y1.2.1=cl.Table) (ret true))) fun v6=>(ret (!v6))) fun v29=>(wIf v29 (ret true) (bnd (bnd (bnd (bnd (ret x.1) fun p8=>(bnd (ret ()) fun p9=>(ret (p8,p9)))) fun y7=>(bnd (wCalm (w_Table____len__ K cl y7)) fun n=>wAss (0≤n∧n<2 ^ 62) (ret n))) fun v13=>(bnd (bnd (bnd (ret x.2.1) fun p11=>(bnd (ret ()) fun p12=>(ret (p11,p12)))) fun y10=>(ret (y10.1.length:Int))) fun v14=>(ret (!decide (v13=v14))))) fun v28=>(wIf v28 (ret true) (bnd (bnd (bnd (ret x.1) fun p16=>(bnd (ret ()) fun p17=>(ret (p16,p17)))) fun y15=>(wCalm (w_Table____repr__ K cl y15))) fun v26=>(bnd (bnd (bnd (ret ("Table(" :Str)) fun v22=>(bnd (bnd (bnd (bnd (ret x.2.1) fun v18=>(ret ((fun xs=>PyData.list (xs.map (fun xs=>PyData.list (xs.map PyData.int)))) v18))) fun p20=>(bnd (ret ()) fun p21=>(ret (p20,p21)))) fun y19=>(wAss (Tame y19.1 40 50000) (ret y19.1.shown))) fun v23=>(wAss (v22.length+v23.length≤50000) (ret (v22++v23))))) fun v24=>(bnd (ret (")" :Str)) fun v25=>(wAss (v24.length+v25.length≤50000) (ret (v24++v25))))) fun v27=>(ret (!decide (v26=v27))))))))) fun v72=>(wIf v72 (bnd (ret false) fun v30=>(ret (Flow.rt v30))) (bnd (bnd (bnd (bnd (bnd (bnd (ret x.2.1) fun p33=>(bnd (ret ()) fun p34=>(ret (p33,p34)))) fun y32=>(ret (y32.1.length:Int))) fun p35=>(bnd (ret ()) fun p36=>(ret (p35,p36)))) fun y31=>(wAss (-(2 ^ 62)≤y31.1∧y31.1<2 ^ 62) (ret (rng 0 y31.1,nI)))) fun y38=>(wAss (y38.1.length≤50000) (wCalm (fmapW y38.2 (fun (x37:Int)=>(ret true)) (fun (x37:Int)=>(bnd (ret x.1) fun p42=>(wRcv (fun _=>True) (bnd (bnd (bnd (ret x37) fun v39=>(ret (PyData.int v39))) fun p43=>(bnd (ret ()) fun p44=>(ret (p43,p44)))) fun p40=>(w_Table__row K cl (p42,p40)))))) y38.1)))) fun (told_45:List (List Int))=>(bnd (bnd (bnd (bnd (bnd (bnd (ret told_45) fun v46=>(ret ((fun xs=>PyData.list (xs.map (fun xs=>PyData.tuple (xs.map PyData.int)))) v46))) fun p48=>(bnd (ret ()) fun p49=>(ret (p48,p49)))) fun y47=>(wAss (Tame y47.1 40 50000) (ret y47.1.shown))) fun v60=>(bnd (bnd (bnd (bnd (bnd (bnd (ret x.2.1) fun y50=>(ret (y50,nI))) fun y52=>(wAss (y52.1.length≤50000) (wCalm (fmapW y52.2 (fun (x51:List Int)=>(ret true)) (fun (x51:List Int)=>(bnd (bnd (ret x51) fun p54=>(bnd (ret ()) fun p55=>(ret (p54,p55)))) fun y53=>(ret y53.1))) y52.1)))) fun v56=>(ret ((fun xs=>PyData.list (xs.map (fun xs=>PyData.tuple (xs.map PyData.int)))) v56))) fun p58=>(bnd (ret ()) fun p59=>(ret (p58,p59)))) fun y57=>(wAss (Tame y57.1 40 50000) (ret y57.1.shown))) fun v61=>(ret (decide (v60=v61))))) fun v70=>(wIf v70 (bnd (bnd (ret x.1) fun p64=>(wRcv (fun _=>True) (bnd (ret ()) fun p62=>(w_Table__size K cl (p64,p62))))) fun v68=>(bnd (bnd (bnd (ret x.2.1) fun p66=>(bnd (ret ()) fun p67=>(ret (p66,p67)))) fun y65=>(ret (y65.1.length:Int))) fun v69=>(ret (decide (v68=v69))))) (ret false))) fun v71=>(ret (Flow.rt v71)))))) none
abbrev sp__law_is_grid (K:PySem.W.Frag) (cl:Cl):Sp:=lift K (fun x:(List Nat)×(List (List Int))×Unit=> [(k_Table K cl) x.1,(kL (kL kI)) x.2.1]) kB (w__law_is_grid K cl)
theorem ok__law_is_grid (T:Tx K mg cl):FnG P w K mg base 4 T.a__law_is_grid T.fd__law_is_grid ["_law_grid","_law_lines_here"] (sp__law_is_grid K cl):=
  okL T.F__law_is_grid sc__law_is_grid (fun _=>rfl) none (fun y e=>nomatch e) (fun cdv A outer s H E hg hr=>by
    refine⟨_,pss_cons (ps_if (PW.pt (pw_or (pt_not (pt_val (pe_callB (kx_isi (K:=K) rfl) (by rfl) T.z_isinstance bt_isinstance (pa_cons (pv 0) (pa_cons (pe_glob (v:= .ref cl.Table) rfl T.gc_Table rfl) pa_nil))))) (pw_or (pt_cmpR (kx_ne (K:=K) rfl hr) (pe_callB (call_lenI (ok_Table____len__ T) T.m_Table____len__.at_ T.m_Table____len__.fn hg (hr.mono (by decide)) (b_Table____len__ T)) (by rfl) T.z_len bt_len (pa_cons (pv 0) pa_nil)) (pe_callB (kx_len (K:=K) rfl) (by rfl) T.z_len bt_len (pa_cons (pv 1) pa_nil)) (nomark _)) (pw_or1 (pt_cmpR (kx_ne (K:=K) rfl hr) (pe_callB (call_reprI (ok_Table____repr__ T) T.m_Table____repr__.at_ T.m_Table____repr__.fn hg (hr.mono (by decide)) (b_Table____repr__ T)) (by rfl) T.z_repr bt_repr (pa_cons (pv 0) pa_nil)) (pe_op (kx_add (K:=K) rfl) (pe_op (kx_add (K:=K) rfl) (pe_str) (pe_callB (kx_repr (K:=K) rfl hg hr) (by rfl) T.z_repr bt_repr (pa_cons (pv 1) pa_nil))) (pe_str)) (nomark _)))))) (pss_one (ps_ret (pe_bl))) pss_nil)
    (pss_cons (ps_setLc (i:=2) (own:= [("_law_spot",3)]) (g:=gName 3) (tt:=tYes)  rfl sc__law_is_grid.nd rfl rfl (sw_true rfl rfl rfl (by decide +kernel)) (pi_range1 rfl T.z_range (pa_cons (pe_callB (kx_len (K:=K) rfl) (by rfl) T.z_len bt_len (pa_cons (pv 1) pa_nil)) pa_nil)) (blkOk_by (own:= [("_law_spot",3)]) (N:=N__law_is_grid) (sc:=defScope st__law_is_grid) (by decide +kernel)) (fun _ _ _ _ _=>pg_name (i:=3) sc__law_is_grid.nd rfl (by first | exact Or.inl rfl | exact Or.inr rfl)) (fun _ _ _ _ _=>pts_nil) (fun _ _ _ _ _=>pe_mS ((ok_Table__row T).atS hg (hr.mono (by decide)) (b_Table__row T) .nil takes0) T.cls_Table T.m_Table__row (pv 0) (pa_cons (pv 3) pa_nil)))
    (pss_one (ps_ret (pe_and (pe_cmpR (kx_eq (K:=K) rfl hr) (pe_callB (kx_repr (K:=K) rfl hg hr) (by rfl) T.z_repr bt_repr (pa_cons (pv 2) pa_nil)) (pe_callB (kx_repr (K:=K) rfl hg hr) (by rfl) T.z_repr bt_repr (pa_cons (pe_lc (own:= [("_law_line",4)]) (g:=gName 4) (tt:=tYes)  rfl sc__law_is_grid.nd (pi_listK rfl (pv 1)) (blkOk_by (own:= [("_law_line",4)]) (N:=N__law_is_grid) (sc:=defScope st__law_is_grid) (by decide +kernel)) (fun _ _ _ _ _=>pg_name (i:=4) sc__law_is_grid.nd rfl (by first | exact Or.inl rfl | exact Or.inr rfl)) (fun _ _ _ _ _=>pts_nil) (fun _ _ _ _ _=>pe_callTy (kx_tuple (K:=K) rfl) (by rfl) T.z_tuple bt_tuple (pa_cons (pv 4) pa_nil))) pa_nil)) (nomark _)) (pe_one (pe_cmpR (kx_eq (K:=K) rfl hr) (pe_mS0 ((ok_Table__size T).atS hg (hr.mono (by decide)) (b_Table__size T) .nil (takes_of rfl rfl rfl rfl)) T.cls_Table T.m_Table__size (pv 0)) (pe_callB (kx_len (K:=K) rfl) (by rfl) T.z_len bt_len (pa_cons (pv 1) pa_nil)) (nomark _))))))),?_⟩
    exact⟨_,fun x=>(simS_seq (simS_if le_none (simB_or (simB_not (simB_B (sim_callB (cb_isC (fs:=fs_Table K cl) (r:=(k_Table K cl)) (fun _=>rfl) T.cls_Table T.ty_Table T.cq) (simA_cons (sim_var (i:=0) (r:=(k_Table K cl)) (x:=x.1) rfl) (simA_cons (sim_cls (C:=cl.Table)) simA_nil))))) (simB_or (simB_test (sim_op os_neI (sim_callB (cb_lenO (fs:=fs_Table K cl) (r:=(k_Table K cl)) (w:=w_Table____len__ K cl) (fun _=>rfl)) (simA_cons (sim_var (i:=0) (r:=(k_Table K cl)) (x:=x.1) rfl) simA_nil)) (sim_callB cb_lenL (simA_cons (sim_var (i:=1) (r:=(kL (kL kI))) (x:=x.2.1) rfl) simA_nil)))) (simB_test (sim_op os_neS (sim_callB (cb_strO (fs:=fs_Table K cl) (r:=(k_Table K cl)) (w:=w_Table____repr__ K cl) (fun _=>rfl)) (simA_cons (sim_var (i:=0) (r:=(k_Table K cl)) (x:=x.1) rfl) simA_nil)) (sim_op os_addS (sim_op os_addS sim_s (sim_callB cb_repr (simA_cons (sim_co (sim_var (i:=1) (r:=(kL (kL kI))) (x:=x.2.1) rfl) (co_LP (co_LP co_I))) simA_nil))) sim_s))))) (simS_ret le_none sim_b) (simS_next (simS_seq (simS_asg simG_name le_none (sim_lc (simI_r1 (simA_cons (sim_callB cb_lenL (simA_cons (sim_var (i:=1) (r:=(kL (kL kI))) (x:=x.2.1) rfl) simA_nil)) simA_nil)) simG_name (fun _ _ hy=>hy) (fun (x37:Int)=>simB_yes) (fun (x37:Int)=>(sim_ms (cal_lift (w:=w_Table__row K cl)) (rc_Table_row (cl:=cl)) (sim_var (i:=0) (r:=(k_Table K cl)) (x:=x.1) rfl) (simA_cons (sim_co (sim_var (i:=3) (r:=kI) (x:=x37) rfl) co_I) simA_nil)))) (fun (told_45:List (List Int))=>(show SimS _ _ ([some ((k_Table K cl) x.1),some ((kL (kL kI)) x.2.1),some ((kL (kT kI)) told_45),none,none]:Gm K) _ _ _ _ from (simS_ret le_none (sim_andV (sim_op os_eqS (sim_callB cb_repr (simA_cons (sim_co (sim_var (i:=2) (r:=(kL (kT kI))) (x:=told_45) rfl) (co_LP (co_TP co_I))) simA_nil)) (sim_callB cb_repr (simA_cons (sim_co (sim_lc (simI_list (r:=(kL kI)) (sim_var (i:=1) (r:=(kL (kL kI))) (x:=x.2.1) rfl)) simG_name (fun _ _ hy=>hy) (fun (x51:List Int)=>simB_yes) (fun (x51:List Int)=>(sim_callB cb_tupleL (simA_cons (sim_var (i:=4) (r:=(kL kI)) (x:=x51) rfl) simA_nil)))) (co_LP (co_TP co_I))) simA_nil))) (sim_op os_eqI (sim_ms (cal_lift (w:=w_Table__size K cl)) (rc_Table_size (cl:=cl)) (sim_var (i:=0) (r:=(k_Table K cl)) (x:=x.1) rfl) simA_nil) (sim_callB cb_lenL (simA_cons (sim_var (i:=1) (r:=(kL (kL kI))) (x:=x.2.1) rfl) simA_nil)))))))))))),fun _ _ _ _ h=>h⟩)
def w_Table____eq__ (K:PySem.W.Frag) (cl:Cl):(List Nat)×(List Nat)×Unit→W K Bool:=fun x=>outW (bnd (bnd (bnd (bnd (ret x.2.1) fun p4=>(bnd (bnd (ret cl.Table) fun p2=>(bnd (ret ()) fun p3=>(ret (p2,p3)))) fun p5=>(ret (p4,p5)))) fun y1=>(wAss (y1.2.1=cl.Table) (ret true))) fun v10=>(wIf v10 (bnd (bnd (bnd (ret x.1) fun x=>ret (x.map fun (n:Nat)=>(n:Int))) fun v6=>(ret ((fun xs=>PyData.list (xs.map PyData.int)) v6))) fun v8=>(bnd (bnd (bnd (ret x.2.1) fun x=>ret (x.map fun (n:Nat)=>(n:Int))) fun v7=>(ret ((fun xs=>PyData.list (xs.map PyData.int)) v7))) fun v9=>(wAss (SeqAt.shaped v8=true∧SeqAt.shaped v9=true) (ret (PyData.eqv v8 v9))))) (ret false))) fun v11=>(ret (Flow.rt v11))) none
abbrev sp_Table____eq__ (K:PySem.W.Frag) (cl:Cl):Sp:=lift K (fun x:(List Nat)×(List Nat)×Unit=> [(k_Table K cl) x.1,(k_Table K cl) x.2.1]) kB (w_Table____eq__ K cl)
theorem ok_Table____eq__ (T:Tx K mg cl):FnG P w K mg base 1 T.a_Table____eq__ T.fd_Table____eq__ ["self","other"] (sp_Table____eq__ K cl):=
  okL T.F_Table____eq__ sc_Table____eq__ (fun _=>rfl) none (fun y e=>nomatch e) (fun cdv A outer s H E hg hr=>by
    refine⟨_,pss_one (ps_ret (pe_and (pe_callB (kx_isi (K:=K) rfl) (by rfl) T.z_isinstance bt_isinstance (pa_cons (pv 1) (pa_cons (pe_glob (v:= .ref cl.Table) rfl T.gc_Table rfl) pa_nil))) (pe_one (pe_cmpR (kx_eq (K:=K) rfl hr) (pe_fldK (K:=K) rfl (pv 0)) (pe_fldK (K:=K) rfl (pv 1)) (nomark _))))),?_⟩
    exact⟨_,fun x=>(simS_ret le_none (sim_andV (sim_callB (cb_isC (fs:=fs_Table K cl) (r:=(k_Table K cl)) (fun _=>rfl) T.cls_Table T.ty_Table T.cq) (simA_cons (sim_var (i:=1) (r:=(k_Table K cl)) (x:=x.2.1) rfl) (simA_cons (sim_cls (C:=cl.Table)) simA_nil))) (sim_op os_eqP (sim_co (sim_fld (fs:=fs_Table K cl) (s:=(kL kI)) (fun x=>(x.map fun (n:Nat)=>(n:Int))) (fun _=>rfl) (fun _=>fl_Table_masks) T.cls_Table T.no_Table_masks (sim_var (i:=0) (r:=(k_Table K cl)) (x:=x.1) rfl)) (co_LP co_I)) (sim_co (sim_fld (fs:=fs_Table K cl) (s:=(kL kI)) (fun x=>(x.map fun (n:Nat)=>(n:Int))) (fun _=>rfl) (fun _=>fl_Table_masks) T.cls_Table T.no_Table_masks (sim_var (i:=1) (r:=(k_Table K cl)) (x:=x.2.1) rfl)) (co_LP co_I))))),fun _ _ _ _ h=>h⟩)
def w_Table____eq____2 (K:PySem.W.Frag) (cl:Cl):(List Nat)×Unit×Unit→W K Bool:=fun x=>outW (bnd (bnd (bnd (bnd (ret x.2.1) fun p5=>(bnd (bnd (ret cl.Table) fun p3=>(bnd (ret ()) fun p4=>(ret (p3,p4)))) fun p6=>(ret (p5,p6)))) fun y2=>(wAss (y2.2.1=cl.Table) (ret false))) fun v11=>(wIf v11 wDead (ret false))) fun v12=>(ret (Flow.rt v12))) none
abbrev sp_Table____eq____2 (K:PySem.W.Frag) (cl:Cl):Sp:=lift K (fun x:(List Nat)×Unit×Unit=> [(k_Table K cl) x.1,(kW cl.Table) x.2.1]) kB (w_Table____eq____2 K cl)
theorem ok_Table____eq____2 (T:Tx K mg cl):FnG P w K mg base 1 T.a_Table____eq____2 T.fd_Table____eq____2 ["self","other"] (sp_Table____eq____2 K cl):=
  okL T.F_Table____eq____2 sc_Table____eq____2 (fun _=>rfl) none (fun y e=>nomatch e) (fun cdv A outer s H E hg hr=>by
    refine⟨_,pss_one (ps_ret (pe_and (pe_callB (kx_isi (K:=K) rfl) (by rfl) T.z_isinstance bt_isinstance (pa_cons (pv 1) (pa_cons (pe_glob (v:= .ref cl.Table) rfl T.gc_Table rfl) pa_nil))) (pe_one (pe_cmpR (kx_eq (K:=K) rfl hr) (pe_fldK (K:=K) rfl (pv 0)) (pe_fldK (K:=K) rfl (pv 1)) (nomark _))))),?_⟩
    exact⟨_,fun x=>(simS_ret le_none (sim_andV (sim_callB (cb_isW T.al_Table) (simA_cons (sim_var (i:=1) (r:=(kW cl.Table)) (x:=x.2.1) rfl) (simA_cons (sim_cls (C:=cl.Table)) simA_nil))) sim_never)),fun _ _ _ _ h=>h⟩)
def w_Board____eq____2 (K:PySem.W.Frag) (cl:Cl):(Nat×Nat)×Unit×Unit→W K Bool:=fun x=>outW (bnd (bnd (bnd (bnd (ret x.2.1) fun p4=>(bnd (bnd (ret cl.Board) fun p2=>(bnd (ret ()) fun p3=>(ret (p2,p3)))) fun p5=>(ret (p4,p5)))) fun y1=>(wAss (y1.2.1=cl.Board) (ret false))) fun v6=>(ret (!v6))) fun v15=>(wIf v15 (bnd (ret false) fun v7=>(ret (Flow.rt v7))) wDead)) none
abbrev sp_Board____eq____2 (K:PySem.W.Frag) (cl:Cl):Sp:=lift K (fun x:(Nat×Nat)×Unit×Unit=> [(k_Board K cl) x.1,(kW cl.Board) x.2.1]) kB (w_Board____eq____2 K cl)
theorem ok_Board____eq____2 (T:Tx K mg cl):FnG P w K mg base 1 T.a_Board____eq____2 T.fd_Board____eq____2 ["self","other"] (sp_Board____eq____2 K cl):=
  okL T.F_Board____eq____2 sc_Board____eq____2 (fun _=>rfl) none (fun y e=>nomatch e) (fun cdv A outer s H E hg hr=>by
    refine⟨_,pss_cons (ps_if (pt_not (pt_val (pe_callB (kx_isi (K:=K) rfl) (by rfl) T.z_isinstance bt_isinstance (pa_cons (pv 1) (pa_cons (pe_glob (v:= .ref cl.Board) rfl T.gc_Board rfl) pa_nil))))) (pss_one (ps_ret (pe_bl))) pss_nil)
    (pss_one (ps_ret (pe_and (pe_cmpR (kx_eq (K:=K) rfl hr) (pe_fldK (K:=K) rfl (pv 0)) (pe_fldK (K:=K) rfl (pv 1)) (nomark _)) (pe_one (pe_cmpR (kx_eq (K:=K) rfl hr) (pe_fldK (K:=K) rfl (pv 0)) (pe_fldK (K:=K) rfl (pv 1)) (nomark _)))))),?_⟩
    exact⟨_,fun x=>(simS_seq (simS_if le_none (simB_not (simB_B (sim_callB (cb_isW T.al_Board) (simA_cons (sim_var (i:=1) (r:=(kW cl.Board)) (x:=x.2.1) rfl) (simA_cons (sim_cls (C:=cl.Board)) simA_nil))))) (simS_ret le_none sim_b) simS_dead)),fun _ _ _ _ h=>h⟩)
def w__law_right (K:PySem.W.Frag) (cl:Cl):Addr×Int×(List ((List Int)×(List Int)))×Unit→W K Bool:=fun x=>outW (bnd (bnd (ret x.2.2.1) fun v11=>(bnd (bnd (bnd (bnd (bnd (ret x.1) fun p7=>(bnd (bnd (ret x.2.1) fun p5=>(bnd (ret ()) fun p6=>(ret (p5,p6)))) fun p8=>(ret (p7,p8)))) fun p2=>(w__law_pair K cl p2)) fun p9=>(bnd (ret ()) fun p10=>(ret (p9,p10)))) fun y1=>(ret ([y1.1]:List ((List Int)×(List Int))))) fun v12=>(wAss (v11.length+v12.length≤50000) (ret (v11++v12))))) fun (more_13:List ((List Int)×(List Int)))=>(bnd (bnd (bnd (bnd (bnd (ret x.2.1) fun p20=>(bnd (bnd (ret x.2.2.1) fun p18=>(bnd (ret ()) fun p19=>(ret (p18,p19)))) fun p21=>(ret (p20,p21)))) fun p15=>(w__law_lines K cl p15)) fun p43=>(bnd (bnd (bnd (bnd (ret x.2.1) fun p27=>(bnd (bnd (ret more_13) fun p25=>(bnd (ret ()) fun p26=>(ret (p25,p26)))) fun p28=>(ret (p27,p28)))) fun p22=>(w__law_lines K cl p22)) fun p41=>(bnd (bnd (bnd (bnd (bnd (ret x.2.1) fun v29=>(bnd (ret (1:Int)) fun v30=>(ret (v29+v30)))) fun p37=>(bnd (bnd (bnd (ret ()) fun y31=>(ret ([]:List ((List Int)×(List Int))))) fun p35=>(bnd (ret ()) fun p36=>(ret (p35,p36)))) fun p38=>(ret (p37,p38)))) fun p32=>(w__law_lines K cl p32)) fun p39=>(bnd (ret ()) fun p40=>(ret (p39,p40)))) fun p42=>(ret (p41,p42)))) fun p44=>(ret (p43,p44)))) fun (y14:(List (List Int))×(List (List Int))×(List (List Int))×Unit)=>(wNew (.lst [(kL (kL kI)) y14.1,(kL (kL kI)) y14.2.1,(kL (kL kI)) y14.2.2.1]))) fun (lines_here_45:Addr)=>(bnd (bnd (bnd (bnd (bnd (bnd (ret x.2.2.1) fun p55=>(bnd (bnd (ret more_13) fun p53=>(bnd (ret ()) fun p54=>(ret (p53,p54)))) fun p56=>(ret (p55,p56)))) fun y52=>(ret ([y52.1,y52.2.1]:List (List ((List Int)×(List Int)))))) fun y46=>(ret (y46,nI))) fun y58=>(wAss (y58.1.length≤50000) (wCalm (fmapW y58.2 (fun (x57:List ((List Int)×(List Int)))=>(ret true)) (fun (x57:List ((List Int)×(List Int)))=>(bnd (bnd (bnd (ret x.2.1) fun v59=>(ret (PyData.int v59))) fun p74=>(bnd (bnd (bnd (bnd (bnd (ret x57) fun y60=>(ret (y60,nI))) fun y62=>(wAss (y62.1.length≤50000) (wCalm (fmapW y62.2 (fun (x61:((List Int)×(List Int)))=>(ret true)) (fun (x61:((List Int)×(List Int)))=>(bnd (bnd (ret x61) fun p66=>(bnd (ret ()) fun p67=>(ret (p66,p67)))) fun p63=>(w__law_flip_of K cl p63))) y62.1)))) fun v68=>(ret (id v68))) fun p72=>(bnd (ret ()) fun p73=>(ret (p72,p73)))) fun p75=>(ret (p74,p75)))) fun p69=>(w_table_of K cl p69))) y58.1)))) (wThaw (k_Table K cl))) fun (grids_77:Addr)=>(bnd (bnd (ret grids_77) fun v78=>(wRcv (IsLst v78) (bnd (bnd (bnd (bnd (bnd (ret x.2.1) fun v80=>(bnd (ret (1:Int)) fun v81=>(ret (v80+v81)))) fun v82=>(ret (PyData.int v82))) fun p86=>(bnd (ret ()) fun p87=>(ret (p86,p87)))) fun p83=>(w_identity_table K cl p83)) fun v79=>(wApp v78 ((k_Table K cl) v79) (ret ()))))) fun _=>(bnd (bnd (bnd (bnd (bnd (ret lines_here_45) fun v90=>(bnd (ret (0:Int)) fun v91=>(wPk (kL (kL kI)) v90 fun z=>wIx z v91))) fun y88=>(ret (y88,nI))) fun y93=>(wAss (y93.1.length≤50000) (wCalm (fmapW y93.2 (fun (x92:List Int)=>(ret true)) (fun (x92:List Int)=>(bnd (bnd (bnd (ret x92) fun p95=>(bnd (ret ()) fun p96=>(ret (p95,p96)))) fun y94=>(ret y94.1)) (wThaw kI))) y93.1)))) (wThaw kRef)) fun (handed_99:Addr)=>(bnd (bnd (ret grids_77) fun v100=>(wRcv (IsLst v100) (bnd (bnd (bnd (bnd (ret handed_99) fun p105=>(bnd (ret ()) fun p106=>(ret (p105,p106)))) fun p102=>(wMk cl.Table (w_Table____init____2 K cl) p102)) (wFrz cl.Table (fs_Table K cl))) fun v101=>(wApp v100 ((k_Table K cl) v101) (ret ()))))) fun _=>(bnd (bnd (ret handed_99) fun y247=>(wPk kRef y247 fun xs=>ret (xs,Stays y247 (xs.map kRef)))) fun y249=>(bnd (forW y249.2 (fun (x248:Addr) (s107:Unit)=>(bnd (bnd (ret x248) fun v250=>(wRcv (IsLst v250) (bnd (ret (0:Int)) fun v251=>(wApp v250 (kI v251) (ret ()))))) fun _=>(ret (Flow.nx ())))) y249.1 ()) (aft fun (s107:Unit)=>(bnd (bnd (ret handed_99) fun v108=>(wRcv (IsLst v108) (wClr v108 (ret ())))) fun _=>(bnd (bnd (ret lines_here_45) fun v110=>(wRcv (IsLst v110) (bnd (bnd (ret lines_here_45) fun v113=>(bnd (ret (0:Int)) fun v114=>(wPk (kL (kL kI)) v113 fun z=>wIx z v114))) fun v111=>(wApp v110 ((kL (kL kI)) v111) (ret ()))))) fun _=>(bnd (bnd (bnd (bnd (ret grids_77) fun v181=>(bnd (ret grids_77) fun v182=>(wPk (k_Table K cl) v181 fun v183=>wPk (k_Table K cl) v182 fun v184=>wAss (v183.length+v184.length≤50000) (ret (v183++v184))))) fun p191=>(bnd (bnd (bnd (ret lines_here_45) fun v185=>(bnd (ret lines_here_45) fun v186=>(wPk (kL (kL kI)) v185 fun v187=>wPk (kL (kL kI)) v186 fun v188=>wAss (v187.length+v188.length≤50000) (ret (v187++v188))))) fun p189=>(bnd (ret ()) fun p190=>(ret (p189,p190)))) fun p192=>(ret (p191,p192)))) fun y180=>(ret (y180.1.zip y180.2.1,nI))) fun y194=>(bnd (forW y194.2 (fun (x193:((List Nat)×(List (List Int)))) (s115:Unit)=>(bnd (bnd (bnd (bnd (ret x193.1) fun p200=>(bnd (bnd (ret x193.2) fun p198=>(bnd (ret ()) fun p199=>(ret (p198,p199)))) fun p201=>(ret (p200,p201)))) fun p195=>(w__law_is_grid K cl p195)) fun v202=>(ret (!v202))) fun v246=>(wIf v246 (bnd (ret false) fun v203=>(ret (Flow.rt v203))) (bnd (bnd (bnd (ret grids_77) fun y204=>(wPk (k_Table K cl) y204 fun xs=>ret (xs,Stays y204 (xs.map (k_Table K cl))))) fun y206=>(wAss (y206.1.length≤50000) (wCalm (fmapW y206.2 (fun (x205:(List Nat))=>(ret true)) (fun (x205:(List Nat))=>(bnd (bnd (bnd (ret x193.1) fun v208=>(bnd (ret x205) fun v209=>(wCalm (w_Table____eq__ K cl (v208,v209,()))))) fun p219=>(bnd (bnd (bnd (ret x205) fun v210=>(bnd (ret x193.1) fun v211=>(wCalm (w_Table____eq__ K cl (v210,v211,()))))) fun p217=>(bnd (bnd (bnd (bnd (ret x193.1) fun v213=>(bnd (ret x205) fun v214=>(bnd (wCalm (w_Table____eq__ K cl (v213,v214,()))) fun b=>ret (!b)))) fun v212=>(ret (!v212))) fun p215=>(bnd (ret ()) fun p216=>(ret (p215,p216)))) fun p218=>(ret (p217,p218)))) fun p220=>(ret (p219,p220)))) fun y207=>(ret ([y207.1,y207.2.1,y207.2.2.1]:List Bool)))) y206.1)))) fun (told_221:List (List Bool))=>(bnd (bnd (bnd (bnd (bnd (ret told_221) fun v222=>(ret ((fun xs=>PyData.list (xs.map (fun xs=>PyData.list (xs.map PyData.bool)))) v222))) fun p224=>(bnd (ret ()) fun p225=>(ret (p224,p225)))) fun y223=>(wAss (Tame y223.1 40 50000) (ret y223.1.shown))) fun v242=>(bnd (bnd (bnd (bnd (bnd (bnd (ret lines_here_45) fun y226=>(wPk (kL (kL kI)) y226 fun xs=>ret (xs,Stays y226 (xs.map (kL (kL kI)))))) fun y228=>(wAss (y228.1.length≤50000) (wCalm (fmapW y228.2 (fun (x227:List (List Int))=>(ret true)) (fun (x227:List (List Int))=>(bnd (bnd (bnd (bnd (bnd (ret x193.2) fun v230=>(ret ((fun xs=>PyData.list (xs.map (fun xs=>PyData.list (xs.map PyData.int)))) v230))) fun v232=>(bnd (bnd (ret x227) fun v231=>(ret ((fun xs=>PyData.list (xs.map (fun xs=>PyData.list (xs.map PyData.int)))) v231))) fun v233=>(wAss (SeqAt.shaped v232=true∧SeqAt.shaped v233=true) (ret (PyData.eqv v232 v233))))) fun p234=>(bnd (ret ()) fun p235=>(ret (p234,p235)))) fun y229=>(ret ([y229.1]:List Bool))) fun v236=>(bnd (ret (3:Int)) fun v237=>(wAss (-(2 ^ 62)≤v237∧v237<2 ^ 62∧v236.length * v237.toNat≤50000) (ret (List.replicate v237.toNat v236).flatten))))) y228.1)))) fun v238=>(ret ((fun xs=>PyData.list (xs.map (fun xs=>PyData.list (xs.map PyData.bool)))) v238))) fun p240=>(bnd (ret ()) fun p241=>(ret (p240,p241)))) fun y239=>(wAss (Tame y239.1 40 50000) (ret y239.1.shown))) fun v243=>(ret (!decide (v242=v243))))) fun v245=>(wIf v245 (bnd (ret false) fun v244=>(ret (Flow.rt v244))) (ret (Flow.nx ())))))))) y194.1 ()) (aft fun (s115:Unit)=>(bnd (bnd (bnd (bnd (bnd (ret ()) fun v134=>(ret ((fun _=>PyData.none) v134))) fun v133=>(ret (Sum.inl v133:(PyData ⊕ (Nat×Nat))))) fun p157=>(bnd (bnd (bnd (bnd (ret x.2.1) fun v136=>(ret (PyData.int v136))) fun v135=>(ret (Sum.inl v135:(PyData ⊕ (Nat×Nat))))) fun p155=>(bnd (bnd (bnd (bnd (bnd (ret lines_here_45) fun v118=>(bnd (ret (0:Int)) fun v119=>(wPk (kL (kL kI)) v118 fun z=>wIx z v119))) fun v138=>(ret ((fun xs=>PyData.list (xs.map (fun xs=>PyData.list (xs.map PyData.int)))) v138))) fun v137=>(ret (Sum.inl v137:(PyData ⊕ (Nat×Nat))))) fun p153=>(bnd (bnd (bnd (bnd (bnd (bnd (bnd (ret grids_77) fun v121=>(bnd (ret (0:Int)) fun v122=>(wPk (k_Table K cl) v121 fun z=>wIx z v122))) fun p124=>(bnd (ret ()) fun p125=>(ret (p124,p125)))) fun y123=>(wCalm (w_Table____repr__ K cl y123))) fun v140=>(ret (PyData.str v140))) fun v139=>(ret (Sum.inl v139:(PyData ⊕ (Nat×Nat))))) fun p151=>(bnd (bnd (bnd (bnd (bnd (bnd (bnd (ret x.2.1) fun v126=>(ret (PyData.int v126))) fun p130=>(bnd (ret ()) fun p131=>(ret (p130,p131)))) fun p127=>(wMk cl.Board (w_Board____init__ K cl) ((fun x:PyData×Unit=>(x.1,(PyData.tuple []),())) p127))) (wFrz cl.Board (fs_Board K cl))) fun v141=>(ret (Sum.inr v141:(PyData ⊕ (Nat×Nat))))) fun p149=>(bnd (bnd (bnd (bnd (bnd (ret ()) fun y132=>(ret ([]:List PyData))) fun v143=>(ret ((fun xs=>PyData.tuple (xs.map id)) v143))) fun v142=>(ret (Sum.inl v142:(PyData ⊕ (Nat×Nat))))) fun p147=>(bnd (bnd (bnd (ret (PyData.dict [])) fun v144=>(ret (Sum.inl v144:(PyData ⊕ (Nat×Nat))))) fun p145=>(bnd (ret ()) fun p146=>(ret (p145,p146)))) fun p148=>(ret (p147,p148)))) fun p150=>(ret (p149,p150)))) fun p152=>(ret (p151,p152)))) fun p154=>(ret (p153,p154)))) fun p156=>(ret (p155,p156)))) fun p158=>(ret (p157,p158)))) fun y116=>(ret ([y116.1,y116.2.1,y116.2.2.1,y116.2.2.2.1,y116.2.2.2.2.1,y116.2.2.2.2.2.1,y116.2.2.2.2.2.2.1]:List (PyData ⊕ (Nat×Nat))))) fun (odd_159:List (PyData ⊕ (Nat×Nat)))=>(bnd (bnd (bnd (bnd (bnd (bnd (ret odd_159) fun y161=>(ret (y161,nI))) fun y163=>(wAss (y163.1.length≤50000) (wCalm (fmapW y163.2 (fun (x162:(PyData ⊕ (Nat×Nat)))=>(ret true)) (fun (x162:(PyData ⊕ (Nat×Nat)))=>(bnd (bnd (bnd (ret grids_77) fun v165=>(bnd (ret (0:Int)) fun v166=>(wPk (k_Table K cl) v165 fun z=>wIx z v166))) fun v168=>(bnd (bnd (ret x162) fun v167=>(ret ((fun _=>()) v167))) fun v169=>(wCalm (w_Table____eq____2 K cl (v168,v169,()))))) fun v175=>(wIf v175 (ret true) (bnd (ret x162) fun v173=>(bnd (bnd (ret grids_77) fun v171=>(bnd (ret (0:Int)) fun v172=>(wPk (k_Table K cl) v171 fun z=>wIx z v172))) fun v174=>(wEqGR (w_Table____eq____2 K cl) (w_Board____eq____2 K cl) v173 v174)))))) y163.1)))) fun p177=>(bnd (ret ()) fun p178=>(ret (p177,p178)))) fun y176=>(ret (y176.1.any id))) fun v160=>(ret (!v160))) fun v179=>(ret (Flow.rt v179)))))))))))))))))) none
abbrev sp__law_right (K:PySem.W.Frag) (cl:Cl):Sp:=lift K (fun x:Addr×Int×(List ((List Int)×(List Int)))×Unit=> [kRef x.1,kI x.2.1,(kL (kP (kL kI) (kL kI))) x.2.2.1]) kB (w__law_right K cl)
theorem ok__law_right (T:Tx K mg cl):FnG P w K mg base 8 T.a__law_right T.fd__law_right ["_law_pot_here","_law_width_here","_law_pairs_here"] (sp__law_right K cl):=
  okL T.F__law_right sc__law_right (fun _=>rfl) none (fun y e=>nomatch e) (fun cdv A outer s H E hg hr=>by
    refine⟨_,pss_cons (ps_set (i:=3) sc__law_right.nd rfl (by first | exact Or.inl rfl | exact Or.inr rfl) (pe_op (kx_add (K:=K) rfl) (pv 2) (pe_lst (pa_cons (pe_fnS ((ok__law_pair T).atS hg (hr.mono (by decide)) (b__law_pair T) .nil (takes_of rfl rfl rfl rfl)) rfl T.g__law_pair T.F__law_pair.kp (pa_cons (pv 0) (pa_cons (pv 1) pa_nil))) pa_nil))))
    (pss_cons (ps_set (i:=4) sc__law_right.nd rfl (by first | exact Or.inl rfl | exact Or.inr rfl) (pe_lst (pa_cons (pe_fnS ((ok__law_lines T).atS hg (hr.mono (by decide)) (b__law_lines T) .nil (takes_of rfl rfl rfl rfl)) rfl T.g__law_lines T.F__law_lines.kp (pa_cons (pv 1) (pa_cons (pv 2) pa_nil))) (pa_cons (pe_fnS ((ok__law_lines T).atS hg (hr.mono (by decide)) (b__law_lines T) .nil (takes_of rfl rfl rfl rfl)) rfl T.g__law_lines T.F__law_lines.kp (pa_cons (pv 1) (pa_cons (pv 3) pa_nil))) (pa_cons (pe_fnS ((ok__law_lines T).atS hg (hr.mono (by decide)) (b__law_lines T) .nil (takes_of rfl rfl rfl rfl)) rfl T.g__law_lines T.F__law_lines.kp (pa_cons (pe_op (kx_add (K:=K) rfl) (pv 1) (pe_int)) (pa_cons (pe_lst (pa_nil)) pa_nil))) pa_nil)))))
    (pss_cons (ps_set (i:=5) sc__law_right.nd rfl (by first | exact Or.inl rfl | exact Or.inr rfl) (pe_lc (own:= [("_law_some",6)]) (g:=gName 6) (tt:=tYes)  rfl sc__law_right.nd (pi_tupK rfl (pe_tup (pa_cons (pv 2) (pa_cons (pv 3) pa_nil)))) (blkOk_by (own:= [("_law_some",6)]) (N:=N__law_right) (sc:=defScope st__law_right) (by decide +kernel)) (fun _ _ _ _ _=>pg_name (i:=6) sc__law_right.nd rfl (by first | exact Or.inl rfl | exact Or.inr rfl)) (fun _ _ _ _ _=>pts_nil) (fun _ _ _ _ _=>pe_fnS ((ok_table_of T).atS hg (hr.mono (by decide)) (b_table_of T) .nil takes0) rfl T.g_table_of T.F_table_of.kp (pa_cons (pv 1) (pa_cons (pe_lc (own:= [("_law_pair_here",7)]) (g:=gName 7) (tt:=tYes)  rfl sc__law_right.nd (pi_listK rfl (pv 6)) (blkOk_by (own:= [("_law_pair_here",7)]) (N:=N__law_right) (sc:=relS _ (defScope st__law_right)) (by decide +kernel)) (fun _ _ _ _ _=>pg_name (i:=7) sc__law_right.nd rfl (by first | exact Or.inl rfl | exact Or.inr rfl)) (fun _ _ _ _ _=>pts_nil) (fun _ _ _ _ _=>pe_fnS ((ok__law_flip_of T).atS hg (hr.mono (by decide)) (b__law_flip_of T) .nil takes0) rfl T.g__law_flip_of T.F__law_flip_of.kp (pa_cons (pv 7) pa_nil))) pa_nil)))))
    (pss_cons (ps_expr (pe_bmK (K:=K) rfl PySem.F.plainAttrs_list PySem.F.slot_list_append PySem.F.type_list_append mt_append (pv 5) (pa_cons (pe_fnS ((ok_identity_table T).atS hg (hr.mono (by decide)) (b_identity_table T) .nil (takes_of rfl rfl rfl rfl)) rfl T.g_identity_table T.F_identity_table.kp (pa_cons (pe_op (kx_add (K:=K) rfl) (pv 1) (pe_int)) pa_nil)) pa_nil)))
    (pss_cons (ps_setLc (i:=8) (own:= [("_law_line",9)]) (g:=gName 9) (tt:=tYes)  rfl sc__law_right.nd rfl rfl (sw_true rfl rfl rfl (by decide +kernel)) (pi_listK rfl (pe_ix (kx_ix (K:=K) rfl) (pv 4) (pe_int) (fun _ _=>rfl))) (blkOk_by (own:= [("_law_line",9)]) (N:=N__law_right) (sc:=defScope st__law_right) (by decide +kernel)) (fun _ _ _ _ _=>pg_name (i:=9) sc__law_right.nd rfl (by first | exact Or.inl rfl | exact Or.inr rfl)) (fun _ _ _ _ _=>pts_nil) (fun _ _ _ _ _=>pe_callTy (kx_list (K:=K) rfl) (by rfl) T.z_list bt_list (pa_cons (pv 9) pa_nil)))
    (pss_cons (ps_expr (pe_bmK (K:=K) rfl PySem.F.plainAttrs_list PySem.F.slot_list_append PySem.F.type_list_append mt_append (pv 5) (pa_cons (pe_fnS ((ok_Table____init____2 T).make T.mk_Table__2 hg (hr.mono (by decide)) (b_Table____init____2 T) .nil (takes_of rfl rfl rfl rfl)) rfl T.gc_Table T.mk_Table__2.kp (pa_cons (pv 8) pa_nil)) pa_nil)))
    (pss_cons (ps_for (passes_of rfl) rfl (pi_listK rfl (pv 8)) (pg_name (i:=9) sc__law_right.nd rfl (by first | exact Or.inl rfl | exact Or.inr rfl))
      (pss_one (ps_expr (pe_bmK (K:=K) rfl PySem.F.plainAttrs_list PySem.F.slot_list_append PySem.F.type_list_append mt_append (pv 9) (pa_cons (pe_int) pa_nil)))))
    (pss_cons (ps_expr (pe_bm0K (K:=K) rfl PySem.F.plainAttrs_list PySem.F.slot_list_clear PySem.F.type_list_clear mt_clear (pv 8)))
    (pss_cons (ps_expr (pe_bmK (K:=K) rfl PySem.F.plainAttrs_list PySem.F.slot_list_append PySem.F.type_list_append mt_append (pv 4) (pa_cons (pe_ix (kx_ix (K:=K) rfl) (pv 4) (pe_int) (fun _ _=>rfl)) pa_nil)))
    (pss_cons (ps_for (passes_of rfl) rfl (pi_zipK (K:=K) rfl (by rfl) T.z_zip (pa_cons (pe_op (kx_add (K:=K) rfl) (pv 5) (pv 5)) (pa_cons (pe_op (kx_add (K:=K) rfl) (pv 4) (pv 4)) pa_nil))) (pg_tupK (K:=K) rfl rfl (pgs_cons (pg_name (i:=10) sc__law_right.nd rfl (by first | exact Or.inl rfl | exact Or.inr rfl)) (pgs_cons (pg_name (i:=11) sc__law_right.nd rfl (by first | exact Or.inl rfl | exact Or.inr rfl)) pgs_nil)))
      (pss_cons (ps_if (pt_not (pt_val (pe_fnS ((ok__law_is_grid T).atS hg (hr.mono (by decide)) (b__law_is_grid T) .nil (takes_of rfl rfl rfl rfl)) rfl T.g__law_is_grid T.F__law_is_grid.kp (pa_cons (pv 10) (pa_cons (pv 11) pa_nil))))) (pss_one (ps_ret (pe_bl))) pss_nil)
    (pss_cons (ps_setLc (i:=12) (own:= [("_law_other",13)]) (g:=gName 13) (tt:=tYes)  rfl sc__law_right.nd rfl rfl (sw_true rfl rfl rfl (by decide +kernel)) (pi_listK rfl (pv 5)) (blkOk_by (own:= [("_law_other",13)]) (N:=N__law_right) (sc:=defScope st__law_right) (by decide +kernel)) (fun _ _ _ _ _=>pg_name (i:=13) sc__law_right.nd rfl (by first | exact Or.inl rfl | exact Or.inr rfl)) (fun _ _ _ _ _=>pts_nil) (fun _ _ _ _ _=>pe_lst (pa_cons (pe_cmpR (op_eqI (ok_Table____eq__ T) T.eq_Table hg (hr.mono (by decide)) (b_Table____eq__ T)) (pv 10) (pv 13) (nomark _)) (pa_cons (pe_cmpR (op_eqI (ok_Table____eq__ T) T.eq_Table hg (hr.mono (by decide)) (b_Table____eq__ T)) (pv 13) (pv 10) (nomark _)) (pa_cons (pe_not (pe_cmpR (op_neI (ok_Table____eq__ T) T.eq_Table T.ty_Table hg (hr.mono (by decide)) (b_Table____eq__ T)) (pv 10) (pv 13) (nomark _))) pa_nil)))))
    (pss_one (ps_if (pt_cmpR (kx_ne (K:=K) rfl hr) (pe_callB (kx_repr (K:=K) rfl hg hr) (by rfl) T.z_repr bt_repr (pa_cons (pv 12) pa_nil)) (pe_callB (kx_repr (K:=K) rfl hg hr) (by rfl) T.z_repr bt_repr (pa_cons (pe_lc (own:= [("_law_other",13)]) (g:=gName 13) (tt:=tYes)  rfl sc__law_right.nd (pi_listK rfl (pv 4)) (blkOk_by (own:= [("_law_other",13)]) (N:=N__law_right) (sc:=defScope st__law_right) (by decide +kernel)) (fun _ _ _ _ _=>pg_name (i:=13) sc__law_right.nd rfl (by first | exact Or.inl rfl | exact Or.inr rfl)) (fun _ _ _ _ _=>pts_nil) (fun _ _ _ _ _=>pe_op op_rep (pe_lst (pa_cons (pe_cmpR (kx_eq (K:=K) rfl hr) (pv 11) (pv 13) (nomark _)) pa_nil)) (pe_int))) pa_nil)) (nomark _)) (pss_one (ps_ret (pe_bl))) pss_nil)))))
    (pss_cons (ps_set (i:=14) sc__law_right.nd rfl (by first | exact Or.inl rfl | exact Or.inr rfl) (pe_lst (pa_cons (pe_non) (pa_cons (pv 1) (pa_cons (pe_ix (kx_ix (K:=K) rfl) (pv 4) (pe_int) (fun _ _=>rfl)) (pa_cons (pe_callB (call_reprI (ok_Table____repr__ T) T.m_Table____repr__.at_ T.m_Table____repr__.fn hg (hr.mono (by decide)) (b_Table____repr__ T)) (by rfl) T.z_repr bt_repr (pa_cons (pe_ix (kx_ix (K:=K) rfl) (pv 5) (pe_int) (fun _ _=>rfl)) pa_nil)) (pa_cons (pe_fnS ((ok_Board____init__ T).make T.mk_Board hg (hr.mono (by decide)) (b_Board____init__ T).choose_spec.2 (b_Board____init__ T).choose_spec.1 (takes_of rfl rfl rfl rfl)) rfl T.gc_Board T.mk_Board.kp (pa_cons (pv 1) pa_nil)) (pa_cons (pe_tup (pa_nil)) (pa_cons (pe_dnewK) pa_nil)))))))))
    (pss_one (ps_ret (pe_not (pe_callB (kx_any (K:=K) rfl rfl) (by rfl) T.z_any bt_any (pa_cons (pe_lc (own:= [("_law_thing",15)]) (g:=gName 15) (tt:=tYes)  rfl sc__law_right.nd (pi_listK rfl (pv 14)) (blkOk_by (own:= [("_law_thing",15)]) (N:=N__law_right) (sc:=defScope st__law_right) (by decide +kernel)) (fun _ _ _ _ _=>pg_name (i:=15) sc__law_right.nd rfl (by first | exact Or.inl rfl | exact Or.inr rfl)) (fun _ _ _ _ _=>pts_nil) (fun _ _ _ _ _=>pe_or (pe_cmpR (op_eqW (K:=K) rfl (ok_Table____eq____2 T) T.eq_Table__2 hg (hr.mono (by decide)) (b_Table____eq____2 T)) (pe_ix (kx_ix (K:=K) rfl) (pv 5) (pe_int) (fun _ _=>rfl)) (pv 15) (nomark _)) (pe_one (pe_cmpR (op_eqGR (K:=K) rfl (ok_Table____eq____2 T) T.eq_Table__2 T.al_Table hg (hr.mono (by decide)) (b_Table____eq____2 T) (ok_Board____eq____2 T) T.eq_Board__2 (hr.mono (by decide)) (b_Board____eq____2 T)) (pv 15) (pe_ix (kx_ix (K:=K) rfl) (pv 5) (pe_int) (fun _ _=>rfl)) (nomark _))))) pa_nil))))))))))))))),?_⟩
    exact⟨_,fun x=>(simS_seq (simS_asg simG_name le_none (sim_op os_addL (sim_var (i:=2) (r:=(kL (kP (kL kI) (kL kI)))) (x:=x.2.2.1) rfl) (sim_lstK (r:=(kP (kL kI) (kL kI))) (fun y1:((List Int)×(List Int))×Unit=>([y1.1]:List ((List Int)×(List Int)))) (fun _=>rfl) (fun _=>(by decide:1≤50000)) (simA_cons (sim_call (cal_lift (w:=w__law_pair K cl)) (simA_cons (sim_var (i:=0) (r:=kRef) (x:=x.1) rfl) (simA_cons (sim_var (i:=1) (r:=kI) (x:=x.2.1) rfl) simA_nil))) simA_nil))) (fun (more_13:List ((List Int)×(List Int)))=>(show SimS _ _ ([some (kRef x.1),some (kI x.2.1),some ((kL (kP (kL kI) (kL kI))) x.2.2.1),some ((kL (kP (kL kI) (kL kI))) more_13),none,none,none,none,none,none,none,none,none,none,none,none]:Gm K) _ _ _ _ from (simS_seq (simS_asg simG_name le_none (sim_lstC (δ:=fun y14:(List (List Int))×(List (List Int))×(List (List Int))×Unit=> [(kL (kL kI)) y14.1,(kL (kL kI)) y14.2.1,(kL (kL kI)) y14.2.2.1]) (fun _=>(by decide:3≤50000)) (simA_cons (sim_call (cal_lift (w:=w__law_lines K cl)) (simA_cons (sim_var (i:=1) (r:=kI) (x:=x.2.1) rfl) (simA_cons (sim_var (i:=2) (r:=(kL (kP (kL kI) (kL kI)))) (x:=x.2.2.1) rfl) simA_nil))) (simA_cons (sim_call (cal_lift (w:=w__law_lines K cl)) (simA_cons (sim_var (i:=1) (r:=kI) (x:=x.2.1) rfl) (simA_cons (sim_var (i:=3) (r:=(kL (kP (kL kI) (kL kI)))) (x:=more_13) rfl) simA_nil))) (simA_cons (sim_call (cal_lift (w:=w__law_lines K cl)) (simA_cons (sim_op os_add (sim_var (i:=1) (r:=kI) (x:=x.2.1) rfl) sim_i) (simA_cons (sim_lstK (r:=(kP (kL kI) (kL kI))) (fun y31:Unit=>([]:List ((List Int)×(List Int)))) (fun _=>rfl) (fun _=>(by decide:0≤50000)) simA_nil) simA_nil))) simA_nil)))) (fun (lines_here_45:Addr)=>(show SimS _ _ ([some (kRef x.1),some (kI x.2.1),some ((kL (kP (kL kI) (kL kI))) x.2.2.1),some ((kL (kP (kL kI) (kL kI))) more_13),some (kRef lines_here_45),none,none,none,none,none,none,none,none,none,none,none]:Gm K) _ _ _ _ from (simS_seq (simS_asg simG_name le_none (sim_thaw (simN_lc (simI_tup (r:=(kL (kP (kL kI) (kL kI)))) (sim_tupK (r:=(kL (kP (kL kI) (kL kI)))) (fun y52:(List ((List Int)×(List Int)))×(List ((List Int)×(List Int)))×Unit=>([y52.1,y52.2.1]:List (List ((List Int)×(List Int))))) (fun _=>rfl) (fun _=>(by decide:2≤50000)) (simA_cons (sim_var (i:=2) (r:=(kL (kP (kL kI) (kL kI)))) (x:=x.2.2.1) rfl) (simA_cons (sim_var (i:=3) (r:=(kL (kP (kL kI) (kL kI)))) (x:=more_13) rfl) simA_nil)))) simG_name (fun _ _ hy=>hy) (fun (x57:List ((List Int)×(List Int)))=>simB_yes) (fun (x57:List ((List Int)×(List Int)))=>(sim_call (cal_lift (w:=w_table_of K cl)) (simA_cons (sim_co (sim_var (i:=1) (r:=kI) (x:=x.2.1) rfl) co_I) (simA_cons (sim_co (sim_lc (simI_list (r:=(kP (kL kI) (kL kI))) (sim_var (i:=6) (r:=(kL (kP (kL kI) (kL kI)))) (x:=x57) rfl)) simG_name (fun _ _ hy=>hy) (fun (x61:((List Int)×(List Int)))=>simB_yes) (fun (x61:((List Int)×(List Int)))=>(sim_call (cal_lift (w:=w__law_flip_of K cl)) (simA_cons (sim_var (i:=7) (r:=(kP (kL kI) (kL kI))) (x:=x61) rfl) simA_nil)))) co_LQ) simA_nil)))))) (fun (grids_77:Addr)=>(show SimS _ _ ([some (kRef x.1),some (kI x.2.1),some ((kL (kP (kL kI) (kL kI))) x.2.2.1),some ((kL (kP (kL kI) (kL kI))) more_13),some (kRef lines_here_45),some (kRef grids_77),none,none,none,none,none,none,none,none,none,none]:Gm K) _ _ _ _ from (simS_seq (simS_drop le_none (sim_append (r:=(k_Table K cl)) (sim_var (i:=5) (r:=kRef) (x:=grids_77) rfl) (sim_call (cal_lift (w:=w_identity_table K cl)) (simA_cons (sim_co (sim_op os_add (sim_var (i:=1) (r:=kI) (x:=x.2.1) rfl) sim_i) co_I) simA_nil))) (simS_seq (simS_asg simG_name le_none (sim_thaw (simN_lc (simI_list (r:=(kL kI)) (sim_op (os_ixC (r:=(kL (kL kI)))) (sim_var (i:=4) (r:=kRef) (x:=lines_here_45) rfl) sim_i)) simG_name (fun _ _ hy=>hy) (fun (x92:List Int)=>simB_yes) (fun (x92:List Int)=>(sim_thaw (simN_callB cn_listL (simA_cons (sim_var (i:=9) (r:=(kL kI)) (x:=x92) rfl) simA_nil)))))) (fun (handed_99:Addr)=>(show SimS _ _ ([some (kRef x.1),some (kI x.2.1),some ((kL (kP (kL kI) (kL kI))) x.2.2.1),some ((kL (kP (kL kI) (kL kI))) more_13),some (kRef lines_here_45),some (kRef grids_77),none,none,some (kRef handed_99),none,none,none,none,none,none,none]:Gm K) _ _ _ _ from (simS_seq (simS_drop le_none (sim_append (r:=(k_Table K cl)) (sim_var (i:=5) (r:=kRef) (x:=grids_77) rfl) (sim_frz (fs:=fs_Table K cl) (r:=(k_Table K cl)) (fun _=>rfl) (sim_call (cal_mk (w:=w_Table____init____2 K cl)) (simA_cons (sim_var (i:=8) (r:=kRef) (x:=handed_99) rfl) simA_nil)))) (simS_seq (simS_for (Gl:=(fun s107:Unit=>([some (kRef x.1),some (kI x.2.1),some ((kL (kP (kL kI) (kL kI))) x.2.2.1),some ((kL (kP (kL kI) (kL kI))) more_13),some (kRef lines_here_45),some (kRef grids_77),none,none,some (kRef handed_99),none,none,none,none,none,none,none]:Gm K))) (s0:=()) le_none (simI_cell (r:=kRef) (sim_var (i:=8) (r:=kRef) (x:=handed_99) rfl)) simG_name (.so (.so (.so (.so (.so (.so (.no (.no (.so (.no (.no (.no (.no (.no (.no (.no .nil)))))))))))))))) (fun (x248:Addr) (s107:Unit)=>(show SimS _ _ ([some (kRef x.1),some (kI x.2.1),some ((kL (kP (kL kI) (kL kI))) x.2.2.1),some ((kL (kP (kL kI) (kL kI))) more_13),some (kRef lines_here_45),some (kRef grids_77),none,none,some (kRef handed_99),some (kRef x248),none,none,none,none,none,none]:Gm K) _ _ _ _ from (simS_drop le_none (sim_append (r:=kI) (sim_var (i:=9) (r:=kRef) (x:=x248) rfl) sim_i) (simS_end (s:=(():Unit)) (.so (.so (.so (.so (.so (.so (.no (.no (.so (.no (.no (.no (.no (.no (.no (.no .nil)))))))))))))))))))) (fun (s107:Unit)=>(show SimS _ _ ([some (kRef x.1),some (kI x.2.1),some ((kL (kP (kL kI) (kL kI))) x.2.2.1),some ((kL (kP (kL kI) (kL kI))) more_13),some (kRef lines_here_45),some (kRef grids_77),none,none,some (kRef handed_99),none,none,none,none,none,none,none]:Gm K) _ _ _ _ from (simS_seq (simS_drop le_none (sim_clear (sim_var (i:=8) (r:=kRef) (x:=handed_99) rfl)) (simS_seq (simS_drop le_none (sim_append (r:=(kL (kL kI))) (sim_var (i:=4) (r:=kRef) (x:=lines_here_45) rfl) (sim_op (os_ixC (r:=(kL (kL kI)))) (sim_var (i:=4) (r:=kRef) (x:=lines_here_45) rfl) sim_i)) (simS_seq (simS_for (Gl:=(fun s115:Unit=>([some (kRef x.1),some (kI x.2.1),some ((kL (kP (kL kI) (kL kI))) x.2.2.1),some ((kL (kP (kL kI) (kL kI))) more_13),some (kRef lines_here_45),some (kRef grids_77),none,none,some (kRef handed_99),none,none,none,none,none,none,none]:Gm K))) (s0:=()) le_none (simI_zip (simA_cons (sim_new (simN_addC (r:=(k_Table K cl)) (sim_var (i:=5) (r:=kRef) (x:=grids_77) rfl) (sim_var (i:=5) (r:=kRef) (x:=grids_77) rfl))) (simA_cons (sim_new (simN_addC (r:=(kL (kL kI))) (sim_var (i:=4) (r:=kRef) (x:=lines_here_45) rfl) (sim_var (i:=4) (r:=kRef) (x:=lines_here_45) rfl))) simA_nil))) (simG_pair simG_name simG_name) (.so (.so (.so (.so (.so (.so (.no (.no (.so (.no (.no (.no (.no (.no (.no (.no .nil)))))))))))))))) (fun (x193:((List Nat)×(List (List Int)))) (s115:Unit)=>(show SimS _ _ ([some (kRef x.1),some (kI x.2.1),some ((kL (kP (kL kI) (kL kI))) x.2.2.1),some ((kL (kP (kL kI) (kL kI))) more_13),some (kRef lines_here_45),some (kRef grids_77),none,none,some (kRef handed_99),none,some ((k_Table K cl) x193.1),some ((kL (kL kI)) x193.2),none,none,none,none]:Gm K) _ _ _ _ from (simS_seq (simS_if le_none (simB_not (simB_B (sim_call (cal_lift (w:=w__law_is_grid K cl)) (simA_cons (sim_var (i:=10) (r:=(k_Table K cl)) (x:=x193.1) rfl) (simA_cons (sim_var (i:=11) (r:=(kL (kL kI))) (x:=x193.2) rfl) simA_nil))))) (simS_ret le_none sim_b) (simS_next (simS_seq (simS_asg simG_name le_none (sim_lc (simI_cell (r:=(k_Table K cl)) (sim_var (i:=5) (r:=kRef) (x:=grids_77) rfl)) simG_name (fun _ _ hy=>hy) (fun (x205:(List Nat))=>simB_yes) (fun (x205:(List Nat))=>(sim_lstK (r:=kB) (fun y207:Bool×Bool×Bool×Unit=>([y207.1,y207.2.1,y207.2.2.1]:List Bool)) (fun _=>rfl) (fun _=>(by decide:3≤50000)) (simA_cons (sim_op (os_eqO (fs:=fs_Table K cl) fun _=>rfl) (sim_var (i:=10) (r:=(k_Table K cl)) (x:=x193.1) rfl) (sim_var (i:=13) (r:=(k_Table K cl)) (x:=x205) rfl)) (simA_cons (sim_op (os_eqO (fs:=fs_Table K cl) fun _=>rfl) (sim_var (i:=13) (r:=(k_Table K cl)) (x:=x205) rfl) (sim_var (i:=10) (r:=(k_Table K cl)) (x:=x193.1) rfl)) (simA_cons (sim_notV (sim_op (os_neO (fs:=fs_Table K cl) fun _=>rfl) (sim_var (i:=10) (r:=(k_Table K cl)) (x:=x193.1) rfl) (sim_var (i:=13) (r:=(k_Table K cl)) (x:=x205) rfl))) simA_nil)))))) (fun (told_221:List (List Bool))=>(show SimS _ _ ([some (kRef x.1),some (kI x.2.1),some ((kL (kP (kL kI) (kL kI))) x.2.2.1),some ((kL (kP (kL kI) (kL kI))) more_13),some (kRef lines_here_45),some (kRef grids_77),none,none,some (kRef handed_99),none,some ((k_Table K cl) x193.1),some ((kL (kL kI)) x193.2),some ((kL (kL kB)) told_221),none,none,none]:Gm K) _ _ _ _ from (simS_if le_none (simB_test (sim_op os_neS (sim_callB cb_repr (simA_cons (sim_co (sim_var (i:=12) (r:=(kL (kL kB))) (x:=told_221) rfl) (co_LP (co_LP co_B))) simA_nil)) (sim_callB cb_repr (simA_cons (sim_co (sim_lc (simI_cell (r:=(kL (kL kI))) (sim_var (i:=4) (r:=kRef) (x:=lines_here_45) rfl)) simG_name (fun _ _ hy=>hy) (fun (x227:List (List Int))=>simB_yes) (fun (x227:List (List Int))=>(sim_new (simN_repL (sim_lstK (r:=kB) (fun y229:Bool×Unit=>([y229.1]:List Bool)) (fun _=>rfl) (fun _=>(by decide:1≤50000)) (simA_cons (sim_op os_eqP (sim_co (sim_var (i:=11) (r:=(kL (kL kI))) (x:=x193.2) rfl) (co_LP (co_LP co_I))) (sim_co (sim_var (i:=13) (r:=(kL (kL kI))) (x:=x227) rfl) (co_LP (co_LP co_I)))) simA_nil)) sim_i)))) (co_LP (co_LP co_B))) simA_nil)))) (simS_ret le_none sim_b) (simS_next (simS_end (s:=(():Unit)) (.so (.so (.so (.so (.so (.so (.no (.no (.so (.no (.no (.no (.no (.no (.no (.no .nil)))))))))))))))))))))))))))) (fun (s115:Unit)=>(show SimS _ _ ([some (kRef x.1),some (kI x.2.1),some ((kL (kP (kL kI) (kL kI))) x.2.2.1),some ((kL (kP (kL kI) (kL kI))) more_13),some (kRef lines_here_45),some (kRef grids_77),none,none,some (kRef handed_99),none,none,none,none,none,none,none]:Gm K) _ _ _ _ from (simS_seq (simS_asg simG_name le_none (sim_lstK (r:=(kG (k_Board K cl))) (fun y116:(PyData ⊕ (Nat×Nat))×(PyData ⊕ (Nat×Nat))×(PyData ⊕ (Nat×Nat))×(PyData ⊕ (Nat×Nat))×(PyData ⊕ (Nat×Nat))×(PyData ⊕ (Nat×Nat))×(PyData ⊕ (Nat×Nat))×Unit=>([y116.1,y116.2.1,y116.2.2.1,y116.2.2.2.1,y116.2.2.2.2.1,y116.2.2.2.2.2.1,y116.2.2.2.2.2.2.1]:List (PyData ⊕ (Nat×Nat)))) (fun _=>rfl) (fun _=>(by decide:7≤50000)) (simA_cons (sim_co (sim_co sim_n co_N) (co_GD (r:=(k_Board K cl)))) (simA_cons (sim_co (sim_co (sim_var (i:=1) (r:=kI) (x:=x.2.1) rfl) co_I) (co_GD (r:=(k_Board K cl)))) (simA_cons (sim_co (sim_co (sim_op (os_ixC (r:=(kL (kL kI)))) (sim_var (i:=4) (r:=kRef) (x:=lines_here_45) rfl) sim_i) (co_LP (co_LP co_I))) (co_GD (r:=(k_Board K cl)))) (simA_cons (sim_co (sim_co (sim_callB (cb_strO (fs:=fs_Table K cl) (r:=(k_Table K cl)) (w:=w_Table____repr__ K cl) (fun _=>rfl)) (simA_cons (sim_op (os_ixC (r:=(k_Table K cl))) (sim_var (i:=5) (r:=kRef) (x:=grids_77) rfl) sim_i) simA_nil)) co_S) (co_GD (r:=(k_Board K cl)))) (simA_cons (sim_co (sim_frz (fs:=fs_Board K cl) (r:=(k_Board K cl)) (fun _=>rfl) (sim_call (cal_mkD (δ':=fun x:PyData×PyData×Unit=> [kPy x.1,kPy x.2.1]) (w:=w_Board____init__ K cl) (fun x:PyData×Unit=>(x.1,(PyData.tuple []),())) [kPy (PyData.tuple [])] (fun _=>rfl) (fun _ _=>⟨_,_,rfl,(mk_dfltP T.dt_Board____init___up),rfl⟩)) (simA_cons (sim_co (sim_var (i:=1) (r:=kI) (x:=x.2.1) rfl) co_I) simA_nil))) (co_GO (r:=(k_Board K cl)))) (simA_cons (sim_co (sim_co (sim_tupK (r:=kPy) (fun y132:Unit=>([]:List PyData)) (fun _=>rfl) (fun _=>(by decide:0≤50000)) simA_nil) (co_TP co_id)) (co_GD (r:=(k_Board K cl)))) (simA_cons (sim_co sim_dnewP (co_GD (r:=(k_Board K cl)))) simA_nil)))))))) (fun (odd_159:List (PyData ⊕ (Nat×Nat)))=>(show SimS _ _ ([some (kRef x.1),some (kI x.2.1),some ((kL (kP (kL kI) (kL kI))) x.2.2.1),some ((kL (kP (kL kI) (kL kI))) more_13),some (kRef lines_here_45),some (kRef grids_77),none,none,some (kRef handed_99),none,none,none,none,none,some ((kL (kG (k_Board K cl))) odd_159),none]:Gm K) _ _ _ _ from (simS_ret le_none (sim_notV (sim_callB cb_any (simA_cons (sim_lc (simI_list (r:=(kG (k_Board K cl))) (sim_var (i:=14) (r:=(kL (kG (k_Board K cl)))) (x:=odd_159) rfl)) simG_name (fun _ _ hy=>hy) (fun (x162:(PyData ⊕ (Nat×Nat)))=>simB_yes) (fun (x162:(PyData ⊕ (Nat×Nat)))=>(sim_orV (sim_op (os_eqW (fs:=fs_Table K cl) fun _=>rfl) (sim_op (os_ixC (r:=(k_Table K cl))) (sim_var (i:=5) (r:=kRef) (x:=grids_77) rfl) sim_i) (sim_co (sim_var (i:=15) (r:=(kG (k_Board K cl))) (x:=x162) rfl) (co_WG (r:=(k_Board K cl)) (fs:=fs_Board K cl) (fun _=>rfl) T.ap_Board_Table))) (sim_op (os_eqGR (fs:=fs_Table K cl) (gs:=fs_Board K cl) (fun _=>rfl) (fun _=>rfl) T.ap_Table_Board) (sim_var (i:=15) (r:=(kG (k_Board K cl))) (x:=x162) rfl) (sim_op (os_ixC (r:=(k_Table K cl))) (sim_var (i:=5) (r:=kRef) (x:=grids_77) rfl) sim_i))))) simA_nil)))))))))))))))))))))))))))))))))))))))),fun _ _ _ _ h=>h⟩)
def w__law_pairs (K:PySem.W.Frag) (cl:Cl):Addr×Int×Int×Unit→W K (List ((List Int)×(List Int))):=fun x=>outW (bnd (bnd (bnd (bnd (bnd (bnd (ret x.1) fun p9=>(bnd (bnd (bnd (ret x.2.2.1) fun v2=>(bnd (ret (1:Int)) fun v3=>(ret (v2+v3)))) fun p7=>(bnd (ret ()) fun p8=>(ret (p7,p8)))) fun p10=>(ret (p9,p10)))) fun p4=>(w__law_draw K cl p4)) fun p11=>(bnd (ret ()) fun p12=>(ret (p11,p12)))) fun y1=>(wAss (-(2 ^ 62)≤y1.1∧y1.1<2 ^ 62) (ret (rng 0 y1.1,nI)))) fun y14=>(wAss (y14.1.length≤50000) (wCalm (fmapW y14.2 (fun (x13:Int)=>(ret true)) (fun (x13:Int)=>(bnd (bnd (ret x.1) fun p20=>(bnd (bnd (ret x.2.1) fun p18=>(bnd (ret ()) fun p19=>(ret (p18,p19)))) fun p21=>(ret (p20,p21)))) fun p15=>(w__law_pair K cl p15))) y14.1)))) fun v22=>(ret (Flow.rt v22))) none
abbrev sp__law_pairs (K:PySem.W.Frag) (cl:Cl):Sp:=lift K (fun x:Addr×Int×Int×Unit=> [kRef x.1,kI x.2.1,kI x.2.2.1]) (kL (kP (kL kI) (kL kI))) (w__law_pairs K cl)
theorem ok__law_pairs (T:Tx K mg cl):FnG P w K mg base 4 T.a__law_pairs T.fd__law_pairs ["_law_pot_here","_law_width_here","_law_most"] (sp__law_pairs K cl):=
  okL T.F__law_pairs sc__law_pairs (fun _=>rfl) none (fun y e=>nomatch e) (fun cdv A outer s H E hg hr=>by
    refine⟨_,pss_one (ps_ret (pe_lc (own:= [("_law_turn",3)]) (g:=gName 3) (tt:=tYes)  rfl sc__law_pairs.nd (pi_range1 rfl T.z_range (pa_cons (pe_fnS ((ok__law_draw T).atS hg (hr.mono (by decide)) (b__law_draw T) .nil (takes_of rfl rfl rfl rfl)) rfl T.g__law_draw T.F__law_draw.kp (pa_cons (pv 0) (pa_cons (pe_op (kx_add (K:=K) rfl) (pv 2) (pe_int)) pa_nil))) pa_nil)) (blkOk_by (own:= [("_law_turn",3)]) (N:=N__law_pairs) (sc:=defScope st__law_pairs) (by decide +kernel)) (fun _ _ _ _ _=>pg_name (i:=3) sc__law_pairs.nd rfl (by first | exact Or.inl rfl | exact Or.inr rfl)) (fun _ _ _ _ _=>pts_nil) (fun _ _ _ _ _=>pe_fnS ((ok__law_pair T).atS hg (hr.mono (by decide)) (b__law_pair T) .nil takes0) rfl T.g__law_pair T.F__law_pair.kp (pa_cons (pv 0) (pa_cons (pv 1) pa_nil))))),?_⟩
    exact⟨_,fun x=>(simS_ret le_none (sim_lc (simI_r1 (simA_cons (sim_call (cal_lift (w:=w__law_draw K cl)) (simA_cons (sim_var (i:=0) (r:=kRef) (x:=x.1) rfl) (simA_cons (sim_op os_add (sim_var (i:=2) (r:=kI) (x:=x.2.2.1) rfl) sim_i) simA_nil))) simA_nil)) simG_name (fun _ _ hy=>hy) (fun (x13:Int)=>simB_yes) (fun (x13:Int)=>(sim_call (cal_lift (w:=w__law_pair K cl)) (simA_cons (sim_var (i:=0) (r:=kRef) (x:=x.1) rfl) (simA_cons (sim_var (i:=1) (r:=kI) (x:=x.2.1) rfl) simA_nil)))))),fun _ _ _ _ h=>h⟩)
def w_law (K:PySem.W.Frag) (cl:Cl):(List Int)×Unit→W K Bool:=fun x=>outW (bnd (bnd (bnd (bnd (bnd (ret (1:Int)) fun p15=>(bnd (bnd (bnd (bnd (bnd (bnd (ret x.1) fun p5=>(bnd (ret ()) fun p6=>(ret (p5,p6)))) fun y4=>(ret (y4.1.length:Int))) fun p10=>(bnd (bnd (ret (4:Int)) fun p8=>(bnd (ret ()) fun p9=>(ret (p8,p9)))) fun p11=>(ret (p10,p11)))) fun y7=>(ret (min y7.1 y7.2.1))) fun p13=>(bnd (ret ()) fun p14=>(ret (p13,p14)))) fun p16=>(ret (p15,p16)))) fun y12=>(ret (max y12.1 y12.2.1))) fun p17=>(bnd (ret ()) fun p18=>(ret (p17,p18)))) fun y3=>(wAss (-(2 ^ 62)≤y3.1∧y3.1<2 ^ 62) (ret (rng 0 y3.1,nI)))) fun y20=>(bnd (forW y20.2 (fun (x19:Int) (s1:Unit)=>(bnd (bnd (bnd (ret x.1) fun p26=>(bnd (bnd (ret x19) fun p24=>(bnd (ret ()) fun p25=>(ret (p24,p25)))) fun p27=>(ret (p26,p27)))) fun p21=>(w__law_pot K cl p21)) fun (pot_here_28:Addr)=>(bnd (bnd (bnd (ret pot_here_28) fun p34=>(bnd (bnd (ret (10:Int)) fun p32=>(bnd (ret ()) fun p33=>(ret (p32,p33)))) fun p35=>(ret (p34,p35)))) fun p29=>(w__law_width K cl p29)) fun (width_here_36:Int)=>(bnd (bnd (bnd (bnd (ret pot_here_28) fun p53=>(bnd (bnd (ret width_here_36) fun p51=>(bnd (bnd (bnd (bnd (ret pot_here_28) fun p44=>(bnd (bnd (ret width_here_36) fun p42=>(bnd (bnd (ret (10:Int)) fun p40=>(bnd (ret ()) fun p41=>(ret (p40,p41)))) fun p43=>(ret (p42,p43)))) fun p45=>(ret (p44,p45)))) fun p37=>(w__law_pairs K cl p37)) fun p49=>(bnd (ret ()) fun p50=>(ret (p49,p50)))) fun p52=>(ret (p51,p52)))) fun p54=>(ret (p53,p54)))) fun p46=>(w__law_right K cl p46)) fun v55=>(ret (!v55))) fun v57=>(wIf v57 (bnd (ret false) fun v56=>(ret (Flow.rt v56))) (ret (Flow.nx ()))))))) y20.1 ()) (aft fun (s1:Unit)=>(bnd (ret true) fun v2=>(ret (Flow.rt v2)))))) none
abbrev sp_law (K:PySem.W.Frag) (cl:Cl):Sp:=lift K (fun x:(List Int)×Unit=> [kSc x.1]) kB (w_law K cl)
theorem ok_law (T:Tx K mg cl):FnG P w K mg base 9 T.a_law T.fd_law ["_law_script"] (sp_law K cl):=
  okL T.F_law sc_law (fun _=>rfl) none (fun y e=>nomatch e) (fun cdv A outer s H E hg hr=>by
    refine⟨_,pss_cons (ps_for (passes_of rfl) rfl (pi_range1 rfl T.z_range (pa_cons (pe_callB (call_max2 rfl) (by rfl) T.z_max bt_max (pa_cons (pe_int) (pa_cons (pe_callB (call_min2 rfl) (by rfl) T.z_min bt_min (pa_cons (pe_callB (kx_len (K:=K) rfl) (by rfl) T.z_len bt_len (pa_cons (pv 0) pa_nil)) (pa_cons (pe_int) pa_nil))) pa_nil))) pa_nil)) (pg_name (i:=1) sc_law.nd rfl (by first | exact Or.inl rfl | exact Or.inr rfl))
      (pss_cons (ps_set (i:=2) sc_law.nd rfl (by first | exact Or.inl rfl | exact Or.inr rfl) (pe_fnS ((ok__law_pot T).atS hg (hr.mono (by decide)) (b__law_pot T) .nil (takes_of rfl rfl rfl rfl)) rfl T.g__law_pot T.F__law_pot.kp (pa_cons (pv 0) (pa_cons (pv 1) pa_nil))))
    (pss_cons (ps_set (i:=3) sc_law.nd rfl (by first | exact Or.inl rfl | exact Or.inr rfl) (pe_fnS ((ok__law_width T).atS hg (hr.mono (by decide)) (b__law_width T) .nil (takes_of rfl rfl rfl rfl)) rfl T.g__law_width T.F__law_width.kp (pa_cons (pv 2) (pa_cons (pe_int) pa_nil))))
    (pss_one (ps_if (pt_not (pt_val (pe_fnS ((ok__law_right T).atS hg (hr.mono (by decide)) (b__law_right T) .nil (takes_of rfl rfl rfl rfl)) rfl T.g__law_right T.F__law_right.kp (pa_cons (pv 2) (pa_cons (pv 3) (pa_cons (pe_fnS ((ok__law_pairs T).atS hg (hr.mono (by decide)) (b__law_pairs T) .nil (takes_of rfl rfl rfl rfl)) rfl T.g__law_pairs T.F__law_pairs.kp (pa_cons (pv 2) (pa_cons (pv 3) (pa_cons (pe_int) pa_nil)))) pa_nil)))))) (pss_one (ps_ret (pe_bl))) pss_nil)))))
    (pss_one (ps_ret (pe_bl))),?_⟩
    exact⟨_,fun x=>(simS_seq (simS_for (Gl:=(fun s1:Unit=>([some (kSc x.1),none,none,none]:Gm K))) (s0:=()) le_none (simI_r1 (simA_cons (sim_callB cb_max2 (simA_cons sim_i (simA_cons (sim_callB cb_min2 (simA_cons (sim_callB cb_lenSc (simA_cons (sim_var (i:=0) (r:=kSc) (x:=x.1) rfl) simA_nil)) (simA_cons sim_i simA_nil))) simA_nil))) simA_nil)) simG_name (.so (.no (.no (.no .nil)))) (fun (x19:Int) (s1:Unit)=>(show SimS _ _ ([some (kSc x.1),some (kI x19),none,none]:Gm K) _ _ _ _ from (simS_seq (simS_asg simG_name le_none (sim_call (cal_lift (w:=w__law_pot K cl)) (simA_cons (sim_var (i:=0) (r:=kSc) (x:=x.1) rfl) (simA_cons (sim_var (i:=1) (r:=kI) (x:=x19) rfl) simA_nil))) (fun (pot_here_28:Addr)=>(show SimS _ _ ([some (kSc x.1),some (kI x19),some (kRef pot_here_28),none]:Gm K) _ _ _ _ from (simS_seq (simS_asg simG_name le_none (sim_call (cal_lift (w:=w__law_width K cl)) (simA_cons (sim_var (i:=2) (r:=kRef) (x:=pot_here_28) rfl) (simA_cons sim_i simA_nil))) (fun (width_here_36:Int)=>(show SimS _ _ ([some (kSc x.1),some (kI x19),some (kRef pot_here_28),some (kI width_here_36)]:Gm K) _ _ _ _ from (simS_if le_none (simB_not (simB_B (sim_call (cal_lift (w:=w__law_right K cl)) (simA_cons (sim_var (i:=2) (r:=kRef) (x:=pot_here_28) rfl) (simA_cons (sim_var (i:=3) (r:=kI) (x:=width_here_36) rfl) (simA_cons (sim_call (cal_lift (w:=w__law_pairs K cl)) (simA_cons (sim_var (i:=2) (r:=kRef) (x:=pot_here_28) rfl) (simA_cons (sim_var (i:=3) (r:=kI) (x:=width_here_36) rfl) (simA_cons sim_i simA_nil)))) simA_nil)))))) (simS_ret le_none sim_b) (simS_next (simS_end (s:=(():Unit)) (.so (.no (.no (.no .nil))))))))))))))))) (fun (s1:Unit)=>(show SimS _ _ ([some (kSc x.1),none,none,none]:Gm K) _ _ _ _ from (simS_ret le_none sim_b))))),fun _ _ _ _ h=>h⟩)
theorem v_is_integer_in (d:PyData) (lo hi:Int):w_is_integer_in K cl (d,lo,hi,())=ret (intIn d lo hi):=by
  unfold w_is_integer_in
  wtm_at "m"
  rw[ass_t (show IsTy "int" from .inl rfl),ass_t (show IsTy "bool" from .inr (.inl rfl))]
  cases d with
  | int i=>
    simp only[show isD (.int i) "int" =true from rfl,show isD (.int i) "bool" =false from rfl]
    wtm_at "m"
    simp only[intIn]
    by_cases h:lo≤i <;> by_cases h2:i≤hi <;> simp[h,h2]
  | bool b=>simp only[show isD (.bool b) "int" =true from rfl,show isD (.bool b) "bool" =true from rfl];wtm_at "m";rfl
  | _=>rfl
theorem v_is_cell (d:PyData) (s:Int):w_is_cell K cl (d,s,())=ret (intIn d 0 (s - 1)):=by
  unfold w_is_cell
  wtm_at "m"
  simp only[v_is_integer_in]
theorem v_require_size (d:PyData):w_require_size K cl (d,())=wIf (intIn d 1 40) (ret ()) (wRaise (cl.NoSize,[("value",kPy d)])):=by
  unfold w_require_size
  wtm_at "m"
  simp only[v_is_integer_in]
  wtm_at "m"
theorem v_mask_of_cells {ns:List Int} (h: ∀n∈ns,0≤n∧n<64) (hl:ns.length≤50000):w_mask_of_cells K cl (ns,())=ret (maskI ns):=by
  unfold w_mask_of_cells
  wtm_at "m"
  rw[ass_t hl,fmap_all (f':=fun n=>(1:Int) * 2 ^ n.toNat)]
  · wtm_at "m";rfl
  · intro n hn
    exact ass_t (cpow (h n hn).1 (by have:=h n hn;omega) (by decide))
theorem v_cells_in_cells {m:Nat} (h:m<2 ^ 64):w_cells_in_cells K cl ((m:Int),())=ret (bitsL m):=by
  have hf:=bits_fit h
  unfold w_cells_in_cells
  wtm_at "m"
  rw[ass_t (by omega),rng_0,ass_t (by simp[intsTo];omega),fmap_filt (c':=fun i=>m.testBit i.toNat)]
  · wtm_at "m"
    simp only[bitsL,intsTo,List.filter_map]
    rw[filter_bits bits_over hf]
    rfl
  · intro i hi
    obtain⟨h0,_⟩:=mem_intsTo.mp hi
    show wAss _ _=_
    rw[ass_t h0,bit_at]
theorem v_is_odd {m:Nat} {S:Store K}:Spec (w_is_odd K cl ((m:Int),())) S (· =oddN m):=by
  intro Q E q
  unfold w_is_odd
  wtm_at "m"
  refine while_eq (fun s=> ∃r:Nat,s.1=(r:Int)∧(s.2.1 !=oddN r)=oddN m) (fun s=>s.1.toNat) (g:=fun s=>(Builtin.bitAnd s.1 (s.1 - 1),!s.2.1,())) ?_ ⟨m,rfl,by simp⟩ ?_
  · rintro ⟨s,f,⟨⟩⟩ ⟨r,hr,hf⟩ hb
    simp only at hr hf hb
    subst hr
    have r0:0<r:=by simpa using hb
    have hp:=pop_less r r0
    have e:((r:Int) - 1)=((r - 1:Nat):Int):=by omega
    refine⟨rfl,⟨r &&& (r - 1),by simp only[e,and_nn],?_⟩,?_⟩
    · rw[← hf]
      have:oddN (r &&& (r - 1))= !oddN r:=by
        unfold oddN
        rw[← hp]
        by_cases h:pop (r &&& (r - 1)) % 2=1
        · simp[h];omega
        · simp[h];omega
      rw[this]
      cases f <;> cases oddN r <;> rfl
    · simp only[e,and_nn,Int.toNat_natCast]
      have:=Nat.and_le_right (n:=r) (m:=r - 1)
      omega
  · rintro ⟨s,f,⟨⟩⟩ ⟨r,hr,hf⟩ hb
    simp only at hr hf hb
    subst hr
    have r0:r=0:=by
      have: ¬ 0<r:=by simpa using hb
      omega
    subst r0
    refine q _ ?_
    rw[← hf]
    show f=(f !=oddN 0)
    rw[show oddN 0=false by decide +kernel]
    cases f <;> rfl
theorem v_cell_tuple {d:PyData} {s:Int} (hl: ∀ds,seqD d=some ds→ds.length≤50000):w_cell_tuple K cl (d,s,())=(match cellsD d s with | some ts=>ret ts | none=>wRaise (cl.NoCells,[("cells",kPy d)])):=by
  unfold w_cell_tuple
  wtm_at "m"
  cases hs:(isD d "list" || isD d "tuple") with
  | false=>rw[cellsD_no hs];wtm_at "m"
  | true=>
    obtain⟨ds,hd⟩:=seq_yes hs
    wtm_at "m"
    rw[cellsD_seq hd,seq_of hd]
    wtm_at "m"
    rw[ass_t (hl _ hd),fmap_all (f':=fun x=>intIn x 0 (s - 1)) (fun x _=>v_is_cell x s)]
    wtm_at "m"
    simp only[List.all_map,Function.comp_def,id]
    cases ha:ds.all (fun x=>intIn x 0 (s - 1)) with
    | false=>
      wtm_at "m"
      simp only[areCells,ha,Bool.false_and]
      rfl
    | true=>
      wtm_at "m"
      have e:=intsOf ha
      rw[sortPy_of (ns:=intsD ds) (by rw[hd];exact congrArg some e)]
      wtm_at "m"
      have hl2:(isort (intsD ds)).length≤50000:=by
        have h1:=(isort_perm (intsD ds)).length_eq
        have h2:ds.length=(intsD ds).length:=by conv=>lhs;rw[e];rw[List.length_map]
        have:=hl _ hd
        omega
      have es:sli (isort (intsD ds)) (some 1) none=(isort (intsD ds)).drop 1:=sli_one _
      rw[es,ass_t (by rw[List.length_zip];omega),fmap_ret]
      wtm_at "m"
      simp only[List.all_map,Function.comp_def,id]
      have hn:=asc_nodup (isort_le (intsD ds))
      simp only[areCells,ha,Bool.true_and]
      by_cases nd:(intsD ds).Nodup
      · rw[hn.mpr ((isort_perm _).nodup_iff.mpr nd)]
        simp only[nd,decide_true]
        wtm_at "m"
      · rw[Bool.eq_false_iff.mpr fun h=>nd ((isort_perm _).nodup_iff.mp (hn.mp h))]
        simp only[nd,decide_false]
        wtm_at "m"
        rfl
theorem v_cell_mask {d:PyData} {s:Int} (hs:s≤64) (hl: ∀ds,seqD d=some ds→ds.length≤50000):w_cell_mask K cl (d,s,())=(match cellsD d s with | some ts=>ret (maskI ts) | none=>wRaise (cl.NoCells,[("cells",kPy d)])):=by
  unfold w_cell_mask
  wtm_at "m"
  rw[v_cell_tuple hl]
  cases e:cellsD d s with
  | none=>rfl
  | some ts=>
    wtm_at "m"
    rw[v_mask_of_cells (fun n hn=>by have:=(cells_range e).1 n hn;omega) (cells_len e hl)]
theorem v_Board {d u:PyData} {n:Nat} {ts:List Int} {S:Store K} (hd:d= .int n) (h1:1≤n) (h2:n≤40) (hu:cellsD u n=some ts) (hl: ∀ds,seqD u=some ds→ds.length≤50000):
    Spec (bnd (wMk cl.Board (w_Board____init__ K cl) (d,u,())) (wFrz cl.Board (fs_Board K cl))) S (· =(n,(maskI ts).toNat ||| 1)):=by
  subst hd
  intro Q E q
  refine mkfrz fun a ha=> ?_
  unfold w_Board____init__
  wtm_at "m"
  rw[v_require_size,show intIn (.int n) 1 40=true by simp[intIn];omega]
  wtm_at "m"
  refine setF_ap set_same (by show (0:Nat)<1000;omega) ?_
  rw[v_cell_mask (by omega) hl,hu]
  wtm_at "m"
  refine setF_ap set_same (by show (1:Nat)<1000;omega) ?_
  rw[set_set,set_set]
  refine⟨(n,(maskI ts).toNat ||| 1),?_,?_⟩
  · rw[set_same,← Int.toNat_of_nonneg (maskI_nn ts)]
    exact congrArg (fun z=>some (Cell.ins cl.Board [(("own_size" :Str),kI (n:Int)),(("up_mask" :Str),kI z)])) (or_nn (maskI ts).toNat 1)
  · rw[set_del,del_none ha];exact q _ rfl
theorem v_Board__size (n m:Nat):w_Board__size K cl ((n,m),())=ret (n:Int):=by
  unfold w_Board__size
  wtm_at "m"
theorem v_Flip {d u:PyData} {ts gs:List Int} {S:Store K} (hd:cellsD d 40=some ts) (hu:cellsD u 40=some gs) (ok:FlipOk (maskI ts).toNat (maskI gs).toNat)
    (hl: ∀ds,seqD d=some ds→ds.length≤50000) (hl': ∀ds,seqD u=some ds→ds.length≤50000):
    Spec (bnd (wMk cl.Flip (w_Flip____init__ K cl) (d,u,())) (wFrz cl.Flip (fs_Flip K cl))) S (· =((maskI ts).toNat,(maskI gs).toNat)):=by
  intro Q E q
  refine mkfrz fun a ha=> ?_
  unfold w_Flip____init__
  wtm_at "m"
  rw[v_cell_mask (by omega) hl,hd]
  wtm_at "m"
  refine setF_ap set_same (by show (0:Nat)<1000;omega) ?_
  rw[v_cell_mask (by omega) hl',hu]
  wtm_at "m"
  refine setF_ap set_same (by show (1:Nat)<1000;omega) ?_
  rw[set_set,set_set]
  refine getF_ap (x:=maskI gs) set_same rfl ?_
  have eg:Builtin.bitAnd (maskI gs) 1=0:=by
    rw[← Int.toNat_of_nonneg (maskI_nn gs),show (1:Int)=((1:Nat):Int) from rfl,and_nn]
    have h:=ok.fix
    rw[Nat.testBit_zero] at h
    have h2:(maskI gs).toNat &&& 1=0:=by rw[Nat.and_one_is_mod];have:=of_decide_eq_false h;omega
    rw[h2];rfl
  rw[eg,show decide ((0:Int)=1)=false by decide]
  wtm_at "m"
  refine getF_ap (x:=maskI ts) set_same rfl ?_
  refine getF_ap (x:=maskI gs) set_same rfl ?_
  rw[← Int.toNat_of_nonneg (maskI_nn gs),← Int.toNat_of_nonneg (maskI_nn ts),and_nn]
  refine v_is_odd.ap fun y e=> ?_
  rw[e,ok.ev]
  wtm_at "m"
  refine⟨((maskI ts).toNat,(maskI gs).toNat),set_same,?_⟩
  rw[set_del,del_none ha];exact q _ rfl
theorem v_Flip__tested {t g:Nat} (h:t<2 ^ 64):w_Flip__tested K cl ((t,g),())=ret (bitsL t):=by
  unfold w_Flip__tested
  wtm_at "m"
  rw[v_cells_in_cells h]
  wtm_at "m"
theorem v_Flip__toggled {t g:Nat} (h:g<2 ^ 64):w_Flip__toggled K cl ((t,g),())=ret (bitsL g):=by
  unfold w_Flip__toggled
  wtm_at "m"
  rw[v_cells_in_cells h]
  wtm_at "m"
theorem v_Flip__width (t g:Nat):w_Flip__width K cl ((t,g),())=ret (widM t g:Int):=by
  unfold w_Flip__width
  wtm_at "m"
  rw[or_nn]
  refine congrArg TL.ret ?_
  unfold widM
  omega
theorem v_mask_of_sequences {ns:List Int} (h: ∀n∈ns,0≤n∧n<64) (hl:ns.length≤50000):w_mask_of_sequences K cl (ns,())=ret (maskI ns):=by
  unfold w_mask_of_sequences
  wtm_at "m"
  rw[ass_t hl,fmap_all (f':=fun n=>(1:Int) * 2 ^ n.toNat)]
  · wtm_at "m";rfl
  · intro n hn
    exact ass_t (cpow (h n hn).1 (by have:=h n hn;omega) (by decide))
theorem v_cells_in_sequences {m:Nat} (h:m<2 ^ 64):w_cells_in_sequences K cl ((m:Int),())=ret (bitsL m):=by
  have hf:=bits_fit h
  unfold w_cells_in_sequences
  wtm_at "m"
  rw[ass_t (by omega),rng_0,ass_t (by simp[intsTo];omega),fmap_filt (c':=fun i=>m.testBit i.toNat)]
  · wtm_at "m"
    simp only[bitsL,intsTo,List.filter_map]
    rw[filter_bits bits_over hf]
    rfl
  · intro i hi
    obtain⟨h0,_⟩:=mem_intsTo.mp hi
    show wAss _ _=_
    rw[ass_t h0,bit_at]
theorem tab_uniq {n:Nat} {fl:List (Nat×Nat)} {ms ns:List Nat} (n1:1≤n) (h:TabInv n fl ms) (g:TabInv n fl ns):ms=ns:=by
  refine List.ext_getElem (h.len.trans g.len.symm) fun i h1 h2=> ?_
  have a:ms.getD i 0=ms[i]:=by rw[List.getD_eq_getElem?_getD,List.getElem?_eq_getElem h1];rfl
  have b:ns.getD i 0=ns[i]:=by rw[List.getD_eq_getElem?_getD,List.getElem?_eq_getElem h2];rfl
  have la:=h.lt _ (List.getElem_mem h1)
  have lb:=g.lt _ (List.getElem_mem h2)
  have hi:i<n:=by have:=h.len;omega
  refine Nat.eq_of_testBit_eq fun j=> ?_
  by_cases hj:j<n
  · have ev:((List.range n).map fun i=>2 ^ i).getD j 0=2 ^ j:=by
      rw[List.getD_eq_getElem?_getD,List.getElem?_map,List.getElem?_range hj];rfl
    have t1:=(tab_start n1).ok ms[i] j hj
    have t2:=(tab_start n1).ok ns[i] j hj
    rw[ev,Nat.and_comm] at t1 t2
    have o1:=h.ok (2 ^ j) i hi
    have o2:=g.ok (2 ^ j) i hi
    rw[a] at o1
    rw[b] at o2
    rw[show ms[i].testBit j=oddN (ms[i] &&& 2 ^ j) from t1.symm,show ns[i].testBit j=oddN (ns[i] &&& 2 ^ j) from t2.symm,o1,o2]
  · have p:2 ^ n≤2 ^ j:=Nat.pow_le_pow_right (by decide) (by omega)
    rw[Nat.testBit_lt_two_pow (Nat.lt_of_lt_of_le la p),Nat.testBit_lt_two_pow (Nat.lt_of_lt_of_le lb p)]
def EchD:Ech→Prop
  | []=>True
  | (L,r,_)::E=>EchGet E L=none∧L=bln r∧r≠0∧EchD E
theorem spn_less {E:Ech} {L r u m i:Nat} (h:Spn ((L,r,u)::E) m i): ∃i',Spn E m i'∨Spn E (m ^^^ r) i':=by
  induction h with
  | zero=>exact⟨0,.inl .zero⟩
  | @add L' r' u' m i hm _ ih=>
    rcases List.mem_cons.mp hm with z | z
    · cases z
      obtain⟨i',h | h⟩:=ih
      · exact⟨i',.inr (by rwa [Nat.xor_assoc,Nat.xor_self,Nat.xor_zero])⟩
      · exact⟨i',.inl h⟩
    · obtain⟨i',h | h⟩:=ih
      · exact⟨_,.inl (.add z h)⟩
      · refine⟨i' ^^^ u',.inr ?_⟩
        rw[Nat.xor_assoc,Nat.xor_comm r',← Nat.xor_assoc]
        exact .add z h
theorem bln_max {s r:Nat} (h:bln s<bln r):bln (s ^^^ r)=bln r:=by
  have a:s<2 ^ bln r:=bln_le.mp (by omega)
  have b:r<2 ^ bln r:=bln_le.mp (Nat.le_refl _)
  have c:bln (s ^^^ r)≤bln r:=bln_le.mpr (Nat.xor_lt_two_pow a b)
  by_cases d:bln (s ^^^ r)=bln r
  · exact d
  · have e:s<2 ^ (bln r - 1):=bln_le.mp (by omega)
    have f:s ^^^ r<2 ^ (bln r - 1):=bln_le.mp (by omega)
    have g:=Nat.xor_lt_two_pow e f
    rw[← Nat.xor_assoc,Nat.xor_self,Nat.zero_xor] at g
    have:=bln_le.mpr g
    omega
theorem EchD.top: ∀ {E:Ech} {m i:Nat},EchD E→Spn E m i→m≠0→EchGet E (bln m)≠none
  | [],m,i,_,s,h,_=>by
    cases s with
    | zero=>exact h rfl
    | add hm _=>cases hm
  | (L,r,u)::E,m,i,⟨d1,d2,d3,d4⟩,s,h,z=>by
    rw[EchGet.cons] at z
    by_cases e:bln m=L
    · rw[if_pos e] at z;cases z
    · rw[if_neg e] at z
      obtain⟨i',s' | s'⟩:=spn_less s
      · exact EchD.top d4 s' h z
      · by_cases w:m ^^^ r=0
        · have:m=r:=by have:=congrArg (· ^^^ r) w;simpa [Nat.xor_assoc] using this
          exact e (by rw[this,d2])
        · have t:=EchD.top d4 s' w
          have n:bln (m ^^^ r)≠bln r:=fun q=>t (by rw[q,← d2];exact d1)
          rcases Nat.lt_or_gt_of_ne n with l | l
          · have:=bln_max l
            rw[Nat.xor_assoc,Nat.xor_self,Nat.xor_zero] at this
            exact e (by rw[this,d2])
          · have:=bln_max l
            rw[Nat.xor_comm r,Nat.xor_assoc,Nat.xor_self,Nat.xor_zero] at this
            exact t (by rw[← this];exact z)
structure EliS (cl:Cl) (S:Store K) (a q:Addr) (E:Ech):Prop where
  ins:S a=some (.ins cl.Elimination [("pivots",kRef q)])
  ne:q≠a
  dic: ∃es,S q=some (.dic es)∧es.length≤E.length∧ ∀L:Nat,valK es (.inl (L:Int))=(EchGet E L).map fun x=>kP kI kI ((x.1:Int),(x.2:Int))
  ok:EchOk E
theorem v_reduced {S:Store K} {a q:Addr} {E:Ech} {m i:Nat} {Q:Int×Int→Store K→Prop} {R:Err K→Store K→Prop} (h:EliS cl S a q E) (hm:m<2 ^ 40)
    (hQ: ∀m' i':Nat,Spn E (m ^^^ m') (i ^^^ i')→EchGet E (bln m')=none→m'<2 ^ 40→Q ((m':Int),(i':Int)) S):w_Elimination__reduced K cl (a,(m:Int),(i:Int),()) Q R S:=by
  obtain⟨es,he,hl,hv⟩:=h.dic
  unfold w_Elimination__reduced
  wtm_at "m"
  refine while_ap (fun n s S'=>S'=S∧ ∃m' i':Nat,s=((m':Int),(i':Int),())∧n=bln m'∧Spn E (m ^^^ m') (i ^^^ i')∧m'<2 ^ 40) (bln m) ⟨rfl,m,i,rfl,rfl,by rw[Nat.xor_self,Nat.xor_self];exact .zero,hm⟩ ?_
  rintro n s S' ⟨rfl,m',i',rfl,rfl,hs,lm⟩
  refine⟨(EchGet E (bln m')).isSome,fun R r=> ?_,fun hb N hN=> ?_,fun hb=> ?_⟩
  · refine getF_ap h.ins (x:=q) rfl (has_ap he ?_)
    show R (valK es (.inl (bln m':Int))).isSome S'
    rw[hv,Option.isSome_map]
    exact r
  · obtain⟨⟨x,u⟩,g⟩:=Option.isSome_iff_exists.mp hb
    obtain⟨r0,rl,r40⟩:=h.ok.ok _ _ _ (EchGet.mem g)
    refine getF_ap h.ins (x:=q) rfl (getK_ap he (x:=((x:Int),(u:Int))) (by show valK es (.inl (bln m':Int))=_;rw[hv,g];rfl) ?_)
    show N (Builtin.bitXor (m':Int) (x:Int),Builtin.bitXor (i':Int) (u:Int),()) S'
    rw[xor_nn,xor_nn]
    refine hN _ _ _ (bln_xor (m:=m') (r:=x) rl.symm r0) ⟨rfl,m' ^^^ x,i' ^^^ u,rfl,rfl,?_,Nat.xor_lt_two_pow lm r40⟩
    rw[← Nat.xor_assoc,← Nat.xor_assoc]
    exact .add (EchGet.mem g) hs
  · exact hQ m' i' hs (by simpa using hb) lm
theorem v_take {S:Store K} {a q:Addr} {E:Ech} {m i:Nat} {Q:Bool→Store K→Prop} {R:Err K→Store K→Prop} (h:EliS cl S a q E) (hm:m<2 ^ 40) (hl:E.length≤1000)
    (q0: ∀u,Spn E m (i ^^^ u)→Q false S)
    (q1: ∀r u,r≠0→EchGet E (bln r)=none→Spn E (m ^^^ r) (i ^^^ u)→ ∀S',EliS cl S' a q ((bln r,r,u)::E)→(∀p,p≠q→S' p=S p)→Q true S'):w_Elimination__take K cl (a,(m:Int),(i:Int),()) Q R S:=by
  obtain⟨es,he,hle,hv⟩:=h.dic
  unfold w_Elimination__take
  wtm_at "m"
  refine⟨⟨_,h.ins,rfl⟩,?_⟩
  refine v_reduced h hm fun m' i' hs hg lm=> ?_
  by_cases e:m'=0
  · subst e
    rw[Nat.xor_zero] at hs
    exact q0 i' hs
  · show (wIf (decide ((m':Int)=0)) _ _:W K Bool) Q R S
    rw[decide_eq_false (by omega),if_f]
    refine getF_ap h.ins (x:=q) rfl ?_
    refine putK_ap he (by omega) (q1 m' i' e hg hs _ ⟨?_,h.ne,⟨_,set_same,?_,fun L=> ?_⟩,h.ok.cons e lm⟩ fun p hp=>set_ne hp)
    · rw[set_ne h.ne.symm];exact h.ins
    · rw[List.length_cons];exact Nat.le_trans putD_len (by omega)
    · rw[valK_put,EchGet.cons,hv]
      by_cases z:L=bln m'
      · subst z;exact (if_pos rfl).trans (by rw[if_pos rfl];rfl)
      · rw[if_neg z,if_neg (fun y=>z (by have:=Sum.inl.inj y;exact Int.ofNat.inj this))]
structure RowsT (d:PyData) (ms:List Nat):Prop where
  ex: ∃ds,seqD d=some ds∧All2 (fun e m=>cellsD e ms.length=some (bitsL m)∧m<2 ^ 40∧ ∀es,seqD e=some es→es.length≤50000) ds ms
  n1:1≤ms.length
  n40:ms.length≤40
theorem v_row_masks {d:PyData} {ms:List Nat} {S:Store K} (h:RowsT d ms):Spec (w_row_masks K cl (d,())) S (· =intsN ms):=by
  obtain⟨ds,hs,hr⟩:=h.ex
  have hl:=hr.len
  have n1:=h.n1
  have n40:=h.n40
  unfold w_row_masks
  wtm_at "m"
  rw[seqD_is hs]
  wtm_at "m"
  simp only[seq_of hs]
  wtm_at "m"
  rw[decide_eq_true (show (1:Int)≤ds.length by omega),decide_eq_true (show (ds.length:Int)≤40 by omega)]
  wtm_at "m"
  refine Spec.bnd (R:=fun y=>y=Flow.rt (intsN ms)) (Spec.try (Spec.ass (by omega) ?_)) fun y hy=> ?_
  · refine (Spec.fmap (P:=fun e y=>y=maskI ((cellsD e ds.length).getD [])) fun e he=> ?_).bndc fun ys hy=>Spec.ret ?_
    · obtain⟨m,_,h1,h2,h3⟩:=hr.memL he
      rw[← hl,v_cell_tuple h3,h1]
      wtm_at "m"
      rw[v_mask_of_sequences (fun k hk=>by have:=bits_mem hk;omega) (by have:=bits_len m;omega)]
      exact Spec.ret rfl
    · rw[hy.eqmap fun _ _ h=>h]
      refine congrArg Flow.rt (hr.map fun e m ⟨h1,h2,_⟩=> ?_)
      rw[← hl,h1]
      show maskI (bitsL m)=_
      rw[maskN (ns:=bitsL m),mask_bits (Nat.lt_of_lt_of_le h2 (by decide))]
  · subst hy
    exact Spec.ret rfl
theorem v_are_invertible {ms:List Nat} {S:Store K} (hl:ms.length≤1000) (hm: ∀m∈ms,m<2 ^ 40) (hf:Free ms):SpecX (w_are_invertible K cl (intsN ms,())) S (· =true):=by
  intro Q R q
  unfold w_are_invertible
  wtm_at "m"
  refine mk_ap fun a ha=> ?_
  unfold w_Elimination____init__
  wtm_at "m"
  refine new_ap fun d hd=> ?_
  have da:d≠a:=fun z=>by rw[z,set_same] at hd;cases hd
  have hd0:S d=none:=by rwa [set_ne da] at hd
  refine setF_ap (fs:= []) (by rw[set_ne da.symm,set_same]) (by show (0:Nat)<1000;omega) ?_
  have e0:EliS cl (((S.set a (.ins cl.Elimination [])).set d (.dic [])).set a (.ins cl.Elimination (setF "pivots" (kRef d) []))) a d []:=
    ⟨set_same,da,⟨[],by rw[set_ne da,set_same],by simp,fun L=>rfl⟩,⟨fun L r u m=>by cases m⟩⟩
  have x0:Ext S (((S.set a (.ins cl.Elimination [])).set d (.dic [])).set a (.ins cl.Elimination (setF "pivots" (kRef d) []))):=((Ext.set ha).over hd0).over ha
  generalize ((S.set a (.ins cl.Elimination [])).set d (.dic [])).set a (.ins cl.Elimination (setF "pivots" (kRef d) []))=S1 at e0 x0
  refine⟨by rw[intsN,List.length_map];omega,?_⟩
  refine fmap_ap (fun i ys S'=> ∃E,EliS cl S' a d E∧E.length=i∧ys=List.replicate i true∧Ext S S'∧ ∀L r u,(L,r,u)∈E→ ∀b,(∀(j:Nat) (hj:j<ms.length),j<i→oddN (ms[j] &&& b)=false)→oddN (r &&& b)=false) ?_ ?_ ⟨[],e0,rfl,rfl,x0,fun L r u m=>by cases m⟩
  · rintro i y ys S' N hy ⟨E,hE,hEl,rfl,hx,hev⟩ hN
    refine⟨trivial,?_⟩
    rw[ret_bnd,if_t]
    have hi':i<ms.length:=by
      have:=(List.getElem?_eq_some_iff.mp hy).1
      rwa [intsN,List.length_map] at this
    rw[intsN,List.getElem?_map,List.getElem?_eq_getElem hi'] at hy
    obtain rfl:=Option.some.inj hy
    refine⟨⟨_,hE.ins,rfl⟩,?_⟩
    refine v_take hE (hm _ (List.getElem_mem hi')) (by omega) (fun u hs=> ?_) (fun r u r0 _ hs S2 e2 hp=> ?_)
    · obtain⟨b,f1,f2⟩:=hf i hi'
      have z:=hs.even (b:=b) (fun L r u m=>hev L r u m b fun j hj hji=>f1 j hji)
      rw[z] at f2
      cases f2
    · refine hN _ _ ⟨_,e2,by simp;omega,by rw[List.replicate_succ'],fun p c e=> ?_,fun L r' u' mm b hb=> ?_⟩
      · have pd:p≠d:=fun z=>by rw[z,hd0] at e;cases e
        rw[hp p pd];exact hx p c e
      · have old: ∀L r u,(L,r,u)∈E→oddN (r &&& b)=false:=fun L r u m=>hev L r u m b fun j hj hji=>hb j hj (by omega)
        rcases List.mem_cons.mp mm with z | z
        · cases z
          have z:=hs.even (b:=b) old
          rw[and_xor_dist,oddN_xor,hb i hi' (by omega)] at z
          simpa using z
        · exact old _ _ _ z
  · rintro ys S' ⟨E,hE,hEl,rfl,hx,hev⟩
    refine⟨trivial,?_⟩
    show Q ((List.replicate (intsN ms).length true).all id) S'
    rw[show (List.replicate (intsN ms).length true).all id=true by simp]
    exact q _ _ hx rfl
theorem v_Table {d:PyData} {ms:List Nat} {S:Store K} (h:RowsT d ms) (h0:ms[0]?=some 1) (hf:Free ms):SpecX (bnd (wMk cl.Table (w_Table____init__ K cl) (d,())) (wFrz cl.Table (fs_Table K cl))) S (· =ms):=by
  obtain⟨ds,hs,hr⟩:=h.ex
  have n1:=h.n1
  have n40:=h.n40
  refine mkfrzX fun a Q E ha q=> ?_
  unfold w_Table____init__
  wtm_at "m"
  refine (v_row_masks h).ap fun y hy=> ?_
  subst hy
  rw[ix_eq (x:=1) (by omega) (by rw[intsN,Int.toNat_zero,List.getElem?_map,h0];rfl)]
  wtm_at "m"
  refine (v_are_invertible (by omega) (fun m hm=>by obtain⟨_,_,_,h,_⟩:=hr.mem hm;exact h) hf).ap fun y S' x hy=> ?_
  subst hy
  rw[if_t]
  exact setF_ap (fs:= []) (x a _ set_same) (by show (0:Nat)<1000;omega) (q ms S' x rfl)
theorem tab_rowsL {n:Nat} {fl:List (Nat×Nat)} {ms:List Nat} (n1:1≤n) (n40:n≤40) (h:TabInv n fl ms):RowsT (.list ((ms.map bitsL).map fun xs=> .list (xs.map .int))) ms:=by
  have len:=h.len
  refine⟨⟨_,rfl,?_⟩,by omega,by omega⟩
  rw[List.map_map]
  refine All2.ofL fun m hm=>⟨?_,Nat.lt_of_lt_of_le (h.lt m hm) (Nat.pow_le_pow_right (by decide) n40),fun es e=> ?_⟩
  · rw[len]
    exact (cells_asc (fun k hk=>bits_below (h.lt m hm) hk) (bits_asc m)).2
  · cases e;rw[List.length_map];have:=bits_len m;omega
theorem tab_first {n:Nat} {fl:List (Nat×Nat)} {ms:List Nat} (n1:1≤n) (h:TabInv n fl ms):ms[0]?=some 1:=by
  have h0:=h.first
  have len:=h.len
  rw[List.getD_eq_getElem?_getD,List.getElem?_eq_getElem (by omega)] at h0
  rw[List.getElem?_eq_getElem (by omega)]
  exact congrArg some h0
theorem v_Table__size (ms:List Nat):w_Table__size K cl (ms,())=ret (ms.length:Int):=by
  unfold w_Table__size
  wtm_at "m"
  rw[List.length_map]
theorem v_Table__row {ms:List Nat} {i:Nat} (h:i<ms.length) (lt:ms.getD i 0<2 ^ 64):w_Table__row K cl (ms,.int i,())=ret (bitsL (ms.getD i 0)):=by
  unfold w_Table__row
  wtm_at "m"
  rw[v_is_cell,List.length_map,show intIn (.int i) 0 ((ms.length:Int) - 1)=true by simp[intIn];omega]
  wtm_at "m"
  rw[ix_eq (x:=((ms.getD i 0:Nat):Int)) (by omega) (by rw[Int.toNat_natCast,List.getElem?_map,List.getElem?_eq_getElem h,List.getD_eq_getElem?_getD,List.getElem?_eq_getElem h];rfl)]
  wtm_at "m"
  rw[v_cells_in_sequences lt]
  wtm_at "m"
theorem cast_inj {ms ns:List Nat}:(ms.map fun (n:Nat)=>(n:Int))=(ns.map fun (n:Nat)=>(n:Int))↔ms=ns:=
  ⟨fun h=>by
    have:=congrArg (List.map Int.toNat) h
    simpa [List.map_map,Function.comp_def] using this,fun h=>h ▸ rfl⟩
theorem v_Table_eq (ms ns:List Nat):w_Table____eq__ K cl (ms,ns,())=ret (decide (ms=ns)):=by
  unfold w_Table____eq__
  wtm_at "m"
  have sh:=fun ms:List Nat=>shp_ints (ms.map fun (n:Nat)=>(n:Int))
  rw[ass_t ⟨(sh ms).shaped (by decide),(sh ns).shaped (by decide)⟩]
  refine congrArg TL.ret (((eqc_lst eqc_int) _ _).trans ?_)
  exact decide_eq_decide.mpr cast_inj
theorem v_Table____len__ (ms:List Nat):w_Table____len__ K cl (ms,())=ret (ms.length:Int):=by
  unfold w_Table____len__
  wtm_at "m"
  rw[List.length_map]
theorem short8: ∀ {ds:List PyData},(∀d∈ds,PyData.leavesShort 8 d=true)→PyData.leavesShortAll 8 ds=true
  | [],_=>rfl
  | d::ds,h=>by
    simp only[PyData.leavesShortAll,h d List.mem_cons_self,short8 fun e m=>h e (List.mem_cons_of_mem _ m),Bool.and_self]
theorem short8_int {i:Int} (h:i.natAbs<2 ^ 6):PyData.leavesShort 8 (.int i)=true:=by
  have hl:=log2_small (by decide) h
  simp only[PyData.leavesShort,decide_eq_true_eq,PyData.shown]
  have e:=int_text_length_le (a:=i) (k:=6) (by decide) hl
  have e2:=PySem.ofString_length (toString i)
  exact decide_eq_true (by omega)
def tabText (ms:List Nat):Str:= "Table(" ++(PyData.list (ms.map fun m=>lstI (bitsL m))).shown++ ")"
theorem v_Table____repr__ {ms:List Nat} (hl:ms.length≤40) (lt: ∀m∈ms,m<2 ^ 40):w_Table____repr__ K cl (ms,())=ret (tabText ms):=by
  unfold w_Table____repr__
  wtm_at "m"
  have t1:Tame (.list (ms.map fun m=>lstI (bitsL m))) 40 50000:=by
    refine (tame_lst (tameL_of (k:=2) (m:=64) fun d hd=> ?_)).mono (by decide) (by rw[List.length_map];omega)
    obtain⟨m,_,rfl⟩:=List.mem_map.mp hd
    exact tame_lstI (fun n hn=>by have:=bits_mem hn;omega) (bits_len m)
  have ln:(PyData.list (ms.map fun m=>lstI (bitsL m))).shown.length≤40000:=by
    have sh:PyData.leavesShort 8 (.list (ms.map fun m=>lstI (bitsL m)))=true:=by
      simp only[PyData.leavesShort]
      refine short8 fun d hd=> ?_
      obtain⟨m,_,rfl⟩:=List.mem_map.mp hd
      simp only[lstI,PyData.leavesShort]
      refine short8 fun d hd=> ?_
      obtain⟨i,hi,rfl⟩:=List.mem_map.mp hd
      exact short8_int (by have:=bits_mem hi;omega)
    have:=PyData.shown_le_bulk 8 (by decide) _ sh
    have b:=(tame_lst (tameL_of (k:=2) (m:=64) (ds:=ms.map fun m=>lstI (bitsL m)) fun d hd=>by
      obtain⟨m,_,rfl⟩:=List.mem_map.mp hd
      exact tame_lstI (fun n hn=>by have:=bits_mem hn;omega) (bits_len m))).bulk
    rw[List.length_map] at b
    omega
  have en:(ms.map fun (n:Nat)=>(n:Int)).length=ms.length:=List.length_map ..
  have er:(ms.map fun (n:Nat)=>(n:Int)).map (fun m:Int=>bitsL m.toNat)=ms.map bitsL:=by rw[List.map_map];rfl
  have ed:PyData.list ((ms.map bitsL).map fun xs=>PyData.list (xs.map .int))= .list (ms.map fun m=>lstI (bitsL m)):=by rw[List.map_map];rfl
  rw[ass_t (by decide +kernel),ass_t (by omega),fmap_all (f':=fun m:Int=>bitsL m.toNat) (fun x hx=>by
    obtain⟨m,hm,rfl⟩:=List.mem_map.mp hx
    exact v_cells_in_sequences (Nat.lt_of_lt_of_le (lt m hm) (by decide)))]
  wtm_at "m"
  have l0:(Str.empty++Str.ofString "Table(").length=6:=by decide +kernel
  have l1:(Str.ofString ")").length=1:=by decide +kernel
  have l2:(Str.empty++Str.ofString "Table(" ++(PyData.list (ms.map fun m=>lstI (bitsL m))).shown).length≤40006:=by rw[Str.length_append,l0];omega
  rw[er,ed,ass_t ⟨rfl,t1⟩,ass_t (by omega),ass_t (by rw[Str.length_append,l1];omega)]
  rfl
theorem v_identity_table {n:Nat} {S:Store K} (n1:1≤n) (n40:n≤40):SpecX (w_identity_table K cl (.int n,())) S (TabInv n []):=by
  intro Q E q
  unfold w_identity_table
  wtm_at "m"
  refine (v_Board (ts:= []) rfl n1 n40 (cells_asc (ns:= []) (s:=n) (by simp) .nil).1 (fun ds e=>by cases e;simp)).ap fun y hy=> ?_
  subst hy
  rw[v_Board__size]
  wtm_at "m"
  refine⟨by omega,by rw[rng_len];omega,?_⟩
  rw[rng_0,fmap_ret,calm_ret,ret_bnd]
  have start:=tab_start n1
  have er:(intsTo n).map (fun c:Int=> [c])=((List.range n).map fun i=>2 ^ i).map bitsL:=by
    unfold intsTo
    rw[List.map_map,List.map_map]
    refine List.map_congr_left fun i hi=> ?_
    have hi:=List.mem_range.mp hi
    show [((i:Nat):Int)]=bitsL (2 ^ i)
    have e:=bits_self (a:= [((i:Nat):Int)]) (fun x hx=>by rw[List.mem_singleton] at hx;omega) (List.pairwise_singleton _ _)
    rw[← e]
    refine congrArg bitsL ?_
    show ((1:Int) * 2 ^ ((i:Nat):Int).toNat+0).toNat=2 ^ i
    rw[Int.add_zero,Int.one_mul,Int.toNat_natCast,show (2:Int) ^ i=((2 ^ i:Nat):Int) by push_cast;rfl,Int.toNat_natCast]
  rw[er]
  refine v_Table (tab_rowsL n1 n40 start) (tab_first n1 start) (start.free fun f hf=>by cases hf) _ _ fun y S2 x2 hy=> ?_
  subst hy
  exact q _ _ x2 start
theorem v_table_ofX {n:Nat} {fl:List (Nat×Nat)} {S:Store K} (n1:1≤n) (n40:n≤40) (hf: ∀f∈fl,FlipOk f.1 f.2) {Q:List Nat→Store K→Prop} {E:Err K→Store K→Prop}
    (q: ∀ms S',Ext S S'→wideF n fl=none→TabInv n fl ms→Q ms S') (qe: ∀f S',Ext S S'→wideF n fl=some f→E (cl.TooWide,[("needed",kI (widM f.1 f.2:Int))]) S'):w_table_of K cl (.int n,fl,()) Q E S:=by
  unfold w_table_of
  wtm_at "m"
  refine (v_Board (ts:= []) rfl n1 n40 (cells_asc (ns:= []) (s:=n) (by simp) .nil).1 (fun ds e=>by cases e;simp)).ap fun y hy=> ?_
  subst hy
  rw[v_Board__size]
  wtm_at "m"
  refine⟨by omega,by rw[rng_len];omega,?_⟩
  have e0:(intsTo n).map (fun i=>((2 ^ i.toNat:Nat):Int))=intsN ((List.range n).map fun i=>2 ^ i):=by
    unfold intsTo intsN
    rw[List.map_map,List.map_map]
    rfl
  rw[rng_0,fmap_all (f':=fun i=>((2 ^ i.toNat:Nat):Int)) (fun i hi=> ?_),calm_ret,ret_bnd,e0]
  · refine thaw_ap fun l hl=> ?_
    refine for_ap (fun i _ S'=> ∃ms,S' l=some (.lst ((intsN ms).map kI))∧TabInv n (fl.take i) ms∧wideF n (fl.take i)=none∧ ∀p,p≠l→S' p=S p) ?_ ?_ ⟨_,set_same,tab_start n1,rfl,fun p hp=>set_ne hp⟩
    · rintro i ⟨t,g⟩ s S' N he ⟨ms,hl',hi,hw,hp⟩ hN
      refine⟨trivial,?_⟩
      have ok:=hf _ (List.mem_of_getElem? he)
      by_cases wide:n<widM t g
      · simp only
        rw[v_Flip__width,ret_bnd,decide_eq_true (show (n:Int)<(widM t g:Int) by omega),if_t,ret_bnd]
        exact qe _ _ (fun p c e=>(hp p fun z=>by rw[z,hl] at e;cases e).trans e) (take_wide he hw wide)
      have wd:widM t g≤n:=by omega
      obtain⟨tn,gn⟩:=(widM_le n1).mp wd
      have t64:t<2 ^ 64:=Nat.lt_of_lt_of_le ok.lt (by decide)
      have g64:g<2 ^ 64:=Nat.lt_of_lt_of_le ok.lg (by decide)
      have len:=hi.len
      simp only at ok wd tn gn
      rw[v_Flip__width,ret_bnd,decide_eq_false (show ¬ (n:Int)<(widM t g:Int) by omega),if_f,v_Flip__tested t64,ret_bnd]
      refine for_ap (fun j s S2=>S2=S'∧s=(((xorOf ms ((bitsL t).take j):Nat):Int),())) ?_ ?_ ⟨rfl,rfl⟩
      · rintro j c s S2 N2 hc ⟨rfl,rfl⟩ hN2
        refine⟨trivial,pk_ap hl' ?_⟩
        have hj:j<(bitsL t).length:=(List.getElem?_eq_some_iff.mp hc).1
        have ec:(bitsL t)[j]=c:=(List.getElem?_eq_some_iff.mp hc).2
        have cr:=bits_below tn (List.mem_of_getElem? hc)
        rw[ix_eq (x:=((ms.getD c.toNat 0:Nat):Int)) cr.1 (by rw[intsN,List.getElem?_map,List.getElem?_eq_getElem (by omega),List.getD_eq_getElem?_getD,List.getElem?_eq_getElem (by omega)];rfl),ret_bnd]
        refine hN2 _ _ ⟨rfl,?_⟩
        show (Builtin.bitXor ((xorOf ms ((bitsL t).take j):Nat):Int) ((ms.getD c.toNat 0:Nat):Int),())=_
        rw[xor_nn,xorOf_take hj,ec]
      · rintro s S2 ⟨rfl,rfl⟩
        rw[List.take_length]
        refine⟨trivial,?_⟩
        rw[aft_nx,v_Flip__toggled g64,ret_bnd]
        refine for_ap (fun j _ S2=>S2 l=some (.lst ((intsN (updG ms (xorOf ms (bitsL t)) ((bitsL g).take j))).map kI))∧ ∀p,p≠l→S2 p=S p) ?_ ?_ ⟨hl',hp⟩
        · rintro j c s S3 N2 hc ⟨hl3,hp3⟩ hN2
          refine⟨trivial,pk_ap hl3 ?_⟩
          have hj:j<(bitsL g).length:=(List.getElem?_eq_some_iff.mp hc).1
          have ec:(bitsL g)[j]=c:=(List.getElem?_eq_some_iff.mp hc).2
          have cr:=bits_below gn (List.mem_of_getElem? hc)
          have hu:=updG_len (xorOf ms (bitsL t)) ((bitsL g).take j) ms
          have eu:=updG_take (ms:=ms) (T:=xorOf ms (bitsL t)) hj
          rw[ec] at eu
          generalize updG ms (xorOf ms (bitsL t)) ((bitsL g).take j)=us at hl3 hu eu
          rw[ix_eq (x:=((us.getD c.toNat 0:Nat):Int)) cr.1 (by rw[intsN,List.getElem?_map,List.getElem?_eq_getElem (by omega),List.getD_eq_getElem?_getD,List.getElem?_eq_getElem (by omega)];rfl),ret_bnd]
          refine setI_ap hl3 cr.1 (by rw[List.length_map,intsN,List.length_map];omega) (hN2 _ _ ⟨?_,fun p hp=>(set_ne hp).trans (hp3 p hp)⟩)
          rw[set_same,eu]
          show some (Cell.lst (((intsN us).map kI).set c.toNat (kI (Builtin.bitXor ((us.getD c.toNat 0:Nat):Int) ((xorOf ms (bitsL t):Nat):Int)))))=_
          rw[xor_nn,intsN,intsN,List.map_set,List.map_set]
        · rintro s S3 ⟨hl3,hp3⟩
          refine⟨trivial,?_⟩
          rw[List.take_length,updG_step len n40 gn] at hl3
          refine hN _ _ ⟨_,hl3,?_,?_,hp3⟩
          · rw[List.take_add_one,he]
            exact hi.step n1 n40 tn ok.fix
          · rw[List.take_add_one,he]
            exact wide_snoc hw wd
    · rintro s S' ⟨ms,hl',hi,hw,hp⟩
      rw[List.take_length] at hi hw
      refine⟨trivial,?_⟩
      wtm_at "m"
      have len:=hi.len
      have lt: ∀m∈ms,m<2 ^ 40:=fun m hm=>Nat.lt_of_lt_of_le (hi.lt m hm) (Nat.pow_le_pow_right (by decide) n40)
      refine pk_ap hl' ⟨by rw[intsN,List.length_map];omega,?_⟩
      refine fmap_stay (I:=Stays l ((intsN ms).map kI)) (S:=S') (xs:=intsN ms) (fun m:Int=>bitsL m.toNat) hl' (fun x hx=> ?_) ?_
      · obtain⟨m,hm,rfl⟩:=List.mem_map.mp hx
        exact v_cells_in_sequences (Nat.lt_of_lt_of_le (lt m hm) (by decide))
      · have er:(intsN ms).map (fun m:Int=>bitsL m.toNat)=ms.map bitsL:=by rw[intsN,List.map_map];rfl
        rw[er]
        have rows:RowsT (.list ((ms.map bitsL).map fun xs=> .tuple (xs.map .int))) ms:=by
          refine⟨⟨_,rfl,?_⟩,by omega,by omega⟩
          rw[List.map_map]
          refine All2.ofL fun m hm=>⟨?_,lt m hm,fun es e=> ?_⟩
          · rw[len]
            exact (cells_asc (fun k hk=>bits_below (hi.lt m hm) hk) (bits_asc m)).1
          · cases e;rw[List.length_map];have:=bits_len m;omega
        have h0:ms[0]?=some 1:=by
          have h0:=hi.first
          rw[List.getD_eq_getElem?_getD,List.getElem?_eq_getElem (by omega)] at h0
          rw[List.getElem?_eq_getElem (by omega)]
          exact congrArg some h0
        have vt:=v_Table (K:=K) (cl:=cl) (S:=S') rows h0 (hi.free fun f hf'=>(hf f hf').ev)
        refine vt Q E fun y S2 x hy=> ?_
        subst hy
        exact q _ _ (fun p c e=>x p c ((hp p fun z=>by rw[z,hl] at e;cases e).trans e)) hw hi
  · have:=mem_intsTo.mp hi
    rw[ass_t (cpow this.1 (by omega) (by decide)),Int.one_mul]
    refine congrArg TL.ret ?_
    push_cast;rfl
theorem wide_none {n:Nat} {fl:List (Nat×Nat)} (h: ∀f∈fl,widM f.1 f.2≤n):wideF n fl=none:=by
  unfold wideF
  rw[List.find?_eq_none]
  intro f hf z
  have:=h f hf
  have:=of_decide_eq_true z
  omega
theorem v_table_of {n:Nat} {fl:List (Nat×Nat)} {S:Store K} (n1:1≤n) (n40:n≤40) (hf: ∀f∈fl,FlipOk f.1 f.2∧widM f.1 f.2≤n):SpecX (w_table_of K cl (.int n,fl,())) S (TabInv n fl):=fun Q E q=>
  v_table_ofX n1 n40 (fun f h=>(hf f h).1) (fun ms S' x _ h=>q ms S' x h) fun f S' _ h=>by rw[wide_none fun f h=>(hf f h).2] at h;cases h
theorem v_law_draw {p:Addr} {n:Int} {S:Store K} (hp:S p=some .pot) (h0:0<n) (h1:n<2 ^ 200):Spec (w__law_draw K cl (p,n,())) S (fun d=>0≤d∧d<n):=
  fun Q E q=>⟨hp,h0,h1,fun d a b=>q d ⟨a,b⟩⟩
theorem v_law_width {p:Addr} {n:Int} {S:Store K} (hp:S p=some .pot) (h0:1≤n) (h1:n≤1000):Spec (w__law_width K cl (p,n,())) S (fun d=>1≤d∧d≤n):=by
  unfold w__law_width
  wtm_at "m"
  refine (v_law_draw hp (by omega) (by omega)).bnd fun d hd=> ?_
  refine (v_law_draw hp (by omega) (by omega)).bnd fun i hi=> ?_
  refine (Spec.ix hi.1 (by show i<3;omega)).imp fun y hy=> ?_
  simp only[List.mem_cons,List.not_mem_nil,or_false] at hy
  omega
theorem v_law_spots {p:Addr} {lo w:Int} {S:Store K} (hp:S p=some .pot) (h0:0≤lo) (h1:w≤1000):
    Spec (w__law_spots K cl (p,lo,w,())) S (fun ns=>(∀n∈ns,lo≤n∧n<w)∧ns.Pairwise (· < ·)):=by
  unfold w__law_spots
  wtm_at "m"
  refine (v_law_draw hp (by omega) (by omega)).bnd fun way hw=> ?_
  refine Spec.ite (fun _=>Spec.ret ⟨by simp,.nil⟩) (fun _=> ?_)
  refine Spec.ite (fun _=>Spec.ret ⟨by simp,.nil⟩) (fun h0=> ?_)
  have hl:lo<w:=by have:=of_decide_eq_false h0;omega
  refine Spec.ite (fun _=> ?_) (fun _=> ?_)
  · refine Spec.bnd (v_law_draw (n:=w - lo) hp (by omega) (by omega)) fun i hi=> ?_
    refine Spec.ret ⟨fun n hn=> ?_,List.pairwise_singleton _ _⟩
    rw[List.mem_singleton] at hn
    omega
  · have hr: ∀n∈rng lo w,lo≤n∧n<w:=fun n hn=>rg_mem hn
    have ha:(rng lo w).Pairwise (· < ·):=rg_lt
    refine Spec.ite (fun _=> ?_) (fun _=> ?_)
    · exact Spec.ass (RgOk.of_le (by omega) (by omega) (by omega) (by omega)) (Spec.ret ⟨hr,ha⟩)
    refine Spec.ass (by omega) (Spec.ass (by rw[rng_len];omega) ?_)
    refine (Spec.filt fun x _=> ?_).calm.imp fun ys hy=>⟨fun n hn=>hr n (hy.subset hn),ha.sublist hy⟩
    refine (v_law_draw hp (by omega) (by omega)).bnd fun _ _=>Spec.ret trivial
theorem v_law_pair {p:Addr} {n:Nat} {S:Store K} (hp:S p=some .pot) (h1:n≤1000):
    Spec (w__law_pair K cl (p,(n:Int),())) S (fun x=>PairOk n x.1 x.2):=by
  unfold w__law_pair
  wtm_at "m"
  refine (v_law_spots hp (by omega) (by omega)).bnd fun ts ht=> ?_
  refine (v_law_spots hp (by omega) (by omega)).bnd fun gs hg=> ?_
  have lt:=asc_len ht.1 ht.2 (by omega)
  rw[ass_t (by omega),fmap_filt (c':=fun t=>decide (t∈gs)) fun _ _=>rfl]
  wtm_at "m"
  rw[ass_t (by omega)]
  wtm_at "m"
  have lf:=List.length_filter_le (fun t=>decide (t∈gs)) ts
  refine Spec.ite (fun h=>Spec.ret ⟨ht.1,ht.2,hg.1,hg.2,?_⟩) (fun h=> ?_)
  · have:=of_decide_eq_true h;dsimp only;omega
  · have od:(ts.filter fun t=>decide (t∈gs)).length % 2=1:=by have:=of_decide_eq_false h;omega
    refine (v_law_draw hp (by omega) (by omega)).bnd fun i hi=> ?_
    refine (Spec.ix hi.1 hi.2).bnd fun g gm=> ?_
    refine (v_law_draw hp (by omega) (by omega)).bnd fun i hi=> ?_
    refine Spec.ite (fun _=> ?_) (fun _=> ?_)
    · rw[ass_t (by omega),fmap_filt (c':=fun t=> !decide (t=g)) fun _ _=>rfl]
      exact Spec.ret (PairOk.lessT ht.1 ht.2 hg.1 hg.2 od gm)
    · have lg:=List.length_filter_le (fun t=> !decide (t=g)) gs
      have lg2:(gs.length:Int)≤1000:=by
        by_cases e:(1:Int)≤n
        · have:=asc_len hg.1 hg.2 e;omega
        · cases gs with
          | nil=>simp
          | cons x xs=>have:=hg.1 x List.mem_cons_self;omega
      rw[ass_t (by omega),fmap_filt (c':=fun t=> !decide (t=g)) fun _ _=>rfl]
      exact Spec.ret (PairOk.lessG ht.1 ht.2 hg.1 hg.2 od gm)
theorem v_law_pairs {p:Addr} {n:Nat} {m:Int} {S:Store K} (hp:S p=some .pot) (h1:n≤1000) (h0:0≤m) (h2:m≤1000):
    Spec (w__law_pairs K cl (p,(n:Int),m,())) S (fun xs=>(∀x∈xs,PairOk n x.1 x.2)∧xs.length≤m):=by
  unfold w__law_pairs
  wtm_at "m"
  refine (v_law_draw hp (by omega) (by omega)).bnd fun k hk=> ?_
  rw[ass_t (by omega),ass_t (by rw[rng_len];omega)]
  refine (Spec.fmap fun _ _=>v_law_pair hp h1).calm.imp fun xs hx=>⟨fun x hm=> ?_,?_⟩
  · obtain⟨_,_,h⟩:=hx.mem hm;exact h
  · rw[hx.len,rng_len];omega
theorem v_law_flip_of {n:Nat} {ts gs:List Int} {S:Store K} (h:PairOk n ts gs) (hn:n≤40):Spec (w__law_flip_of K cl ((ts,gs),())) S (· =((maskI ts).toNat,(maskI gs).toNat)):=by
  unfold w__law_flip_of
  wtm_at "m"
  refine v_Flip (h.ct hn).1 (h.cg hn).1 (h.flip hn) (fun ds e=> ?_) (fun ds e=> ?_)
  · cases e;rw[List.length_map];have:=h.tl;omega
  · cases e;rw[List.length_map];have:=h.gl;omega
theorem isort_bits (m:Nat):isort (bitsL m)=bitsL m:=(isort_is (List.Perm.refl _) ((bits_asc m).imp fun h=>by omega)).symm
theorem v_law_added {x y:Nat} (hx:x<2 ^ 40) (hy:y<2 ^ 40):w__law_added K cl (bitsL x,bitsL y,())=ret (bitsL (x ^^^ y)):=by
  have lx:=bits_len x
  have ly:=bits_len y
  have l1:=List.length_filter_le (fun t=> !decide (t∈bitsL y)) (bitsL x)
  have l2:=List.length_filter_le (fun t=> !decide (t∈bitsL x)) (bitsL y)
  unfold w__law_added
  wtm_at "m"
  rw[ass_t (by omega),fmap_filt (c':=fun t=> !decide (t∈bitsL y)) fun _ _=>rfl]
  wtm_at "m"
  rw[ass_t (by omega),fmap_filt (c':=fun t=> !decide (t∈bitsL x)) fun _ _=>rfl]
  wtm_at "m"
  rw[ass_t (by omega)]
  have nx:(bitsL x).Nodup:=(bits_asc x).imp fun h=>by omega
  have ny:(bitsL y).Nodup:=(bits_asc y).imp fun h=>by omega
  show TL.ret (symD (bitsL x) (bitsL y))=_
  rw[symD_bits (fun z hz=>by have:=bits_mem hz;omega) nx (fun z hz=>by have:=bits_mem hz;omega) ny]
  rw[maskN (ns:=bitsL x),maskN (ns:=bitsL y),mask_bits (Nat.lt_trans hx (by decide)),mask_bits (Nat.lt_trans hy (by decide)),Int.toNat_natCast,Int.toNat_natCast]
def RAt (S:Store K) (x:Addr ⊕ List Int) (ns:List Int):Prop:=match x with
  | .inl a=>S a=some (.lst (ns.map kI))
  | .inr ys=>ys=ns
theorem RAt.ext {S S':Store K} {x:Addr ⊕ List Int} {ns:List Int} (h:RAt S x ns) (e:TL.Ext S S'):RAt S' x ns:=by
  cases x with
  | inl a=>exact e _ _ h
  | inr ys=>exact h
theorem wR_ap {α:Type} {S:Store K} {x:Addr ⊕ List Int} {ns:List Int} {k:List Int→(Store K→Prop)→W K α} {Q:α→Store K→Prop} {E:Err K→Store K→Prop} (h:RAt S x ns) (q: ∀I,I S→k ns I Q E S):wR kI x k Q E S:=by
  cases x with
  | inl a=>exact⟨ns,h,q _ h⟩
  | inr ys=>
    have:ys=ns:=h
    subst this
    exact q _ trivial
theorem v_cell_tuple__2 {S:Store K} {x:Addr ⊕ List Int} {ns:List Int} {n:Int} (h:RAt S x ns) (hr: ∀k∈ns,0≤k∧k<n) (nd:ns.Nodup) (hl:ns.length≤50000):Spec (w_cell_tuple__2 K cl (x,n,())) S (· =isort ns):=by
  intro Q E q
  unfold w_cell_tuple__2
  wtm_at "m"
  refine wR_ap h fun _ _=> ?_
  show (wIf true _ _:W K _) Q E S
  rw[if_t]
  refine wR_ap h fun I hI=> ?_
  refine⟨hl,?_⟩
  refine fmap_stay (fun _=>true) hI (fun k hk=> ?_) ?_
  · have:=hr k hk
    rw[v_is_cell,show intIn (PyData.int k) 0 (n - 1)=true by simp[intIn];omega]
  show (wIf ((ns.map fun _=>true).all id) _ _:W K _) Q E S
  rw[show (ns.map fun _=>true).all id=true by rw[List.all_eq_true];intro b hb;obtain⟨_,_,rfl⟩:=List.mem_map.mp hb;rfl,if_t]
  refine wR_ap h fun _ _=> ?_
  show (wAss _ _:W K _) Q E S
  have il:(isort ns).length=ns.length:=(isort_perm ns).length_eq
  have asc:=asc_nodup (isort_le ns)
  rw[show sli (isort ns) (some 1) none=(isort ns).drop 1 from sli_one _,ass_t (by rw[List.length_zip];omega),fmap_ret]
  wtm_at "m"
  simp only[List.all_map,Function.comp_def,id]
  rw[asc.mpr ((isort_perm _).nodup_iff.mpr nd),if_t]
  exact q _ rfl
theorem fmap_at2 {α β γ:Type} {I:Store K→Prop} {S:Store K} {E:Err K→Store K→Prop} (hI:I S) {f:α→W K β} {R:α→γ→Prop} {g:γ→β} (h: ∀x z,R x z→Spec (f x) S (· =g z)): ∀ {xs:List α} {zs:List γ} {Q:List β→Store K→Prop},All2 R xs zs→Q (zs.map g) S→fmapW I (fun _=>TL.ret true) f xs Q E S
  | [],_,_,e,q=>by cases e;exact⟨hI,q⟩
  | x::xs,_,Q,⟨z,zs,e,r,h2⟩,q=>⟨hI,by
    subst e
    rw[ret_bnd,if_t]
    refine h x z r _ _ fun y p=> ?_
    subst p
    exact fmap_at2 hI h h2 (Q:=fun ys S'=>Q (g z::ys) S') q⟩
theorem v_row_masks__2 {S:Store K} {h:Addr} {rs:List Addr} {ms:List Nat} (hh:S h=some (.lst (rs.map kRef))) (hr:All2 (fun r m=>S r=some (.lst ((bitsL m).map kI))∧m<2 ^ ms.length) rs ms) (n1:1≤ms.length) (n40:ms.length≤40):
    Spec (w_row_masks__2 K cl (h,())) S (· =intsN ms):=by
  have hl:=hr.len
  intro Q E q
  have lr:((rs.map (kRef:Addr→Dm K)).length:Int)=ms.length:=by rw[List.length_map,hl]
  unfold w_row_masks__2
  wtm_at "m"
  refine⟨⟨_,hh⟩,?_⟩
  refine⟨_,hh,?_⟩
  show (wIf _ (wIf _ _ _) _:W K (List Int)) Q E S
  rw[lr,decide_eq_true (show (1:Int)≤ms.length by omega),decide_eq_true (show (ms.length:Int)≤40 by omega),if_t,if_t]
  refine pk_ap hh ⟨by omega,?_⟩
  refine fmap_at2 (g:=fun m:Nat=>(m:Int)) hh (fun r m hm=> ?_) hr (q _ rfl)
  obtain⟨h1,h2⟩:=hm
  have m40:m<2 ^ 40:=Nat.lt_of_lt_of_le h2 (Nat.pow_le_pow_right (by decide) n40)
  have m64:m<2 ^ 64:=Nat.lt_of_lt_of_le m40 (by decide)
  intro Q E q
  refine⟨_,hh,?_⟩
  have rat:RAt S (Sum.inl r) (bitsL m):=h1
  show (bnd (w_cell_tuple__2 K cl (Sum.inl r,((rs.map (kRef:Addr→Dm K)).length:Int),())) _) Q E S
  rw[lr]
  refine (v_cell_tuple__2 rat (fun k hk=>bits_below h2 hk) ((bits_asc m).imp fun h=>by omega) (by have:=bits_len m;omega)).ap fun y hy=> ?_
  subst hy
  rw[isort_bits,v_mask_of_sequences (fun k hk=>by have:=bits_mem hk;omega) (by have:=bits_len m;omega),maskN (ns:=bitsL m),mask_bits m64]
  exact q _ rfl
theorem v_Table__2 {h:Addr} {rs:List Addr} {ms:List Nat} {S:Store K} (hh:S h=some (.lst (rs.map kRef))) (hr:All2 (fun r m=>S r=some (.lst ((bitsL m).map kI))∧m<2 ^ ms.length) rs ms) (n1:1≤ms.length) (n40:ms.length≤40) (h0:ms[0]?=some 1) (hf:Free ms):
    SpecX (bnd (wMk cl.Table (w_Table____init____2 K cl) (h,())) (wFrz cl.Table (fs_Table K cl))) S (· =ms):=by
  refine mkfrzX fun a Q E ha q=> ?_
  have up: ∀ {p:Addr} {c:Cell K},S p=some c→(S.set a (.ins cl.Table [])) p=some c:=fun {p c} e=>by
    rw[set_ne (fun z=>by rw[z,ha] at e;cases e)];exact e
  unfold w_Table____init____2
  wtm_at "m"
  refine (v_row_masks__2 (up hh) (hr.imp fun r m h=>⟨up h.1,h.2⟩) n1 n40).ap fun y hy=> ?_
  subst hy
  rw[ix_eq (x:=1) (by omega) (by rw[intsN,Int.toNat_zero,List.getElem?_map,h0];rfl)]
  wtm_at "m"
  refine (v_are_invertible (by omega) (fun m hm=>by obtain⟨_,_,h⟩:=hr.mem hm;exact Nat.lt_of_lt_of_le h.2 (Nat.pow_le_pow_right (by decide) n40)) hf).ap fun y S' x hy=> ?_
  subst hy
  rw[if_t]
  exact setF_ap (fs:= []) (x a _ set_same) (by show (0:Nat)<1000;omega) (q ms S' x rfl)
theorem v_law_lines {n:Nat} {xs:List (List Int×List Int)} {S:Store K} (n1:1≤n) (n40:n≤40) (hx: ∀x∈xs,PairOk n x.1 x.2):Spec (w__law_lines K cl ((n:Int),xs,())) S (fun y=> ∃ms,TabInv n (xs.map fun x=>((maskI x.1).toNat,(maskI x.2).toNat)) ms∧y=ms.map bitsL):=by
  unfold w__law_lines
  wtm_at "m"
  refine Spec.ass (by omega) (Spec.ass (by rw[rng_len];omega) ?_)
  rw[rng_0,fmap_ret,calm_ret,ret_bnd]
  have er:(intsTo n).map (fun c:Int=> [c])=((List.range n).map fun i=>2 ^ i).map bitsL:=by
    unfold intsTo
    rw[List.map_map,List.map_map]
    refine List.map_congr_left fun i hi=> ?_
    have hi:=List.mem_range.mp hi
    show [((i:Nat):Int)]=bitsL (2 ^ i)
    have e:=bits_self (a:= [((i:Nat):Int)]) (fun x hx=>by rw[List.mem_singleton] at hx;omega) (List.pairwise_singleton _ _)
    rw[← e]
    refine congrArg bitsL ?_
    show ((1:Int) * 2 ^ ((i:Nat):Int).toNat+0).toNat=2 ^ i
    rw[Int.add_zero,Int.one_mul,Int.toNat_natCast,show (2:Int) ^ i=((2 ^ i:Nat):Int) by push_cast;rfl,Int.toNat_natCast]
  rw[er]
  refine Spec.bnd (R:=fun q=> ∃ms,TabInv n (xs.map fun x=>((maskI x.1).toNat,(maskI x.2).toNat)) ms∧q=Flow.nx (ms.map bitsL,())) (Spec.for (fun i s=> ∃ms,TabInv n ((xs.take i).map fun x=>((maskI x.1).toNat,(maskI x.2).toNat)) ms∧s=(ms.map bitsL,())) ?_ (fun s hs=>by obtain⟨ms,h,e⟩:=hs;exact⟨ms,by rwa [List.take_length] at h,by rw[e]⟩) ⟨_,tab_start n1,rfl⟩) ?_
  · rintro i ⟨ts,gs⟩ s he ⟨ms,hi,rfl⟩
    have ok:=hx _ (List.mem_of_getElem? he)
    have len:=hi.len
    dsimp only at ok ⊢
    have lt40: ∀m∈ms,m<2 ^ 40:=fun m hm=>Nat.lt_of_lt_of_le (hi.lt m hm) (Nat.pow_le_pow_right (by decide) n40)
    have g40: ∀i,ms.getD i 0<2 ^ 40:=fun i=>by
      rw[List.getD_eq_getElem?_getD]
      cases h:ms[i]? with
      | none=>exact Nat.two_pow_pos _
      | some y=>exact lt40 _ (List.mem_of_getElem? h)
    wtm_at "m"
    refine Spec.bnd (R:=fun q=>q=Flow.nx (bitsL (xorOf ms ts),())) (Spec.for (fun j s=>s=(bitsL (xorOf ms (ts.take j)),())) ?_ (fun s e=>by rw[e,List.take_length]) ?_) ?_
    · rintro j c s hc rfl
      have hj:j<ts.length:=(List.getElem?_eq_some_iff.mp hc).1
      have ec:ts[j]=c:=(List.getElem?_eq_some_iff.mp hc).2
      have cr:=ok.tr c (List.mem_of_getElem? hc)
      rw[ix_eq (x:=bitsL (ms.getD c.toNat 0)) cr.1 (by rw[List.getElem?_map,List.getD_eq_getElem?_getD,List.getElem?_eq_getElem (by omega)];rfl),ret_bnd]
      show TL.Spec (bnd (w__law_added K cl (bitsL (xorOf ms (ts.take j)),bitsL (ms.getD c.toNat 0),())) _) _ _
      rw[v_law_added (Nat.lt_of_lt_of_le (xorOf_lt hi.lt _) (Nat.pow_le_pow_right (by decide) n40)) (g40 _),ret_bnd]
      refine Spec.ret ?_
      show (_,())=_
      rw[xorOf_take hj,ec]
    · show (([]:List Int),())=(bitsL 0,())
      rw[show bitsL 0= [] by decide +kernel]
    · rintro q rfl
      wtm_at "m"
      have en:enumI (ms.map bitsL)=(List.range ms.length).map fun i=>(((i:Nat):Int),bitsL (ms.getD i 0)):=by
        unfold enumI
        refine List.ext_getElem (by simp) fun i h1 h2=> ?_
        have hi:i<ms.length:=by simpa using h2
        simp[List.getD_eq_getElem?_getD,hi]
      have x40:xorOf ms ts<2 ^ 40:=Nat.lt_of_lt_of_le (xorOf_lt hi.lt _) (Nat.pow_le_pow_right (by decide) n40)
      rw[en]
      refine Spec.ass (by simp;omega) ?_
      rw[fmap_all (f':=fun x:Int×List Int=>if x.1∈gs then bitsL (ms.getD x.1.toNat 0 ^^^ xorOf ms ts) else bitsL (ms.getD x.1.toNat 0)) fun x hx=>by
        obtain⟨i,hi,rfl⟩:=List.mem_map.mp hx
        by_cases g:((i:Nat):Int)∈gs
        · rw[decide_eq_true g,if_t,if_pos g,v_law_added (g40 _) x40,Int.toNat_natCast]
        · rw[decide_eq_false g,if_f,if_neg g,Int.toNat_natCast]]
      wtm_at "m"
      have tn:(maskI ts).toNat<2 ^ n:=mask_lt ok.tr ok.tn
      refine Spec.ret ⟨_,by
        rw[List.take_add_one,he,List.map_append]
        exact hi.step n1 n40 tn (g:=(maskI gs).toNat) (ok.flip n40).fix,?_⟩
      refine congrArg (fun z=>(z,())) ?_
      unfold stepT
      rw[List.map_map,List.map_map]
      refine List.map_congr_left fun i _=> ?_
      show (if ((i:Nat):Int)∈gs then bitsL (ms.getD ((i:Nat):Int).toNat 0 ^^^ xorOf ms ts) else bitsL (ms.getD ((i:Nat):Int).toNat 0))=bitsL (if (maskI gs).toNat.testBit i=true then ms.getD i 0 ^^^ xorOf ms (bitsL (maskI ts).toNat) else ms.getD i 0)
      rw[Int.toNat_natCast,mask_bit i (fun g hg=>(ok.g0 g hg).1) ok.gn,bits_self (fun t ht=>by have:=ok.tr t ht;omega) ok.ta]
      by_cases g:((i:Nat):Int)∈gs
      · rw[if_pos g,if_pos (decide_eq_true g)]
      · rw[if_neg g,if_neg (by simpa using g)]
  · rintro q ⟨ms,h,rfl⟩
    wtm_at "m"
    exact Spec.ret ⟨ms,h,rfl⟩
theorem tab_tame {ms:List Nat} (hl:ms.length≤40):Tame (.list (ms.map fun m=>lstI (bitsL m))) 40 50000:=by
  refine (tame_lst (tameL_of (k:=2) (m:=64) fun d hd=> ?_)).mono (by decide) (by rw[List.length_map];omega)
  obtain⟨m,_,rfl⟩:=List.mem_map.mp hd
  exact tame_lstI (fun n hn=>by have:=bits_mem hn;omega) (bits_len m)
theorem tab_shown {ms:List Nat} (hl:ms.length≤40):(PyData.list (ms.map fun m=>lstI (bitsL m))).shown.length≤40000:=by
  have sh:PyData.leavesShort 8 (.list (ms.map fun m=>lstI (bitsL m)))=true:=by
    simp only[PyData.leavesShort]
    refine short8 fun d hd=> ?_
    obtain⟨m,_,rfl⟩:=List.mem_map.mp hd
    simp only[lstI,PyData.leavesShort]
    refine short8 fun d hd=> ?_
    obtain⟨i,hi,rfl⟩:=List.mem_map.mp hd
    exact short8_int (by have:=bits_mem hi;omega)
  have:=PyData.shown_le_bulk 8 (by decide) _ sh
  have b:=(tame_lst (tameL_of (k:=2) (m:=64) (ds:=ms.map fun m=>lstI (bitsL m)) fun d hd=>by
    obtain⟨m,_,rfl⟩:=List.mem_map.mp hd
    exact tame_lstI (fun n hn=>by have:=bits_mem hn;omega) (bits_len m))).bulk
  rw[List.length_map] at b
  omega
theorem v_law_is_grid {n:Nat} {fl:List (Nat×Nat)} {ms:List Nat} (n1:1≤n) (n40:n≤40) (hi:TabInv n fl ms):w__law_is_grid K cl (ms,ms.map bitsL,())=ret true:=by
  have len:=hi.len
  have lt40: ∀m∈ms,m<2 ^ 40:=fun m hm=>Nat.lt_of_lt_of_le (hi.lt m hm) (Nat.pow_le_pow_right (by decide) n40)
  have rp:w_Table____repr__ K cl (ms,())=(ret (tabText ms):W K Str):=v_Table____repr__ (by omega) lt40
  have ed:PyData.list ((ms.map bitsL).map fun xs=>PyData.list (xs.map .int))= .list (ms.map fun m=>lstI (bitsL m)):=by rw[List.map_map];rfl
  unfold w__law_is_grid
  wtm_at "m"
  simp only[v_Table____len__,rp,ed]
  wtm_at "m"
  rw[ass_t (by omega),List.length_map,decide_eq_true (rfl:(ms.length:Int)=ms.length)]
  wtm_at "m"
  have l0:(Str.ofString "Table(").length=6:=by decide +kernel
  have l1:(Str.ofString ")").length=1:=by decide +kernel
  have ln:=tab_shown (ms:=ms) (by omega)
  rw[ass_t (tab_tame (by omega)),ass_t (by omega),ass_t (by rw[Str.length_append];omega)]
  show (wIf (decide (tabText ms=tabText ms)) _ _:W K Bool)=_
  rw[decide_eq_true rfl,if_t,ass_t (by omega),ass_t (by rw[rng_len];omega),rng_0]
  have g64: ∀i,i<n→ms.getD i 0<2 ^ 64:=fun i h=>by
    rw[List.getD_eq_getElem?_getD,List.getElem?_eq_getElem (by omega)]
    exact Nat.lt_of_lt_of_le (lt40 _ (List.getElem_mem _)) (by decide)
  have lines:(intsTo ms.length).map (fun k:Int=>bitsL (ms.getD k.toNat 0))=ms.map bitsL:=by
    unfold intsTo
    rw[List.map_map]
    refine List.ext_getElem (by simp) fun i h1 h2=> ?_
    have:i<ms.length:=by simpa using h2
    simp[List.getD_eq_getElem?_getD,this]
  rw[fmap_all (f':=fun k:Int=>bitsL (ms.getD k.toNat 0)) (fun k hk=>by
    obtain⟨k0,k1⟩:=mem_intsTo.mp hk
    obtain⟨k,rfl⟩:=Int.eq_ofNat_of_zero_le k0
    exact v_Table__row (by omega) (g64 k (by omega))),lines]
  have tt:Tame (PyData.list ((ms.map bitsL).map fun xs=>PyData.tuple (xs.map .int))) 40 50000:=by
    refine (tame_lst (tameL_of (k:=2) (m:=64) fun d hd=> ?_)).mono (by decide) (by rw[List.length_map,List.length_map];omega)
    obtain⟨x,hx,rfl⟩:=List.mem_map.mp hd
    obtain⟨m,_,rfl⟩:=List.mem_map.mp hx
    exact tame_bits m
  rw[fmap_ret,List.map_id']
  wtm_at "m"
  rw[ass_t tt,ass_t (by omega),ass_t tt]
  wtm_at "m"
  rw[v_Table__size]
  wtm_at "m"
theorem v_Table_eq2 (x:List Nat) (u:Unit):w_Table____eq____2 K cl (x,u,())=ret false:=by
  unfold w_Table____eq____2
  wtm_at "m"
theorem v_Board_eq2 (x:Nat×Nat) (u:Unit):w_Board____eq____2 K cl (x,u,())=ret false:=by
  unfold w_Board____eq____2
  wtm_at "m"
theorem tame_bb {bs:List (List Bool)} (hl:bs.length≤10) (hb: ∀b∈bs,b.length≤10):Tame (.list (bs.map fun xs=> .list (xs.map .bool))) 40 50000:=by
  refine (tame_lst (tameL_of (k:=2) (m:=10) fun d hd=> ?_)).mono (by decide) (by rw[List.length_map];omega)
  obtain⟨b,hb',rfl⟩:=List.mem_map.mp hd
  refine (tame_lst (tameL_of (k:=1) (m:=0) fun d hd=> ?_)).mono (by decide) (by rw[List.length_map];have:=hb b hb';omega)
  obtain⟨x,_,rfl⟩:=List.mem_map.mp hd
  exact tame_bool
theorem lines_inj {a b:List Nat} (ha: ∀m∈a,m<2 ^ 64) (hb: ∀m∈b,m<2 ^ 64):a.map bitsL=b.map bitsL↔a=b:=by
  refine⟨fun h=> ?_,fun h=>h ▸ rfl⟩
  have k: ∀ {a:List Nat},(∀m∈a,m<2 ^ 64)→(a.map bitsL).map (fun l=>(maskI l).toNat)=a:=fun {a} ha=>by
    rw[List.map_map]
    exact (List.map_congr_left fun m hm=>mask_bits (ha m hm)).trans (List.map_id _)
  rw[← k ha,← k hb,h]
theorem all2_impm {α β:Type} {P R:α→β→Prop}: ∀ {xs:List α} {ys:List β},(∀x y,y∈ys→P x y→R x y)→All2 P xs ys→All2 R xs ys
  | [],_,_,h=>h
  | x::xs,_,hf,⟨z,r,e,p,h⟩=>by subst e;exact⟨z,r,rfl,hf _ _ List.mem_cons_self p,all2_impm (fun a b m=>hf a b (List.mem_cons_of_mem _ m)) h⟩
theorem set_none {S:Store K} {r a:Addr} {c:Cell K} (h:(S.set r c) a=none):S a=none:=by
  by_cases e:a=r
  · subst e;rw[set_same] at h;cases h
  · rwa [set_ne e] at h
theorem fmap_thaw {E:Err K→Store K→Prop}: ∀ {ms:List Nat} {S:Store K} {Q:List Addr→Store K→Prop},(∀rs S',TL.Ext S S'→All2 (fun r m=>S' r=some (.lst ((bitsL m).map kI))∧S r=none) rs ms→Q rs S')→fmapW nI (fun _=>TL.ret true) (fun x=>wThaw kI x) (ms.map bitsL) Q E S
  | [],S,Q,q=>⟨trivial,q [] S Ext.refl rfl⟩
  | m::ms,S,Q,q=>⟨trivial,by
    rw[ret_bnd,if_t]
    refine thaw_ap fun r hr=> ?_
    exact fmap_thaw fun rs S' x h=>q (r::rs) S' ((Ext.set hr).trans x) ⟨m,ms,rfl,⟨x _ _ set_same,hr⟩,h.imp fun a b ⟨h1,h2⟩=>⟨h1,set_none h2⟩⟩⟩
theorem v_law_right {p:Addr} {n:Nat} {xs:List (List Int×List Int)} {S:Store K} (hp:S p=some .pot) (n1:1≤n) (n40:n≤39) (hx: ∀x∈xs,PairOk n x.1 x.2) (hl:xs.length≤20):
    SpecX (w__law_right K cl (p,(n:Int),xs,())) S (· =true):=by
  intro Q E q
  unfold w__law_right
  wtm_at "m"
  refine (v_law_pair hp (by omega)).ap fun x ox=> ?_
  refine⟨by simp;omega,?_⟩
  have hm: ∀y∈xs++ [x],PairOk n y.1 y.2:=fun y hy=>by
    rcases List.mem_append.mp hy with h | h
    · exact hx y h
    · rw[List.mem_singleton] at h;exact h ▸ ox
  have hml:(xs++ [x]).length≤21:=by simp;omega
  generalize xs++ [x]=more at hm hml
  refine (v_law_lines n1 (by omega) hx).ap fun y hy=> ?_
  obtain⟨m0,i0,rfl⟩:=hy
  refine (v_law_lines n1 (by omega) hm).ap fun y hy=> ?_
  obtain⟨m1,i1,rfl⟩:=hy
  have e1:(n:Int)+1=((n+1:Nat):Int):=by push_cast;rfl
  rw[e1]
  refine (v_law_lines (n:=n+1) (xs:= []) (by omega) (by omega) (fun x h=>by cases h)).ap fun y hy=> ?_
  obtain⟨m2,i2,rfl⟩:=hy
  refine new_ap fun L hL=> ?_
  refine⟨by simp,?_⟩
  have tab: ∀(ys:List (List Int×List Int)) (S:Store K),(∀y∈ys,PairOk n y.1 y.2)→ys.length≤100→SpecX (wAss (ys.length≤50000) (bnd (wCalm (fmapW nI (fun _=>TL.ret true) (fun x61=>w__law_flip_of K cl (x61,())) ys)) fun x=>w_table_of K cl (PyData.int n,id x,()))) S (TabInv n (ys.map fun x=>((maskI x.1).toNat,(maskI x.2).toNat))):=fun ys S hy hl=>by
    refine SpecX.ass (by omega) (SpecX.sbc (R:=(· =ys.map fun x=>((maskI x.1).toNat,(maskI x.2).toNat))) ((Spec.fmap (P:=fun x y=>y=((maskI x.1).toNat,(maskI x.2).toNat)) fun x hm=>v_law_flip_of (hy x hm) (by omega)).imp fun ys h=>h.eqmap fun _ _ e=>e) fun z hz=> ?_)
    subst hz
    refine v_table_of n1 (by omega) fun f hf=> ?_
    obtain⟨x,hm,rfl⟩:=List.mem_map.mp hf
    exact⟨(hy x hm).flip (by omega),(hy x hm).wid n1⟩
  refine (SpecX.fmap (P:=fun ys t=>TabInv n (ys.map fun x=>((maskI x.1).toNat,(maskI x.2).toNat)) t) fun ys hys S' e=> ?_).apc fun ts S1 x1 hts=> ?_
  · rcases List.mem_cons.mp hys with rfl | h
    · exact tab _ _ hx (by omega)
    · rw[List.mem_singleton] at h
      subst h
      exact tab _ _ hm (by omega)
  obtain⟨t0,_,rfl,h0,t1,_,rfl,h1,rfl⟩:=hts
  obtain rfl:=tab_uniq n1 h0 i0
  obtain rfl:=tab_uniq n1 h1 i1
  refine thaw_ap fun G hG=> ?_
  refine⟨⟨_,set_same⟩,?_⟩
  refine (v_identity_table (by omega) (by omega)).ap fun t2 S3 x3 hi2=> ?_
  obtain rfl:=tab_uniq (by omega) hi2 i2
  have l1:S1 L=_:=x1 _ _ set_same
  have LG:L≠G:=fun z=>by rw[z,hG] at l1;cases l1
  have SG:S G=none:=by
    by_cases e:S G=none
    · exact e
    · obtain⟨c,hc⟩:=Option.ne_none_iff_exists'.mp e
      have:=x1 _ _ ((Ext.set hL) _ _ hc)
      rw[hG] at this;cases this
  have l3:S3 L=some (.lst ([t0.map bitsL,t1.map bitsL,t2.map bitsL].map (kL (kL kI)))):=x3 _ _ ((set_ne LG).trans l1)
  refine app_ap (xs:= [t0,t1]) (x3 _ _ set_same) (by simp) ?_
  refine pk_ap ((set_ne LG).trans l3) ?_
  rw[ix_eq (x:=t0.map bitsL) (by omega) rfl,ret_bnd]
  have len0:=i0.len
  refine⟨by rw[List.length_map];omega,?_⟩
  have xs3:TL.Ext S (S3.set G (.lst (([t0,t1]++ [t2]).map (k_Table K cl)))):=(((Ext.set hL).trans x1).trans (((Ext.set hG).trans x3))).over SG
  have g4:(S3.set G (.lst (([t0,t1]++ [t2]).map (k_Table K cl)))) G=some (.lst (([t0,t1]++ [t2]).map (k_Table K cl))):=set_same
  have l4:(S3.set G (.lst (([t0,t1]++ [t2]).map (k_Table K cl)))) L=some (.lst ([t0.map bitsL,t1.map bitsL,t2.map bitsL].map (kL (kL kI)))):=(set_ne LG).trans l3
  generalize S3.set G (.lst (([t0,t1]++ [t2]).map (k_Table K cl)))=S4 at xs3 g4 l4
  refine fmap_thaw fun rs S5 x5 hrs=> ?_
  refine thaw_ap fun h hh=> ?_
  refine⟨⟨_,(Ext.set hh) _ _ (x5 _ _ g4)⟩,?_⟩
  have rs5:All2 (fun r m=>(S5.set h (.lst (rs.map kRef))) r=some (.lst ((bitsL m).map kI))∧m<2 ^ t0.length) rs t0:=all2_impm (fun r m hm h=>⟨(Ext.set hh) _ _ h.1,by rw[len0];exact i0.lt m hm⟩) hrs
  have rS0: ∀r∈rs,∃ks:List Int,(S5.set h (.lst (rs.map kRef))) r=some (.lst (ks.map kI))∧ks.length≤64:=fun r hr=>by
    obtain⟨m,_,e⟩:=hrs.memL hr
    exact⟨_,(Ext.set hh) _ _ e.1,bits_len m⟩
  have nH: ∀r∈rs,r≠h:=fun r hr z=>by
    obtain⟨m,_,e⟩:=hrs.memL hr
    rw[z,hh] at e;cases e.1
  have frS: ∀r∈rs,S4 r=none:=fun r hr=>by
    obtain⟨m,_,h⟩:=hrs.memL hr
    exact h.2
  refine v_Table__2 set_same rs5 (by omega) (by omega) (tab_first n1 i0) (i0.free fun f hf=> ?_) _ _ fun y S6 x6 hy=> ?_
  · obtain⟨x,hm,rfl⟩:=List.mem_map.mp hf
    exact ((hx x hm).flip (by omega)).ev
  subst hy
  refine app_ap (xs:= [y,t1,t2]) (x6 _ _ ((Ext.set hh) _ _ (x5 _ _ g4))) (by simp) ?_
  have Gh:G≠h:=fun z=>by have:=x5 _ _ g4;rw[z,hh] at this;cases this
  have Lh:L≠h:=fun z=>by have:=x5 _ _ l4;rw[z,hh] at this;cases this
  have nG: ∀r∈rs,r≠G:=fun r hr z=>by have:=frS r hr;rw[z,g4] at this;cases this
  have nL: ∀r∈rs,r≠L:=fun r hr z=>by have:=frS r hr;rw[z,l4] at this;cases this
  have back: ∀ {r:Addr} {S4:Store K},TL.Ext S S4→S4 r=none→S r=none:=fun {r S4} x e=>by
    by_cases z:S r=none
    · exact z
    · obtain⟨c,hc⟩:=Option.ne_none_iff_exists'.mp z
      have:=x _ _ hc
      rw[e] at this;cases this
  have frS0: ∀r∈rs,S r=none:=fun r hr=>back xs3 (frS r hr)
  have hS0:S h=none:=back (xs3.trans x5) hh
  have hS:(S6.set G (.lst (([y,t1,t2]++ [y]).map (k_Table K cl)))) h=some (.lst (rs.map kRef)):=(set_ne Gh.symm).trans (x6 _ _ set_same)
  have gS:(S6.set G (.lst (([y,t1,t2]++ [y]).map (k_Table K cl)))) G=some (.lst ([y,t1,t2,y].map (k_Table K cl))):=set_same
  have lS:(S6.set G (.lst (([y,t1,t2]++ [y]).map (k_Table K cl)))) L=some (.lst ([y.map bitsL,t1.map bitsL,t2.map bitsL].map (kL (kL kI)))):=(set_ne LG).trans (x6 _ _ ((Ext.set hh) _ _ (x5 _ _ l4)))
  have rS: ∀r∈rs,∃ks:List Int,(S6.set G (.lst (([y,t1,t2]++ [y]).map (k_Table K cl)))) r=some (.lst (ks.map kI))∧ks.length≤64:=fun r hr=>by
    obtain⟨ks,e,l⟩:=rS0 r hr
    exact⟨ks,(set_ne (nG r hr)).trans (x6 _ _ e),l⟩
  have xS:TL.Ext S (S6.set G (.lst (([y,t1,t2]++ [y]).map (k_Table K cl)))):=(((xs3.trans x5).trans (Ext.set hh)).trans x6).over SG
  generalize S6.set G (.lst (([y,t1,t2]++ [y]).map (k_Table K cl)))=S7 at hS gS lS rS xS
  have lrs:rs.length=y.length:=hrs.len.symm
  refine pk_ap hS ?_
  refine for_ap (fun i _ S'=>S' G=some (.lst ([y,t1,t2,y].map (k_Table K cl)))∧S' L=some (.lst ([y.map bitsL,t1.map bitsL,t2.map bitsL].map (kL (kL kI))))∧S' h=some (.lst (rs.map kRef))∧(∀r∈rs,∃ks:List Int,S' r=some (.lst (ks.map kI))∧ks.length≤64+i)∧TL.Ext S S') ?_ ?_ ⟨gS,lS,hS,rS,xS⟩
  · rintro i r s S' N hr ⟨g',l',h',r',x'⟩ hN
    have hi:i<rs.length:=(List.getElem?_eq_some_iff.mp hr).1
    have hr:=List.mem_of_getElem? hr
    obtain⟨ks,e,l⟩:=r' r hr
    refine⟨h',⟨_,e⟩,app_ap e (by omega) (hN _ _ ⟨(set_ne (nG r hr).symm).trans g',(set_ne (nL r hr).symm).trans l',(set_ne (nH r hr).symm).trans h',fun z hz=> ?_,x'.over (frS0 r hr)⟩)⟩
    by_cases zr:z=r
    · subst zr
      exact⟨_,set_same,by simp;omega⟩
    · obtain⟨ks,e,l⟩:=r' z hz
      exact⟨ks,(set_ne zr).trans e,by omega⟩
  · rintro s S8 ⟨g8,l8,h8,_,x8⟩
    refine⟨h8,?_⟩
    wtm_at "m"
    refine⟨⟨_,h8⟩,clr_ap h8 ?_⟩
    refine⟨⟨_,(set_ne Lh).trans l8⟩,pk_ap ((set_ne Lh).trans l8) ?_⟩
    rw[ix_eq (x:=y.map bitsL) (by omega) rfl,ret_bnd]
    refine app_ap (xs:= [y.map bitsL,t1.map bitsL,t2.map bitsL]) ((set_ne Lh).trans l8) (by simp) ?_
    have xE:TL.Ext S ((S8.set h (.lst [])).set L (.lst (([y.map bitsL,t1.map bitsL,t2.map bitsL]++ [y.map bitsL]).map (kL (kL kI))))):=(x8.over hS0).over hL
    have gE:((S8.set h (.lst [])).set L (.lst (([y.map bitsL,t1.map bitsL,t2.map bitsL]++ [y.map bitsL]).map (kL (kL kI))))) G=some (.lst ([y,t1,t2,y].map (k_Table K cl))):=(set_ne LG.symm).trans ((set_ne Gh).trans g8)
    have lE:((S8.set h (.lst [])).set L (.lst (([y.map bitsL,t1.map bitsL,t2.map bitsL]++ [y.map bitsL]).map (kL (kL kI))))) L=some (.lst ([y,t1,t2,y].map (fun ms=>ms.map bitsL) |>.map (kL (kL kI)))):=set_same
    generalize (S8.set h (.lst [])).set L (.lst (([y.map bitsL,t1.map bitsL,t2.map bitsL]++ [y.map bitsL]).map (kL (kL kI))))=S9 at xE gE lE
    refine pk_ap gE (pk_ap gE ⟨by simp,pk_ap lE (pk_ap lE ⟨by simp,?_⟩)⟩)
    have gd: ∀z∈ [y,t1,t2,y],∃n fl,1≤n∧n≤40∧TabInv n fl z:=fun z hz=>by
      simp only[List.mem_cons,List.not_mem_nil,or_false] at hz
      rcases hz with rfl | rfl | rfl | rfl
      · exact⟨_,_,n1,by omega,i0⟩
      · exact⟨_,_,n1,by omega,i1⟩
      · exact⟨_,_,by omega,by omega,i2⟩
      · exact⟨_,_,n1,by omega,i0⟩
    clear rS rS0 rs5 hrs x6 x5 x1 l1 l3 x3 h0 h1 hi2
    have g64: ∀z∈ [y,t1,t2,y],∀m∈z,m<2 ^ 64:=fun z hz m hm=>by
      obtain⟨k,fl,_,k40,i⟩:=gd z hz
      exact Nat.lt_of_lt_of_le (i.lt m hm) (Nat.pow_le_pow_right (by decide) (by omega))
    refine for_ap (fun _ _ S'=>S'=S9) ?_ ?_ rfl
    · rintro i z s S' N hz rfl hN
      refine⟨trivial,?_⟩
      have hz:=List.mem_of_getElem? hz
      rw[show (([y,t1,t2,y]++ [y,t1,t2,y]).zip ([y,t1,t2,y].map (fun ms=>ms.map bitsL)++ [y,t1,t2,y].map (fun ms=>ms.map bitsL)))=([y,t1,t2,y]++ [y,t1,t2,y]).map (fun a=>(a,a.map bitsL)) from rfl] at hz
      obtain⟨a,ha,rfl⟩:=List.mem_map.mp hz
      have ha:a∈ [y,t1,t2,y]:=(List.mem_append.mp ha).elim id id
      obtain⟨k,fl,k1,k40,ia⟩:=gd a ha
      have c: ∀o∈ [y,t1,t2,y],decide (a.map bitsL=o.map bitsL)=decide (a=o):=fun o ho=>decide_eq_decide.mpr (lines_inj (g64 a ha) (g64 o ho))
      dsimp only
      rw[v_law_is_grid k1 k40 ia,ret_bnd,if_t]
      refine pk_ap gE ⟨by simp,?_⟩
      refine fmap_stay (fun o=> [decide (a=o),decide (o=a),decide (a=o)]) gE (fun o _=> ?_) ?_
      · rw[v_Table_eq,v_Table_eq]
        wtm_at "m"
        rw[Bool.not_not]
      refine⟨tame_bb (by simp) (fun b hb=>by obtain⟨_,_,rfl⟩:=List.mem_map.mp hb;simp),pk_ap lE ⟨by simp,?_⟩⟩
      refine fmap_stay (fun o=> [decide (a.map bitsL=o),decide (a.map bitsL=o),decide (a.map bitsL=o)]) lE (fun o _=> ?_) ?_
      · have sh: ∀x:List (List Int),Shp 2 (PyData.list (x.map fun xs=>PyData.list (xs.map .int))):=fun x=>shp_lmap fun xs=>shp_ints xs
        rw[ass_t ⟨(sh _).shaped (by decide),(sh _).shaped (by decide)⟩,ass_t (by simp)]
        have e:=eqc_lst (eqc_lst eqc_int) (a.map bitsL) o
        rw[e]
        rfl
      refine⟨tame_bb (by simp) (fun b hb=>by obtain⟨_,_,rfl⟩:=List.mem_map.mp hb;simp),?_⟩
      have e: [y,t1,t2,y].map (fun o=> [decide (a=o),decide (o=a),decide (a=o)])=([y,t1,t2,y].map fun ms=>ms.map bitsL).map (fun o=> [decide (a.map bitsL=o),decide (a.map bitsL=o),decide (a.map bitsL=o)]):=by
        rw[List.map_map]
        refine List.map_congr_left fun o ho=> ?_
        show [decide (a=o),decide (o=a),decide (a=o)]= [decide (a.map bitsL=o.map bitsL),decide (a.map bitsL=o.map bitsL),decide (a.map bitsL=o.map bitsL)]
        rw[c o ho,show decide (o=a)=decide (a=o) from decide_eq_decide.mpr eq_comm]
      rw[e]
      refine (show (wIf (decide (_=_)) _ _:W K _) _ E S' from ?_)
      rw[decide_eq_true rfl,if_t]
      exact hN _ _ rfl
    · rintro s S' rfl
      refine⟨trivial,?_⟩
      wtm_at "m"
      refine pk_ap lE ?_
      rw[ix_eq (x:=y.map bitsL) (by omega) rfl,ret_bnd]
      refine pk_ap gE ?_
      rw[ix_eq (x:=y) (by omega) rfl,ret_bnd,v_Table____repr__ (by omega) (fun m hm=>Nat.lt_of_lt_of_le (i0.lt m hm) (Nat.pow_le_pow_right (by decide) (by omega)))]
      wtm_at "m"
      refine (v_Board (ts:= []) rfl n1 (by omega) (cells_asc (ns:= []) (s:=n) (by simp) .nil).1 (fun ds e=>by cases e;simp)).ap fun bd _=> ?_
      refine⟨by simp,?_⟩
      refine fmap_ap (fun i ys S2=>S2=S'∧ys=List.replicate i false) ?_ ?_ ⟨rfl,rfl⟩
      · rintro i g ys S2 N _ ⟨rfl,rfl⟩ hN
        refine⟨trivial,?_⟩
        rw[ret_bnd,if_t]
        refine pk_ap gE ?_
        rw[ix_eq (x:=y) (by omega) rfl,ret_bnd,v_Table_eq2,calm_ret,ret_bnd,if_f]
        refine pk_ap gE ?_
        rw[ix_eq (x:=y) (by omega) rfl,ret_bnd]
        have e:(wEqGR (w_Table____eq____2 K cl) (w_Board____eq____2 K cl) g y:W K Bool)=TL.ret false:=by
          cases g with
          | inl d=>exact congrArg wCalm (v_Table_eq2 (K:=K) (cl:=cl) y ())
          | inr b=>exact congrArg wCalm (v_Board_eq2 (K:=K) (cl:=cl) b ())
        rw[e]
        exact hN _ _ ⟨rfl,by rw[List.replicate_succ']⟩
      · rintro ys S2 ⟨rfl,rfl⟩
        refine⟨trivial,?_⟩
        exact q _ _ xE rfl
theorem law_holds (ns:List Int) (h:ns.length≤63):w_law K cl (ns,()) (fun b _=>b=true) (fun _ _=>False) (fun _=>none):=by
  unfold w_law
  wtm_at "m"
  refine⟨by omega,?_⟩
  refine for_ap (fun _ _ _=>True) ?_ ?_ trivial
  · rintro i k s S N hk _ hN
    have hk':=rg_mem (List.mem_of_getElem? hk)
    refine⟨trivial,(show (0:Int)≤k by omega),(show k<100 by omega),fun p hp=> ?_⟩
    have hp':(S.set p .pot) p=some (Cell.pot (K:=K)):=set_same
    generalize S.set p .pot=S1 at hp'
    refine (v_law_width hp' (by decide) (by decide)).ap fun n hn=> ?_
    obtain⟨n,rfl⟩:=Int.eq_ofNat_of_zero_le (show 0≤n by omega)
    refine (v_law_pairs hp' (by omega) (by decide) (by decide)).ap fun xs hx=> ?_
    refine (v_law_right hp' (by omega) (by omega) hx.1 (by omega)).ap fun y S2 _ hy=> ?_
    subst hy
    rw[if_t]
    exact hN _ _ trivial
  · rintro s S _
    exact⟨trivial,rfl⟩
end
noncomputable section
open PySem PySem.W PySem.Calls
abbrev kh:=PyData.keyHash
abbrev nd:=BT.node
abbrev nl:=BT.nil
abbrev lf (o:Obj):BT:=BT.node o .nil .nil
abbrev fo0 (n q:Str) (s:Stmt):Obj:=⟨.none,none,.func { name:=n,qualname:=q,params:=defArgs s,body:= .stmts (defBody s),scope:=defScope s,globals:=0,closure:= [],defaults:= .none,kwdefaults:= .none,doc:= .none,pyModule:= .none,annotations:=none,code:= .none,closureTuple:= .none,builtins:=0 },#[]⟩
abbrev fo1 (n q:Str) (s:Stmt) (a b c d e f:Value):Obj:=⟨(.type "function"),none,.func (fnOf n q (defArgs s) (defBody s) (defScope s) a b c d none e f),#[]⟩
abbrev fo2 (n:Str) (n1:Tok) (q:Str) (q1 t:Tok) (i1:Int) (u1:Tok) (i2:Int) (u2:Tok) (i3:Int) (u3:Tok) (i4:Int) (u4:Tok) (i5:Int) (u5:Tok) (a:Value) (b:Bool) (c d e f:Value) (i6:Int) (u6:Tok) (i7:Int) (u7 t2:Tok):Obj:= .mk (.type "code") none (.fields #[.str n n1,.str q q1,.str "/claim/cut.py" t,.int i1 u1,.int i2 u2,.int i3 u3,.int i4 u4,.int i5 u5,a,.bool b,.int 181 0,c,.none,d,e,f,.int i6 u6,.int i7 u7,.str "/claim/cut.py" t2]) #[]
abbrev fo3 (P:Params) (k:Str) (t:Tok) (v:Value):DictEntry:= .mk (kh P k) (.str k t) v
def o0 (P:Params):Obj:=(.mk (.type "tuple") none (.seq #[] 0) #[])
def o1 (P:Params):Obj:=(.mk .none none (.fields #[]) #[])
def o2 (P:Params):Obj:=fo2 "<module>" 182 "<module>" 183 184 1 0 0 0 0 0 0 0 0 0 (.ref 11) false (.ref 12) .none .none .none 185 0 1 0 186
def o3 (P:Params):Obj:=(.mk (.type "frame") none .plain #[(some (.ref 13)),(some (.ref 3)),(some (.ref 3)),none,(some (.str "__main__" 164)),none,(some (.ref 0))])
def o4 (P:Params):Obj:=(.mk .none none (.dict #[(fo3 P "type.__subclasses__.ArithmeticError.0" 230 (.int 44 0)),(fo3 P "type.__subclasses__.ArithmeticError.n" 231 (.int 1 0))] 2) #[])
def o5 (P:Params):Obj:=(.mk (.type "dict") none (.dict #[(fo3 P "__name__" 165 (.str "paritycells.errors" 194)),(fo3 P "__doc__" 166 .none),(fo3 P "__package__" 167 .none),(fo3 P "__loader__" 168 (.builtin "__main__.__loader__#opaque")),(fo3 P "__spec__" 169 .none),(fo3 P "__annotations__" 170 (.ref 6)),(fo3 P "__builtins__" 171 (.ref 4)),(fo3 P "__file__" 173 (.str "/claim/cut.py" 172)),(fo3 P "__cached__" 174 .none),(fo3 P "_wall" 193 (.ref 21)),(fo3 P "CellError" 213 (.ref 31)),(fo3 P "LimitError" 233 (.ref 44)),(fo3 P "NoSize" 258 (.ref 64)),(fo3 P "NoCell" 283 (.ref 83)),(fo3 P "NoCells" 308 (.ref 102)),(fo3 P "NoFlip" 333 (.ref 121))] 16) #[])
def o6 (P:Params):Obj:=(.mk .none none (.fields #[(.int 1 0),(.int 0 0),(.ref 20),(.int 5 0),(.int 0 0),(.ref 27),(.int 7 0),(.int 0 0),(.ref 40),(.int 9 0),(.int 0 0),(.ref 53),(.int 14 0),(.int 0 0),(.ref 72),(.int 19 0),(.int 0 0),(.ref 91),(.int 24 0),(.int 0 0),(.ref 110)]) #[])
def o7 (P:Params):Obj:=(.mk (.type "tuple") none (.seq #[(.str "k" 190)] 0) #[])
def o8 (P:Params):Obj:=fo0 "_wall" "_wall" (topS 0)
def o9 (P:Params):Obj:=fo2 "_wall" 187 "_wall" 188 189 1 0 1 0 0 0 0 0 3 0 (.ref 15) true (.ref 16) (.ref 17) (.ref 18) (.ref 19) 191 0 1 0 192
def o10 (P:Params):Obj:=fo1 "_wall" "_wall" (topS 0) .none .none .none (.str "__main__" 164) (.ref 20) .none
def o11 (P:Params):Obj:=(.mk (.type "tuple") none (.seq #[(.type "ValueError")] 0) #[])
def o12 (P:Params):Obj:=(.mk (.type "builtin_function_or_method") none (.fields #[(.builtin "type.__prepare__"),(.type "type")]) #[])
def o13 (P:Params):Obj:=(.mk (.type "dict") none (.dict #[(fo3 P "__module__" 203 (.str "paritycells.errors" 194)),(fo3 P "__qualname__" 205 (.str "CellError" 204)),(fo3 P "__firstlineno__" 207 (.int 5 206)),(fo3 P "__static_attributes__" 208 (.ref 29))] 4) #[])
def o14 (P:Params):Obj:=fo2 "CellError" 198 "CellError" 199 200 5 0 0 0 0 0 0 0 0 0 (.ref 25) false (.ref 26) .none .none .none 201 0 5 0 202
def o15 (P:Params):Obj:=(.mk (.type "frame") none .plain #[(some (.ref 27)),(some (.ref 3)),(some (.ref 24)),none,(some (.str "paritycells.errors" 194)),none,(some (.ref 0))])
def o16 (P:Params):Obj:=(.mk (.type "dict") none (.dict #[(fo3 P "__module__" 203 (.str "paritycells.errors" 194)),(fo3 P "__firstlineno__" 207 (.int 5 206)),(fo3 P "__static_attributes__" 208 (.ref 29)),(fo3 P "__weakref__" 210 (.ref 32)),(fo3 P "__doc__" 211 .none)] 3) #[])
def o17 (P:Params):Obj:=(.mk (.type "type") none (.cls (.mk "CellError" [(.type "ValueError")] [(.ref 31),(.type "ValueError"),(.type "Exception"),(.type "BaseException"),(.type "object")] 30 "CellError" true [] [(.ref 64),(.ref 83),(.ref 102),(.ref 121)] false none false)) #[(some (.ref 22)),none,(some (.str "CellError" 196)),(some (.str "CellError" 204)),(some (.builtin "ValueError.__new__")),(some (.bool true))])
def o18 (P:Params):Obj:=(.mk (.type "getset_descriptor") none (.fields #[(.str "__weakref__" 209),(.ref 31),(.builtin "ExceptionGroup.__weakref__"),.none]) #[])
def o19 (P:Params):Obj:=(.mk (.type "super") none (.fields #[(.ref 31),(.ref 31),(.ref 31)]) #[])
def o20 (P:Params):Obj:=(.mk (.type "builtin_function_or_method") none (.fields #[(.builtin "object.__init_subclass__"),(.ref 31)]) #[])
def o21 (P:Params):Obj:=(.mk (.type "tuple") none (.seq #[(.type "ArithmeticError")] 0) #[])
def o22 (P:Params):Obj:=(.mk (.type "dict") none (.dict #[(fo3 P "__module__" 221 (.str "paritycells.errors" 194)),(fo3 P "__qualname__" 223 (.str "LimitError" 222)),(fo3 P "__firstlineno__" 225 (.int 7 224)),(fo3 P "__static_attributes__" 226 (.ref 42))] 4) #[])
def o23 (P:Params):Obj:=fo2 "LimitError" 216 "LimitError" 217 218 7 0 0 0 0 0 0 0 0 0 (.ref 38) false (.ref 39) .none .none .none 219 0 7 0 220
def o24 (P:Params):Obj:=(.mk (.type "frame") none .plain #[(some (.ref 40)),(some (.ref 3)),(some (.ref 37)),none,(some (.str "paritycells.errors" 194)),none,(some (.ref 0))])
def o25 (P:Params):Obj:=(.mk (.type "dict") none (.dict #[(fo3 P "__module__" 221 (.str "paritycells.errors" 194)),(fo3 P "__firstlineno__" 225 (.int 7 224)),(fo3 P "__static_attributes__" 226 (.ref 42)),(fo3 P "__weakref__" 228 (.ref 45)),(fo3 P "__doc__" 229 .none)] 3) #[])
def o26 (P:Params):Obj:=(.mk (.type "type") none (.cls (.mk "LimitError" [(.type "ArithmeticError")] [(.ref 44),(.type "ArithmeticError"),(.type "Exception"),(.type "BaseException"),(.type "object")] 43 "LimitError" true [] [] false none false)) #[(some (.ref 35)),none,(some (.str "LimitError" 214)),(some (.str "LimitError" 222)),(some (.builtin "ArithmeticError.__new__")),(some (.bool true))])
def o27 (P:Params):Obj:=(.mk (.type "getset_descriptor") none (.fields #[(.str "__weakref__" 227),(.ref 44),(.builtin "ExceptionGroup.__weakref__"),.none]) #[])
def o28 (P:Params):Obj:=(.mk (.type "super") none (.fields #[(.ref 44),(.ref 44),(.ref 44)]) #[])
def o29 (P:Params):Obj:=(.mk (.type "builtin_function_or_method") none (.fields #[(.builtin "object.__init_subclass__"),(.ref 44)]) #[])
def o30 (P:Params):Obj:=(.mk (.type "tuple") none (.seq #[(.ref 31)] 0) #[])
def o31 (P:Params):Obj:=(.mk (.type "dict") none (.dict #[(fo3 P "__module__" 241 (.str "paritycells.errors" 194)),(fo3 P "__qualname__" 243 (.str "NoSize" 242)),(fo3 P "__firstlineno__" 245 (.int 9 244)),(fo3 P "__init__" 253 (.ref 61)),(fo3 P "__static_attributes__" 255 (.ref 62))] 5) #[])
def o32 (P:Params):Obj:=(.mk .none none (.fields #[(.int 11 0),(.int 4 0),(.ref 60)]) #[])
def o33 (P:Params):Obj:=fo2 "NoSize" 236 "NoSize" 237 238 9 0 0 0 0 0 0 0 0 0 (.ref 51) false (.ref 52) .none .none .none 239 0 9 0 240
def o34 (P:Params):Obj:=(.mk (.type "frame") none .plain #[(some (.ref 53)),(some (.ref 3)),(some (.ref 50)),none,(some (.str "paritycells.errors" 194)),none,(some (.ref 0))])
def o35 (P:Params):Obj:=(.mk (.type "tuple") none (.seq #[(.str "self" 249),(.str "value" 250)] 0) #[])
def o36 (P:Params):Obj:=fo0 "__init__" "NoSize.__init__" (clsS 4 0)
def o37 (P:Params):Obj:=fo2 "__init__" 246 "NoSize.__init__" 247 248 11 0 2 0 0 0 0 0 3 0 (.ref 55) true (.ref 56) (.ref 57) (.ref 58) (.ref 59) 251 0 11 0 252
def o38 (P:Params):Obj:=fo1 "__init__" "NoSize.__init__" (clsS 4 0) .none .none .none (.str "paritycells.errors" 194) (.ref 60) .none
def o39 (P:Params):Obj:=(.mk (.type "tuple") none (.seq #[(.str "value" 254)] 0) #[])
def o40 (P:Params):Obj:=(.mk (.type "dict") none (.dict #[(fo3 P "__module__" 241 (.str "paritycells.errors" 194)),(fo3 P "__firstlineno__" 245 (.int 9 244)),(fo3 P "__init__" 253 (.ref 61)),(fo3 P "__static_attributes__" 255 (.ref 62)),(fo3 P "__doc__" 256 .none)] 2) #[])
def o41 (P:Params):Obj:=(.mk (.type "type") none (.cls (.mk "NoSize" [(.ref 31)] [(.ref 64),(.ref 31),(.type "ValueError"),(.type "Exception"),(.type "BaseException"),(.type "object")] 63 "NoSize" true [] [] false none false)) #[(some (.ref 48)),none,(some (.str "NoSize" 234)),(some (.str "NoSize" 242)),(some (.builtin "ValueError.__new__")),(some (.bool true))])
def o42 (P:Params):Obj:=(.mk (.type "super") none (.fields #[(.ref 64),(.ref 64),(.ref 64)]) #[])
def o43 (P:Params):Obj:=(.mk (.type "builtin_function_or_method") none (.fields #[(.builtin "object.__init_subclass__"),(.ref 64)]) #[])
def o44 (P:Params):Obj:=(.mk (.type "dict") none (.dict #[(fo3 P "__module__" 266 (.str "paritycells.errors" 194)),(fo3 P "__qualname__" 268 (.str "NoCell" 267)),(fo3 P "__firstlineno__" 270 (.int 14 269)),(fo3 P "__init__" 278 (.ref 80)),(fo3 P "__static_attributes__" 280 (.ref 81))] 5) #[])
def o45 (P:Params):Obj:=(.mk .none none (.fields #[(.int 16 0),(.int 4 0),(.ref 79)]) #[])
def o46 (P:Params):Obj:=fo2 "NoCell" 261 "NoCell" 262 263 14 0 0 0 0 0 0 0 0 0 (.ref 70) false (.ref 71) .none .none .none 264 0 14 0 265
def o47 (P:Params):Obj:=(.mk (.type "frame") none .plain #[(some (.ref 72)),(some (.ref 3)),(some (.ref 69)),none,(some (.str "paritycells.errors" 194)),none,(some (.ref 0))])
def o48 (P:Params):Obj:=(.mk (.type "tuple") none (.seq #[(.str "self" 274),(.str "cell" 275)] 0) #[])
def o49 (P:Params):Obj:=fo0 "__init__" "NoCell.__init__" (clsS 5 0)
def o50 (P:Params):Obj:=fo2 "__init__" 271 "NoCell.__init__" 272 273 16 0 2 0 0 0 0 0 3 0 (.ref 74) true (.ref 75) (.ref 76) (.ref 77) (.ref 78) 276 0 16 0 277
def o51 (P:Params):Obj:=fo1 "__init__" "NoCell.__init__" (clsS 5 0) .none .none .none (.str "paritycells.errors" 194) (.ref 79) .none
def o52 (P:Params):Obj:=(.mk (.type "tuple") none (.seq #[(.str "cell" 279)] 0) #[])
def o53 (P:Params):Obj:=(.mk (.type "dict") none (.dict #[(fo3 P "__module__" 266 (.str "paritycells.errors" 194)),(fo3 P "__firstlineno__" 270 (.int 14 269)),(fo3 P "__init__" 278 (.ref 80)),(fo3 P "__static_attributes__" 280 (.ref 81)),(fo3 P "__doc__" 281 .none)] 2) #[])
def o54 (P:Params):Obj:=(.mk (.type "type") none (.cls (.mk "NoCell" [(.ref 31)] [(.ref 83),(.ref 31),(.type "ValueError"),(.type "Exception"),(.type "BaseException"),(.type "object")] 82 "NoCell" true [] [] false none false)) #[(some (.ref 67)),none,(some (.str "NoCell" 259)),(some (.str "NoCell" 267)),(some (.builtin "ValueError.__new__")),(some (.bool true))])
def o55 (P:Params):Obj:=(.mk (.type "super") none (.fields #[(.ref 83),(.ref 83),(.ref 83)]) #[])
def o56 (P:Params):Obj:=(.mk (.type "builtin_function_or_method") none (.fields #[(.builtin "object.__init_subclass__"),(.ref 83)]) #[])
def o57 (P:Params):Obj:=(.mk (.type "dict") none (.dict #[(fo3 P "__module__" 291 (.str "paritycells.errors" 194)),(fo3 P "__qualname__" 293 (.str "NoCells" 292)),(fo3 P "__firstlineno__" 295 (.int 19 294)),(fo3 P "__init__" 303 (.ref 99)),(fo3 P "__static_attributes__" 305 (.ref 100))] 5) #[])
def o58 (P:Params):Obj:=(.mk .none none (.fields #[(.int 21 0),(.int 4 0),(.ref 98)]) #[])
def o59 (P:Params):Obj:=fo2 "NoCells" 286 "NoCells" 287 288 19 0 0 0 0 0 0 0 0 0 (.ref 89) false (.ref 90) .none .none .none 289 0 19 0 290
def o60 (P:Params):Obj:=(.mk (.type "frame") none .plain #[(some (.ref 91)),(some (.ref 3)),(some (.ref 88)),none,(some (.str "paritycells.errors" 194)),none,(some (.ref 0))])
def o61 (P:Params):Obj:=(.mk (.type "tuple") none (.seq #[(.str "self" 299),(.str "cells" 300)] 0) #[])
def o62 (P:Params):Obj:=fo0 "__init__" "NoCells.__init__" (clsS 6 0)
def o63 (P:Params):Obj:=fo2 "__init__" 296 "NoCells.__init__" 297 298 21 0 2 0 0 0 0 0 3 0 (.ref 93) true (.ref 94) (.ref 95) (.ref 96) (.ref 97) 301 0 21 0 302
def o64 (P:Params):Obj:=fo1 "__init__" "NoCells.__init__" (clsS 6 0) .none .none .none (.str "paritycells.errors" 194) (.ref 98) .none
def o65 (P:Params):Obj:=(.mk (.type "tuple") none (.seq #[(.str "cells" 304)] 0) #[])
def o66 (P:Params):Obj:=(.mk (.type "dict") none (.dict #[(fo3 P "__module__" 291 (.str "paritycells.errors" 194)),(fo3 P "__firstlineno__" 295 (.int 19 294)),(fo3 P "__init__" 303 (.ref 99)),(fo3 P "__static_attributes__" 305 (.ref 100)),(fo3 P "__doc__" 306 .none)] 2) #[])
def o67 (P:Params):Obj:=(.mk (.type "type") none (.cls (.mk "NoCells" [(.ref 31)] [(.ref 102),(.ref 31),(.type "ValueError"),(.type "Exception"),(.type "BaseException"),(.type "object")] 101 "NoCells" true [] [] false none false)) #[(some (.ref 86)),none,(some (.str "NoCells" 284)),(some (.str "NoCells" 292)),(some (.builtin "ValueError.__new__")),(some (.bool true))])
def o68 (P:Params):Obj:=(.mk (.type "super") none (.fields #[(.ref 102),(.ref 102),(.ref 102)]) #[])
def o69 (P:Params):Obj:=(.mk (.type "builtin_function_or_method") none (.fields #[(.builtin "object.__init_subclass__"),(.ref 102)]) #[])
def o70 (P:Params):Obj:=(.mk (.type "dict") none (.dict #[(fo3 P "__module__" 316 (.str "paritycells.errors" 194)),(fo3 P "__qualname__" 318 (.str "NoFlip" 317)),(fo3 P "__firstlineno__" 320 (.int 24 319)),(fo3 P "__init__" 328 (.ref 118)),(fo3 P "__static_attributes__" 330 (.ref 119))] 5) #[])
def o71 (P:Params):Obj:=(.mk .none none (.fields #[(.int 26 0),(.int 4 0),(.ref 117)]) #[])
def o72 (P:Params):Obj:=fo2 "NoFlip" 311 "NoFlip" 312 313 24 0 0 0 0 0 0 0 0 0 (.ref 108) false (.ref 109) .none .none .none 314 0 24 0 315
def o73 (P:Params):Obj:=(.mk (.type "frame") none .plain #[(some (.ref 110)),(some (.ref 3)),(some (.ref 107)),none,(some (.str "paritycells.errors" 194)),none,(some (.ref 0))])
def o74 (P:Params):Obj:=(.mk (.type "tuple") none (.seq #[(.str "self" 324),(.str "why" 325)] 0) #[])
def o75 (P:Params):Obj:=fo0 "__init__" "NoFlip.__init__" (clsS 7 0)
def o76 (P:Params):Obj:=fo2 "__init__" 321 "NoFlip.__init__" 322 323 26 0 2 0 0 0 0 0 3 0 (.ref 112) true (.ref 113) (.ref 114) (.ref 115) (.ref 116) 326 0 26 0 327
def o77 (P:Params):Obj:=fo1 "__init__" "NoFlip.__init__" (clsS 7 0) .none .none .none (.str "paritycells.errors" 194) (.ref 117) .none
def o78 (P:Params):Obj:=(.mk (.type "tuple") none (.seq #[(.str "why" 329)] 0) #[])
def o79 (P:Params):Obj:=(.mk (.type "dict") none (.dict #[(fo3 P "__module__" 316 (.str "paritycells.errors" 194)),(fo3 P "__firstlineno__" 320 (.int 24 319)),(fo3 P "__init__" 328 (.ref 118)),(fo3 P "__static_attributes__" 330 (.ref 119)),(fo3 P "__doc__" 331 .none)] 2) #[])
def o80 (P:Params):Obj:=(.mk (.type "type") none (.cls (.mk "NoFlip" [(.ref 31)] [(.ref 121),(.ref 31),(.type "ValueError"),(.type "Exception"),(.type "BaseException"),(.type "object")] 120 "NoFlip" true [] [] false none false)) #[(some (.ref 105)),none,(some (.str "NoFlip" 309)),(some (.str "NoFlip" 317)),(some (.builtin "ValueError.__new__")),(some (.bool true))])
def o81 (P:Params):Obj:=(.mk (.type "super") none (.fields #[(.ref 121),(.ref 121),(.ref 121)]) #[])
def o82 (P:Params):Obj:=(.mk (.type "builtin_function_or_method") none (.fields #[(.builtin "object.__init_subclass__"),(.ref 121)]) #[])
def o83 (P:Params):Obj:=(.mk (.type "dict") none (.dict #[(fo3 P "__name__" 165 (.str "paritycells.flips" 567)),(fo3 P "__doc__" 166 .none),(fo3 P "__package__" 167 .none),(fo3 P "__loader__" 168 (.builtin "__main__.__loader__#opaque")),(fo3 P "__spec__" 169 .none),(fo3 P "__annotations__" 170 (.ref 6)),(fo3 P "__builtins__" 171 (.ref 4)),(fo3 P "__file__" 173 (.str "/claim/cut.py" 172)),(fo3 P "__cached__" 174 .none),(fo3 P "_wall" 193 (.ref 21)),(fo3 P "CellError" 213 (.ref 31)),(fo3 P "LimitError" 233 (.ref 44)),(fo3 P "NoSize" 258 (.ref 64)),(fo3 P "NoCell" 283 (.ref 83)),(fo3 P "NoCells" 308 (.ref 102)),(fo3 P "NoFlip" 333 (.ref 121)),(fo3 P "NoTable" 358 (.ref 140)),(fo3 P "TooWide" 383 (.ref 159)),(fo3 P "MOST_CELLS" 387 (.int 40 386)),(fo3 P "is_integer_in" 396 (.ref 168)),(fo3 P "is_cell" 405 (.ref 176)),(fo3 P "require_size" 412 (.ref 183)),(fo3 P "mask_of" 418 (.ref 188)),(fo3 P "mask_of_cells" 419 (.ref 188)),(fo3 P "cells_in" 425 (.ref 193)),(fo3 P "cells_in_cells" 426 (.ref 193)),(fo3 P "is_odd" 435 (.ref 200)),(fo3 P "cell_tuple" 442 (.ref 206)),(fo3 P "cell_mask" 450 (.ref 213)),(fo3 P "mask_text" 456 (.ref 218)),(fo3 P "Board" 558 (.ref 298)),(fo3 P "board_of" 566 (.ref 309))] 32) #[])
def o84 (P:Params):Obj:=(.mk .none none (.fields #[(.int 1 0),(.int 0 0),(.ref 20),(.int 5 0),(.int 0 0),(.ref 27),(.int 7 0),(.int 0 0),(.ref 40),(.int 9 0),(.int 0 0),(.ref 53),(.int 14 0),(.int 0 0),(.ref 72),(.int 19 0),(.int 0 0),(.ref 91),(.int 24 0),(.int 0 0),(.ref 110),(.int 29 0),(.int 0 0),(.ref 129),(.int 34 0),(.int 0 0),(.ref 148),(.int 41 0),(.int 0 0),(.ref 167),(.int 43 0),(.int 0 0),(.ref 175),(.int 45 0),(.int 0 0),(.ref 182),(.int 48 0),(.int 0 0),(.ref 187),(.int 51 0),(.int 0 0),(.ref 192),(.int 54 0),(.int 0 0),(.ref 199),(.int 60 0),(.int 0 0),(.ref 205),(.int 67 0),(.int 0 0),(.ref 212),(.int 69 0),(.int 0 0),(.ref 217),(.int 74 0),(.int 0 0),(.ref 224),(.int 112 0),(.int 0 0),(.ref 308)]) #[])
def o85 (P:Params):Obj:=(.mk (.type "type") none (.cls (.mk "CellError" [(.type "ValueError")] [(.ref 31),(.type "ValueError"),(.type "Exception"),(.type "BaseException"),(.type "object")] 30 "CellError" true [] [(.ref 64),(.ref 83),(.ref 102),(.ref 121),(.ref 140)] false none false)) #[(some (.ref 22)),none,(some (.str "CellError" 196)),(some (.str "CellError" 204)),(some (.builtin "ValueError.__new__")),(some (.bool true))])
def o86 (P:Params):Obj:=(.mk (.type "type") none (.cls (.mk "LimitError" [(.type "ArithmeticError")] [(.ref 44),(.type "ArithmeticError"),(.type "Exception"),(.type "BaseException"),(.type "object")] 43 "LimitError" true [] [(.ref 159)] false none false)) #[(some (.ref 35)),none,(some (.str "LimitError" 214)),(some (.str "LimitError" 222)),(some (.builtin "ArithmeticError.__new__")),(some (.bool true))])
def o87 (P:Params):Obj:=(.mk (.type "dict") none (.dict #[(fo3 P "__module__" 341 (.str "paritycells.errors" 194)),(fo3 P "__qualname__" 343 (.str "NoTable" 342)),(fo3 P "__firstlineno__" 345 (.int 29 344)),(fo3 P "__init__" 353 (.ref 137)),(fo3 P "__static_attributes__" 355 (.ref 138))] 5) #[])
def o88 (P:Params):Obj:=(.mk .none none (.fields #[(.int 31 0),(.int 4 0),(.ref 136)]) #[])
def o89 (P:Params):Obj:=fo2 "NoTable" 336 "NoTable" 337 338 29 0 0 0 0 0 0 0 0 0 (.ref 127) false (.ref 128) .none .none .none 339 0 29 0 340
def o90 (P:Params):Obj:=(.mk (.type "frame") none .plain #[(some (.ref 129)),(some (.ref 3)),(some (.ref 126)),none,(some (.str "paritycells.errors" 194)),none,(some (.ref 0))])
def o91 (P:Params):Obj:=(.mk (.type "tuple") none (.seq #[(.str "self" 349),(.str "why" 350)] 0) #[])
def o92 (P:Params):Obj:=fo0 "__init__" "NoTable.__init__" (clsS 8 0)
def o93 (P:Params):Obj:=fo2 "__init__" 346 "NoTable.__init__" 347 348 31 0 2 0 0 0 0 0 3 0 (.ref 131) true (.ref 132) (.ref 133) (.ref 134) (.ref 135) 351 0 31 0 352
def o94 (P:Params):Obj:=fo1 "__init__" "NoTable.__init__" (clsS 8 0) .none .none .none (.str "paritycells.errors" 194) (.ref 136) .none
def o95 (P:Params):Obj:=(.mk (.type "tuple") none (.seq #[(.str "why" 354)] 0) #[])
def o96 (P:Params):Obj:=(.mk (.type "dict") none (.dict #[(fo3 P "__module__" 341 (.str "paritycells.errors" 194)),(fo3 P "__firstlineno__" 345 (.int 29 344)),(fo3 P "__init__" 353 (.ref 137)),(fo3 P "__static_attributes__" 355 (.ref 138)),(fo3 P "__doc__" 356 .none)] 2) #[])
def o97 (P:Params):Obj:=(.mk (.type "type") none (.cls (.mk "NoTable" [(.ref 31)] [(.ref 140),(.ref 31),(.type "ValueError"),(.type "Exception"),(.type "BaseException"),(.type "object")] 139 "NoTable" true [] [] false none false)) #[(some (.ref 124)),none,(some (.str "NoTable" 334)),(some (.str "NoTable" 342)),(some (.builtin "ValueError.__new__")),(some (.bool true))])
def o98 (P:Params):Obj:=(.mk (.type "super") none (.fields #[(.ref 140),(.ref 140),(.ref 140)]) #[])
def o99 (P:Params):Obj:=(.mk (.type "builtin_function_or_method") none (.fields #[(.builtin "object.__init_subclass__"),(.ref 140)]) #[])
def o100 (P:Params):Obj:=(.mk (.type "tuple") none (.seq #[(.ref 44)] 0) #[])
def o101 (P:Params):Obj:=(.mk (.type "dict") none (.dict #[(fo3 P "__module__" 366 (.str "paritycells.errors" 194)),(fo3 P "__qualname__" 368 (.str "TooWide" 367)),(fo3 P "__firstlineno__" 370 (.int 34 369)),(fo3 P "__init__" 378 (.ref 156)),(fo3 P "__static_attributes__" 380 (.ref 157))] 5) #[])
def o102 (P:Params):Obj:=(.mk .none none (.fields #[(.int 36 0),(.int 4 0),(.ref 155)]) #[])
def o103 (P:Params):Obj:=fo2 "TooWide" 361 "TooWide" 362 363 34 0 0 0 0 0 0 0 0 0 (.ref 146) false (.ref 147) .none .none .none 364 0 34 0 365
def o104 (P:Params):Obj:=(.mk (.type "frame") none .plain #[(some (.ref 148)),(some (.ref 3)),(some (.ref 145)),none,(some (.str "paritycells.errors" 194)),none,(some (.ref 0))])
def o105 (P:Params):Obj:=(.mk (.type "tuple") none (.seq #[(.str "self" 374),(.str "needed" 375)] 0) #[])
def o106 (P:Params):Obj:=fo0 "__init__" "TooWide.__init__" (clsS 9 0)
def o107 (P:Params):Obj:=fo2 "__init__" 371 "TooWide.__init__" 372 373 36 0 2 0 0 0 0 0 3 0 (.ref 150) true (.ref 151) (.ref 152) (.ref 153) (.ref 154) 376 0 36 0 377
def o108 (P:Params):Obj:=fo1 "__init__" "TooWide.__init__" (clsS 9 0) .none .none .none (.str "paritycells.errors" 194) (.ref 155) .none
def o109 (P:Params):Obj:=(.mk (.type "tuple") none (.seq #[(.str "needed" 379)] 0) #[])
def o110 (P:Params):Obj:=(.mk (.type "dict") none (.dict #[(fo3 P "__module__" 366 (.str "paritycells.errors" 194)),(fo3 P "__firstlineno__" 370 (.int 34 369)),(fo3 P "__init__" 378 (.ref 156)),(fo3 P "__static_attributes__" 380 (.ref 157)),(fo3 P "__doc__" 381 .none)] 2) #[])
def o111 (P:Params):Obj:=(.mk (.type "type") none (.cls (.mk "TooWide" [(.ref 44)] [(.ref 159),(.ref 44),(.type "ArithmeticError"),(.type "Exception"),(.type "BaseException"),(.type "object")] 158 "TooWide" true [] [] false none false)) #[(some (.ref 143)),none,(some (.str "TooWide" 359)),(some (.str "TooWide" 367)),(some (.builtin "ArithmeticError.__new__")),(some (.bool true))])
def o112 (P:Params):Obj:=(.mk (.type "super") none (.fields #[(.ref 159),(.ref 159),(.ref 159)]) #[])
def o113 (P:Params):Obj:=(.mk (.type "builtin_function_or_method") none (.fields #[(.builtin "object.__init_subclass__"),(.ref 159)]) #[])
def o114 (P:Params):Obj:=(.mk (.type "tuple") none (.seq #[(.str "thing" 391),(.str "low" 392),(.str "high" 393)] 0) #[])
def o115 (P:Params):Obj:=fo0 "is_integer_in" "is_integer_in" (topS 12)
def o116 (P:Params):Obj:=fo2 "is_integer_in" 388 "is_integer_in" 389 390 41 0 3 0 0 0 0 0 3 0 (.ref 162) true (.ref 163) (.ref 164) (.ref 165) (.ref 166) 394 0 41 0 395
def o117 (P:Params):Obj:=fo1 "is_integer_in" "is_integer_in" (topS 12) .none .none .none (.str "paritycells.cells" 384) (.ref 167) .none
def o118 (P:Params):Obj:=(.mk (.type "dict") none (.dict #[(fo3 P "size" 397 (.int 40 386))] 1) #[])
def o119 (P:Params):Obj:=(.mk (.type "tuple") none (.seq #[(.str "thing" 401),(.str "size" 402)] 0) #[])
def o120 (P:Params):Obj:=fo0 "is_cell" "is_cell" (topS 13)
def o121 (P:Params):Obj:=fo2 "is_cell" 398 "is_cell" 399 400 43 0 1 0 0 0 1 0 3 0 (.ref 170) true (.ref 171) (.ref 172) (.ref 173) (.ref 174) 403 0 43 0 404
def o122 (P:Params):Obj:=fo1 "is_cell" "is_cell" (topS 13) .none (.ref 169) .none (.str "paritycells.cells" 384) (.ref 175) .none
def o123 (P:Params):Obj:=(.mk (.type "tuple") none (.seq #[(.str "size" 409)] 0) #[])
def o124 (P:Params):Obj:=fo0 "require_size" "require_size" (topS 14)
def o125 (P:Params):Obj:=fo2 "require_size" 406 "require_size" 407 408 45 0 1 0 0 0 0 0 3 0 (.ref 177) true (.ref 178) (.ref 179) (.ref 180) (.ref 181) 410 0 45 0 411
def o126 (P:Params):Obj:=fo1 "require_size" "require_size" (topS 14) .none .none .none (.str "paritycells.cells" 384) (.ref 182) .none
def o127 (P:Params):Obj:=fo0 "mask_of" "mask_of" (topS 15)
def o128 (P:Params):Obj:=fo2 "mask_of" 413 "mask_of" 414 415 48 0 1 0 0 0 0 0 3 0 (.ref 184) true (.ref 185) .none .none (.ref 186) 416 0 48 0 417
def o129 (P:Params):Obj:=fo1 "mask_of" "mask_of" (topS 15) .none .none .none (.str "paritycells.cells" 384) (.ref 187) .none
def o130 (P:Params):Obj:=fo0 "cells_in" "cells_in" (topS 17)
def o131 (P:Params):Obj:=fo2 "cells_in" 420 "cells_in" 421 422 51 0 1 0 0 0 0 0 3 0 (.ref 189) true (.ref 190) .none .none (.ref 191) 423 0 51 0 424
def o132 (P:Params):Obj:=fo1 "cells_in" "cells_in" (topS 17) .none .none .none (.str "paritycells.cells" 384) (.ref 192) .none
def o133 (P:Params):Obj:=(.mk (.type "tuple") none (.seq #[(.str "mask" 430),(.str "rest" 431),(.str "found" 432)] 0) #[])
def o134 (P:Params):Obj:=fo0 "is_odd" "is_odd" (topS 19)
def o135 (P:Params):Obj:=fo2 "is_odd" 427 "is_odd" 428 429 54 0 1 0 0 0 0 0 3 0 (.ref 194) true (.ref 195) (.ref 196) (.ref 197) (.ref 198) 433 0 54 0 434
def o136 (P:Params):Obj:=fo1 "is_odd" "is_odd" (topS 19) .none .none .none (.str "paritycells.cells" 384) (.ref 199) .none
def o137 (P:Params):Obj:=(.mk (.type "dict") none (.dict #[(fo3 P "size" 436 (.int 40 386))] 1) #[])
def o138 (P:Params):Obj:=fo0 "cell_tuple" "cell_tuple" (topS 20)
def o139 (P:Params):Obj:=fo2 "cell_tuple" 437 "cell_tuple" 438 439 60 0 1 0 0 0 1 0 3 0 (.ref 202) true (.ref 203) .none .none (.ref 204) 440 0 60 0 441
def o140 (P:Params):Obj:=fo1 "cell_tuple" "cell_tuple" (topS 20) .none (.ref 201) .none (.str "paritycells.cells" 384) (.ref 205) .none
def o141 (P:Params):Obj:=(.mk (.type "tuple") none (.seq #[(.str "things" 446),(.str "size" 447)] 0) #[])
def o142 (P:Params):Obj:=fo0 "cell_mask" "cell_mask" (topS 21)
def o143 (P:Params):Obj:=fo2 "cell_mask" 443 "cell_mask" 444 445 67 0 2 0 0 0 0 0 3 0 (.ref 207) true (.ref 208) (.ref 209) (.ref 210) (.ref 211) 448 0 67 0 449
def o144 (P:Params):Obj:=fo1 "cell_mask" "cell_mask" (topS 21) .none .none .none (.str "paritycells.cells" 384) (.ref 212) .none
def o145 (P:Params):Obj:=fo0 "mask_text" "mask_text" (topS 22)
def o146 (P:Params):Obj:=fo2 "mask_text" 451 "mask_text" 452 453 69 0 1 0 0 0 0 0 3 0 (.ref 214) true (.ref 215) .none .none (.ref 216) 454 0 69 0 455
def o147 (P:Params):Obj:=fo1 "mask_text" "mask_text" (topS 22) .none .none .none (.str "paritycells.cells" 384) (.ref 217) .none
def o148 (P:Params):Obj:=(.mk (.type "dict") none (.dict #[(fo3 P "__module__" 466 (.str "paritycells.boards" 457)),(fo3 P "__qualname__" 468 (.str "Board" 467)),(fo3 P "__firstlineno__" 470 (.int 74 469)),(fo3 P "__init__" 480 (.ref 234)),(fo3 P "size" 487 (.ref 241)),(fo3 P "up" 494 (.ref 248)),(fo3 P "is_up" 502 (.ref 255)),(fo3 P "parity" 510 (.ref 262)),(fo3 P "toggled" 519 (.ref 269)),(fo3 P "__eq__" 527 (.ref 276)),(fo3 P "__len__" 534 (.ref 283)),(fo3 P "__repr__" 541 (.ref 290)),(fo3 P "__str__" 547 (.ref 295)),(fo3 P "__static_attributes__" 550 (.ref 296))] 14) #[])
def o149 (P:Params):Obj:=(.mk .none none (.fields #[(.int 76 0),(.int 4 0),(.ref 233),(.int 81 0),(.int 4 0),(.ref 240),(.int 84 0),(.int 4 0),(.ref 247),(.int 87 0),(.int 4 0),(.ref 254),(.int 90 0),(.int 4 0),(.ref 261),(.int 93 0),(.int 4 0),(.ref 268),(.int 99 0),(.int 4 0),(.ref 275),(.int 104 0),(.int 4 0),(.ref 282),(.int 107 0),(.int 4 0),(.ref 289),(.int 110 0),(.int 4 0),(.ref 294)]) #[])
def o150 (P:Params):Obj:=fo2 "Board" 461 "Board" 462 463 74 0 0 0 0 0 0 0 0 0 (.ref 222) false (.ref 223) .none .none .none 464 0 74 0 465
def o151 (P:Params):Obj:=(.mk (.type "frame") none .plain #[(some (.ref 224)),(some (.ref 3)),(some (.ref 221)),none,(some (.str "paritycells.boards" 457)),none,(some (.ref 0))])
def o152 (P:Params):Obj:=(.mk (.type "dict") none (.dict #[(fo3 P "up" 471 (.ref 226))] 1) #[])
def o153 (P:Params):Obj:=(.mk (.type "tuple") none (.seq #[(.str "self" 475),(.str "size" 476),(.str "up" 477)] 0) #[])
def o154 (P:Params):Obj:=fo0 "__init__" "Board.__init__" (clsS 24 0)
def o155 (P:Params):Obj:=fo2 "__init__" 472 "Board.__init__" 473 474 76 0 2 0 0 0 1 0 3 0 (.ref 228) true (.ref 229) (.ref 230) (.ref 231) (.ref 232) 478 0 76 0 479
def o156 (P:Params):Obj:=fo1 "__init__" "Board.__init__" (clsS 24 0) .none (.ref 227) .none (.str "paritycells.boards" 457) (.ref 233) .none
def o157 (P:Params):Obj:=(.mk (.type "tuple") none (.seq #[(.str "self" 484)] 0) #[])
def o158 (P:Params):Obj:=fo0 "size" "Board.size" (clsS 24 1)
def o159 (P:Params):Obj:=fo2 "size" 481 "Board.size" 482 483 81 0 1 0 0 0 0 0 3 0 (.ref 235) true (.ref 236) (.ref 237) (.ref 238) (.ref 239) 485 0 81 0 486
def o160 (P:Params):Obj:=fo1 "size" "Board.size" (clsS 24 1) .none .none .none (.str "paritycells.boards" 457) (.ref 240) .none
def o161 (P:Params):Obj:=(.mk (.type "tuple") none (.seq #[(.str "self" 491)] 0) #[])
def o162 (P:Params):Obj:=fo0 "up" "Board.up" (clsS 24 2)
def o163 (P:Params):Obj:=fo2 "up" 488 "Board.up" 489 490 84 0 1 0 0 0 0 0 3 0 (.ref 242) true (.ref 243) (.ref 244) (.ref 245) (.ref 246) 492 0 84 0 493
def o164 (P:Params):Obj:=fo1 "up" "Board.up" (clsS 24 2) .none .none .none (.str "paritycells.boards" 457) (.ref 247) .none
def o165 (P:Params):Obj:=(.mk (.type "tuple") none (.seq #[(.str "self" 498),(.str "cell" 499)] 0) #[])
def o166 (P:Params):Obj:=fo0 "is_up" "Board.is_up" (clsS 24 3)
def o167 (P:Params):Obj:=fo2 "is_up" 495 "Board.is_up" 496 497 87 0 2 0 0 0 0 0 3 0 (.ref 249) true (.ref 250) (.ref 251) (.ref 252) (.ref 253) 500 0 87 0 501
def o168 (P:Params):Obj:=fo1 "is_up" "Board.is_up" (clsS 24 3) .none .none .none (.str "paritycells.boards" 457) (.ref 254) .none
def o169 (P:Params):Obj:=(.mk (.type "tuple") none (.seq #[(.str "self" 506),(.str "cells" 507)] 0) #[])
def o170 (P:Params):Obj:=fo0 "parity" "Board.parity" (clsS 24 4)
def o171 (P:Params):Obj:=fo2 "parity" 503 "Board.parity" 504 505 90 0 2 0 0 0 0 0 3 0 (.ref 256) true (.ref 257) (.ref 258) (.ref 259) (.ref 260) 508 0 90 0 509
def o172 (P:Params):Obj:=fo1 "parity" "Board.parity" (clsS 24 4) .none .none .none (.str "paritycells.boards" 457) (.ref 261) .none
def o173 (P:Params):Obj:=(.mk (.type "tuple") none (.seq #[(.str "self" 514),(.str "cells" 515),(.str "changed" 516)] 0) #[])
def o174 (P:Params):Obj:=fo0 "toggled" "Board.toggled" (clsS 24 5)
def o175 (P:Params):Obj:=fo2 "toggled" 511 "Board.toggled" 512 513 93 0 2 0 0 0 0 0 3 0 (.ref 263) true (.ref 264) (.ref 265) (.ref 266) (.ref 267) 517 0 93 0 518
def o176 (P:Params):Obj:=fo1 "toggled" "Board.toggled" (clsS 24 5) .none .none .none (.str "paritycells.boards" 457) (.ref 268) .none
def o177 (P:Params):Obj:=(.mk (.type "tuple") none (.seq #[(.str "self" 523),(.str "other" 524)] 0) #[])
def o178 (P:Params):Obj:=fo0 "__eq__" "Board.__eq__" (clsS 24 6)
def o179 (P:Params):Obj:=fo2 "__eq__" 520 "Board.__eq__" 521 522 99 0 2 0 0 0 0 0 3 0 (.ref 270) true (.ref 271) (.ref 272) (.ref 273) (.ref 274) 525 0 99 0 526
def o180 (P:Params):Obj:=fo1 "__eq__" "Board.__eq__" (clsS 24 6) .none .none .none (.str "paritycells.boards" 457) (.ref 275) .none
def o181 (P:Params):Obj:=(.mk (.type "tuple") none (.seq #[(.str "self" 531)] 0) #[])
def o182 (P:Params):Obj:=fo0 "__len__" "Board.__len__" (clsS 24 7)
def o183 (P:Params):Obj:=fo2 "__len__" 528 "Board.__len__" 529 530 104 0 1 0 0 0 0 0 3 0 (.ref 277) true (.ref 278) (.ref 279) (.ref 280) (.ref 281) 532 0 104 0 533
def o184 (P:Params):Obj:=fo1 "__len__" "Board.__len__" (clsS 24 7) .none .none .none (.str "paritycells.boards" 457) (.ref 282) .none
def o185 (P:Params):Obj:=(.mk (.type "tuple") none (.seq #[(.str "self" 538)] 0) #[])
def o186 (P:Params):Obj:=fo0 "__repr__" "Board.__repr__" (clsS 24 8)
def o187 (P:Params):Obj:=fo2 "__repr__" 535 "Board.__repr__" 536 537 107 0 1 0 0 0 0 0 3 0 (.ref 284) true (.ref 285) (.ref 286) (.ref 287) (.ref 288) 539 0 107 0 540
def o188 (P:Params):Obj:=fo1 "__repr__" "Board.__repr__" (clsS 24 8) .none .none .none (.str "paritycells.boards" 457) (.ref 289) .none
def o189 (P:Params):Obj:=fo0 "__str__" "Board.__str__" (clsS 24 9)
def o190 (P:Params):Obj:=fo2 "__str__" 542 "Board.__str__" 543 544 110 0 1 0 0 0 0 0 3 0 (.ref 291) true (.ref 292) .none .none (.ref 293) 545 0 110 0 546
def o191 (P:Params):Obj:=fo1 "__str__" "Board.__str__" (clsS 24 9) .none .none .none (.str "paritycells.boards" 457) (.ref 294) .none
def o192 (P:Params):Obj:=(.mk (.type "tuple") none (.seq #[(.str "own_size" 548),(.str "up_mask" 549)] 0) #[])
def o193 (P:Params):Obj:=(.mk (.type "dict") none (.dict #[(fo3 P "__module__" 466 (.str "paritycells.boards" 457)),(fo3 P "__firstlineno__" 470 (.int 74 469)),(fo3 P "__init__" 480 (.ref 234)),(fo3 P "size" 487 (.ref 241)),(fo3 P "up" 494 (.ref 248)),(fo3 P "is_up" 502 (.ref 255)),(fo3 P "parity" 510 (.ref 262)),(fo3 P "toggled" 519 (.ref 269)),(fo3 P "__eq__" 527 (.ref 276)),(fo3 P "__len__" 534 (.ref 283)),(fo3 P "__repr__" 541 (.ref 290)),(fo3 P "__str__" 547 (.ref 295)),(fo3 P "__static_attributes__" 550 (.ref 296)),(fo3 P "__dict__" 552 (.ref 299)),(fo3 P "__weakref__" 554 (.ref 300)),(fo3 P "__doc__" 555 .none),(fo3 P "__hash__" 556 .none)] 5) #[])
def o194 (P:Params):Obj:=(.mk (.type "type") none (.cls (.mk "Board" [(.type "object")] [(.ref 298),(.type "object")] 297 "Board" true [] [] false none false)) #[none,none,(some (.str "Board" 459)),(some (.str "Board" 467)),(some (.builtin "object.__new__")),(some (.bool true))])
def o195 (P:Params):Obj:=(.mk (.type "getset_descriptor") none (.fields #[(.str "__dict__" 551),(.ref 298),(.builtin "function.__dict__"),(.builtin "function.__dict__#set")]) #[])
def o196 (P:Params):Obj:=(.mk (.type "getset_descriptor") none (.fields #[(.str "__weakref__" 553),(.ref 298),(.builtin "ExceptionGroup.__weakref__"),.none]) #[])
def o197 (P:Params):Obj:=(.mk (.type "super") none (.fields #[(.ref 298),(.ref 298),(.ref 298)]) #[])
def o198 (P:Params):Obj:=(.mk (.type "builtin_function_or_method") none (.fields #[(.builtin "object.__init_subclass__"),(.ref 298)]) #[])
def o199 (P:Params):Obj:=(.mk (.type "tuple") none (.seq #[(.str "size" 562),(.str "mask" 563)] 0) #[])
def o200 (P:Params):Obj:=fo0 "board_of" "board_of" (topS 25)
def o201 (P:Params):Obj:=fo2 "board_of" 559 "board_of" 560 561 112 0 2 0 0 0 0 0 3 0 (.ref 303) true (.ref 304) (.ref 305) (.ref 306) (.ref 307) 564 0 112 0 565
def o202 (P:Params):Obj:=fo1 "board_of" "board_of" (topS 25) .none .none .none (.str "paritycells.boards" 457) (.ref 308) .none
def o203 (P:Params):Obj:=(.mk (.type "dict") none (.dict #[(fo3 P "__name__" 165 (.str "law_paritycells_k29_table_values" 856)),(fo3 P "__doc__" 166 .none),(fo3 P "__package__" 167 .none),(fo3 P "__loader__" 168 (.builtin "__main__.__loader__#opaque")),(fo3 P "__spec__" 169 .none),(fo3 P "__annotations__" 170 (.ref 6)),(fo3 P "__builtins__" 171 (.ref 4)),(fo3 P "__file__" 173 (.str "/claim/cut.py" 172)),(fo3 P "__cached__" 174 .none),(fo3 P "_wall" 193 (.ref 21)),(fo3 P "CellError" 213 (.ref 31)),(fo3 P "LimitError" 233 (.ref 44)),(fo3 P "NoSize" 258 (.ref 64)),(fo3 P "NoCell" 283 (.ref 83)),(fo3 P "NoCells" 308 (.ref 102)),(fo3 P "NoFlip" 333 (.ref 121)),(fo3 P "NoTable" 358 (.ref 140)),(fo3 P "TooWide" 383 (.ref 159)),(fo3 P "MOST_CELLS" 387 (.int 40 386)),(fo3 P "is_integer_in" 396 (.ref 168)),(fo3 P "is_cell" 405 (.ref 176)),(fo3 P "require_size" 412 (.ref 183)),(fo3 P "mask_of" 418 (.ref 384)),(fo3 P "mask_of_cells" 419 (.ref 188)),(fo3 P "cells_in" 425 (.ref 389)),(fo3 P "cells_in_cells" 426 (.ref 193)),(fo3 P "is_odd" 435 (.ref 200)),(fo3 P "cell_tuple" 442 (.ref 206)),(fo3 P "cell_mask" 450 (.ref 213)),(fo3 P "mask_text" 456 (.ref 218)),(fo3 P "Board" 558 (.ref 298)),(fo3 P "board_of" 566 (.ref 309)),(fo3 P "Flip" 650 (.ref 375)),(fo3 P "mask_of_sequences" 659 (.ref 384)),(fo3 P "cells_in_sequences" 666 (.ref 389)),(fo3 P "Elimination" 718 (.ref 420)),(fo3 P "row_masks" 724 (.ref 429)),(fo3 P "are_invertible" 730 (.ref 434)),(fo3 P "Table" 843 (.ref 526)),(fo3 P "identity_table" 849 (.ref 535)),(fo3 P "table_of" 855 (.ref 540)),(fo3 P "_law_pot" 866 (.ref 547)),(fo3 P "_law_draw" 875 (.ref 554))] 43) #[])
def o204 (P:Params):Obj:=(.mk .none none (.fields #[(.int 1 0),(.int 0 0),(.ref 20),(.int 5 0),(.int 0 0),(.ref 27),(.int 7 0),(.int 0 0),(.ref 40),(.int 9 0),(.int 0 0),(.ref 53),(.int 14 0),(.int 0 0),(.ref 72),(.int 19 0),(.int 0 0),(.ref 91),(.int 24 0),(.int 0 0),(.ref 110),(.int 29 0),(.int 0 0),(.ref 129),(.int 34 0),(.int 0 0),(.ref 148),(.int 41 0),(.int 0 0),(.ref 167),(.int 43 0),(.int 0 0),(.ref 175),(.int 45 0),(.int 0 0),(.ref 182),(.int 48 0),(.int 0 0),(.ref 187),(.int 51 0),(.int 0 0),(.ref 192),(.int 54 0),(.int 0 0),(.ref 199),(.int 60 0),(.int 0 0),(.ref 205),(.int 67 0),(.int 0 0),(.ref 212),(.int 69 0),(.int 0 0),(.ref 217),(.int 74 0),(.int 0 0),(.ref 224),(.int 112 0),(.int 0 0),(.ref 308),(.int 115 0),(.int 0 0),(.ref 315),(.int 148 0),(.int 0 0),(.ref 383),(.int 151 0),(.int 0 0),(.ref 388),(.int 155 0),(.int 0 0),(.ref 395),(.int 173 0),(.int 0 0),(.ref 428),(.int 180 0),(.int 0 0),(.ref 433),(.int 183 0),(.int 0 0),(.ref 440),(.int 227 0),(.int 0 0),(.ref 534),(.int 229 0),(.int 0 0),(.ref 539),(.int 241 0),(.int 0 0),(.ref 546),(.int 244 0),(.int 0 0),(.ref 553)]) #[])
def o205 (P:Params):Obj:=(.mk (.type "dict") none (.dict #[(fo3 P "__module__" 576 (.str "paritycells.flips" 567)),(fo3 P "__qualname__" 578 (.str "Flip" 577)),(fo3 P "__firstlineno__" 580 (.int 115 579)),(fo3 P "__init__" 589 (.ref 323)),(fo3 P "tested" 596 (.ref 330)),(fo3 P "toggled" 603 (.ref 337)),(fo3 P "is_idle" 610 (.ref 344)),(fo3 P "width" 617 (.ref 351)),(fo3 P "__eq__" 625 (.ref 358)),(fo3 P "__repr__" 632 (.ref 365)),(fo3 P "__str__" 639 (.ref 372)),(fo3 P "__static_attributes__" 642 (.ref 373))] 12) #[])
def o206 (P:Params):Obj:=(.mk .none none (.fields #[(.int 117 0),(.int 4 0),(.ref 322),(.int 125 0),(.int 4 0),(.ref 329),(.int 128 0),(.int 4 0),(.ref 336),(.int 131 0),(.int 4 0),(.ref 343),(.int 134 0),(.int 4 0),(.ref 350),(.int 137 0),(.int 4 0),(.ref 357),(.int 142 0),(.int 4 0),(.ref 364),(.int 145 0),(.int 4 0),(.ref 371)]) #[])
def o207 (P:Params):Obj:=fo2 "Flip" 571 "Flip" 572 573 115 0 0 0 0 0 0 0 0 0 (.ref 313) false (.ref 314) .none .none .none 574 0 115 0 575
def o208 (P:Params):Obj:=(.mk (.type "frame") none .plain #[(some (.ref 315)),(some (.ref 3)),(some (.ref 312)),none,(some (.str "paritycells.flips" 567)),none,(some (.ref 0))])
def o209 (P:Params):Obj:=(.mk (.type "tuple") none (.seq #[(.str "self" 584),(.str "tested" 585),(.str "toggled" 586)] 0) #[])
def o210 (P:Params):Obj:=fo0 "__init__" "Flip.__init__" (clsS 27 0)
def o211 (P:Params):Obj:=fo2 "__init__" 581 "Flip.__init__" 582 583 117 0 3 0 0 0 0 0 3 0 (.ref 317) true (.ref 318) (.ref 319) (.ref 320) (.ref 321) 587 0 117 0 588
def o212 (P:Params):Obj:=fo1 "__init__" "Flip.__init__" (clsS 27 0) .none .none .none (.str "paritycells.flips" 567) (.ref 322) .none
def o213 (P:Params):Obj:=(.mk (.type "tuple") none (.seq #[(.str "self" 593)] 0) #[])
def o214 (P:Params):Obj:=fo0 "tested" "Flip.tested" (clsS 27 1)
def o215 (P:Params):Obj:=fo2 "tested" 590 "Flip.tested" 591 592 125 0 1 0 0 0 0 0 3 0 (.ref 324) true (.ref 325) (.ref 326) (.ref 327) (.ref 328) 594 0 125 0 595
def o216 (P:Params):Obj:=fo1 "tested" "Flip.tested" (clsS 27 1) .none .none .none (.str "paritycells.flips" 567) (.ref 329) .none
def o217 (P:Params):Obj:=(.mk (.type "tuple") none (.seq #[(.str "self" 600)] 0) #[])
def o218 (P:Params):Obj:=fo0 "toggled" "Flip.toggled" (clsS 27 2)
def o219 (P:Params):Obj:=fo2 "toggled" 597 "Flip.toggled" 598 599 128 0 1 0 0 0 0 0 3 0 (.ref 331) true (.ref 332) (.ref 333) (.ref 334) (.ref 335) 601 0 128 0 602
def o220 (P:Params):Obj:=fo1 "toggled" "Flip.toggled" (clsS 27 2) .none .none .none (.str "paritycells.flips" 567) (.ref 336) .none
def o221 (P:Params):Obj:=(.mk (.type "tuple") none (.seq #[(.str "self" 607)] 0) #[])
def o222 (P:Params):Obj:=fo0 "is_idle" "Flip.is_idle" (clsS 27 3)
def o223 (P:Params):Obj:=fo2 "is_idle" 604 "Flip.is_idle" 605 606 131 0 1 0 0 0 0 0 3 0 (.ref 338) true (.ref 339) (.ref 340) (.ref 341) (.ref 342) 608 0 131 0 609
def o224 (P:Params):Obj:=fo1 "is_idle" "Flip.is_idle" (clsS 27 3) .none .none .none (.str "paritycells.flips" 567) (.ref 343) .none
def o225 (P:Params):Obj:=(.mk (.type "tuple") none (.seq #[(.str "self" 614)] 0) #[])
def o226 (P:Params):Obj:=fo0 "width" "Flip.width" (clsS 27 4)
def o227 (P:Params):Obj:=fo2 "width" 611 "Flip.width" 612 613 134 0 1 0 0 0 0 0 3 0 (.ref 345) true (.ref 346) (.ref 347) (.ref 348) (.ref 349) 615 0 134 0 616
def o228 (P:Params):Obj:=fo1 "width" "Flip.width" (clsS 27 4) .none .none .none (.str "paritycells.flips" 567) (.ref 350) .none
def o229 (P:Params):Obj:=(.mk (.type "tuple") none (.seq #[(.str "self" 621),(.str "other" 622)] 0) #[])
def o230 (P:Params):Obj:=fo0 "__eq__" "Flip.__eq__" (clsS 27 5)
def o231 (P:Params):Obj:=fo2 "__eq__" 618 "Flip.__eq__" 619 620 137 0 2 0 0 0 0 0 3 0 (.ref 352) true (.ref 353) (.ref 354) (.ref 355) (.ref 356) 623 0 137 0 624
def o232 (P:Params):Obj:=fo1 "__eq__" "Flip.__eq__" (clsS 27 5) .none .none .none (.str "paritycells.flips" 567) (.ref 357) .none
def o233 (P:Params):Obj:=(.mk (.type "tuple") none (.seq #[(.str "self" 629)] 0) #[])
def o234 (P:Params):Obj:=fo0 "__repr__" "Flip.__repr__" (clsS 27 6)
def o235 (P:Params):Obj:=fo2 "__repr__" 626 "Flip.__repr__" 627 628 142 0 1 0 0 0 0 0 3 0 (.ref 359) true (.ref 360) (.ref 361) (.ref 362) (.ref 363) 630 0 142 0 631
def o236 (P:Params):Obj:=fo1 "__repr__" "Flip.__repr__" (clsS 27 6) .none .none .none (.str "paritycells.flips" 567) (.ref 364) .none
def o237 (P:Params):Obj:=(.mk (.type "tuple") none (.seq #[(.str "self" 636)] 0) #[])
def o238 (P:Params):Obj:=fo0 "__str__" "Flip.__str__" (clsS 27 7)
def o239 (P:Params):Obj:=fo2 "__str__" 633 "Flip.__str__" 634 635 145 0 1 0 0 0 0 0 3 0 (.ref 366) true (.ref 367) (.ref 368) (.ref 369) (.ref 370) 637 0 145 0 638
def o240 (P:Params):Obj:=fo1 "__str__" "Flip.__str__" (clsS 27 7) .none .none .none (.str "paritycells.flips" 567) (.ref 371) .none
def o241 (P:Params):Obj:=(.mk (.type "tuple") none (.seq #[(.str "test_mask" 640),(.str "toggle_mask" 641)] 0) #[])
def o242 (P:Params):Obj:=(.mk (.type "dict") none (.dict #[(fo3 P "__module__" 576 (.str "paritycells.flips" 567)),(fo3 P "__firstlineno__" 580 (.int 115 579)),(fo3 P "__init__" 589 (.ref 323)),(fo3 P "tested" 596 (.ref 330)),(fo3 P "toggled" 603 (.ref 337)),(fo3 P "is_idle" 610 (.ref 344)),(fo3 P "width" 617 (.ref 351)),(fo3 P "__eq__" 625 (.ref 358)),(fo3 P "__repr__" 632 (.ref 365)),(fo3 P "__str__" 639 (.ref 372)),(fo3 P "__static_attributes__" 642 (.ref 373)),(fo3 P "__dict__" 644 (.ref 376)),(fo3 P "__weakref__" 646 (.ref 377)),(fo3 P "__doc__" 647 .none),(fo3 P "__hash__" 648 .none)] 5) #[])
def o243 (P:Params):Obj:=(.mk (.type "type") none (.cls (.mk "Flip" [(.type "object")] [(.ref 375),(.type "object")] 374 "Flip" true [] [] false none false)) #[none,none,(some (.str "Flip" 569)),(some (.str "Flip" 577)),(some (.builtin "object.__new__")),(some (.bool true))])
def o244 (P:Params):Obj:=(.mk (.type "getset_descriptor") none (.fields #[(.str "__dict__" 643),(.ref 375),(.builtin "function.__dict__"),(.builtin "function.__dict__#set")]) #[])
def o245 (P:Params):Obj:=(.mk (.type "getset_descriptor") none (.fields #[(.str "__weakref__" 645),(.ref 375),(.builtin "ExceptionGroup.__weakref__"),.none]) #[])
def o246 (P:Params):Obj:=(.mk (.type "super") none (.fields #[(.ref 375),(.ref 375),(.ref 375)]) #[])
def o247 (P:Params):Obj:=(.mk (.type "builtin_function_or_method") none (.fields #[(.builtin "object.__init_subclass__"),(.ref 375)]) #[])
def o248 (P:Params):Obj:=fo0 "mask_of" "mask_of" (topS 29)
def o249 (P:Params):Obj:=fo2 "mask_of" 653 "mask_of" 654 655 148 0 1 0 0 0 0 0 3 0 (.ref 380) true (.ref 381) .none .none (.ref 382) 656 0 148 0 657
def o250 (P:Params):Obj:=fo1 "mask_of" "mask_of" (topS 29) .none .none .none (.str "paritycells.sequences" 651) (.ref 383) .none
def o251 (P:Params):Obj:=fo0 "cells_in" "cells_in" (topS 31)
def o252 (P:Params):Obj:=fo2 "cells_in" 660 "cells_in" 661 662 151 0 1 0 0 0 0 0 3 0 (.ref 385) true (.ref 386) .none .none (.ref 387) 663 0 151 0 664
def o253 (P:Params):Obj:=fo1 "cells_in" "cells_in" (topS 31) .none .none .none (.str "paritycells.sequences" 651) (.ref 388) .none
def o254 (P:Params):Obj:=(.mk (.type "dict") none (.dict #[(fo3 P "__module__" 676 (.str "paritycells.tables" 667)),(fo3 P "__qualname__" 678 (.str "Elimination" 677)),(fo3 P "__firstlineno__" 680 (.int 155 679)),(fo3 P "__init__" 687 (.ref 403)),(fo3 P "reduced" 698 (.ref 410)),(fo3 P "take" 709 (.ref 417)),(fo3 P "__static_attributes__" 711 (.ref 418))] 7) #[])
def o255 (P:Params):Obj:=(.mk .none none (.fields #[(.int 157 0),(.int 4 0),(.ref 402),(.int 160 0),(.int 4 0),(.ref 409),(.int 167 0),(.int 4 0),(.ref 416)]) #[])
def o256 (P:Params):Obj:=fo2 "Elimination" 671 "Elimination" 672 673 155 0 0 0 0 0 0 0 0 0 (.ref 393) false (.ref 394) .none .none .none 674 0 155 0 675
def o257 (P:Params):Obj:=(.mk (.type "frame") none .plain #[(some (.ref 395)),(some (.ref 3)),(some (.ref 392)),none,(some (.str "paritycells.tables" 667)),none,(some (.ref 0))])
def o258 (P:Params):Obj:=(.mk (.type "tuple") none (.seq #[(.str "self" 684)] 0) #[])
def o259 (P:Params):Obj:=fo0 "__init__" "Elimination.__init__" (clsS 34 0)
def o260 (P:Params):Obj:=fo2 "__init__" 681 "Elimination.__init__" 682 683 157 0 1 0 0 0 0 0 3 0 (.ref 397) true (.ref 398) (.ref 399) (.ref 400) (.ref 401) 685 0 157 0 686
def o261 (P:Params):Obj:=fo1 "__init__" "Elimination.__init__" (clsS 34 0) .none .none .none (.str "paritycells.tables" 667) (.ref 402) .none
def o262 (P:Params):Obj:=(.mk (.type "tuple") none (.seq #[(.str "self" 691),(.str "mask" 692),(.str "items" 693),(.str "other" 694),(.str "more" 695)] 0) #[])
def o263 (P:Params):Obj:=fo0 "reduced" "Elimination.reduced" (clsS 34 1)
def o264 (P:Params):Obj:=fo2 "reduced" 688 "Elimination.reduced" 689 690 160 0 3 0 0 0 0 0 3 0 (.ref 404) true (.ref 405) (.ref 406) (.ref 407) (.ref 408) 696 0 160 0 697
def o265 (P:Params):Obj:=fo1 "reduced" "Elimination.reduced" (clsS 34 1) .none .none .none (.str "paritycells.tables" 667) (.ref 409) .none
def o266 (P:Params):Obj:=(.mk (.type "tuple") none (.seq #[(.str "self" 702),(.str "mask" 703),(.str "items" 704),(.str "rest" 705),(.str "used" 706)] 0) #[])
def o267 (P:Params):Obj:=fo0 "take" "Elimination.take" (clsS 34 2)
def o268 (P:Params):Obj:=fo2 "take" 699 "Elimination.take" 700 701 167 0 3 0 0 0 0 0 3 0 (.ref 411) true (.ref 412) (.ref 413) (.ref 414) (.ref 415) 707 0 167 0 708
def o269 (P:Params):Obj:=fo1 "take" "Elimination.take" (clsS 34 2) .none .none .none (.str "paritycells.tables" 667) (.ref 416) .none
def o270 (P:Params):Obj:=(.mk (.type "tuple") none (.seq #[(.str "pivots" 710)] 0) #[])
def o271 (P:Params):Obj:=(.mk (.type "dict") none (.dict #[(fo3 P "__module__" 676 (.str "paritycells.tables" 667)),(fo3 P "__firstlineno__" 680 (.int 155 679)),(fo3 P "__init__" 687 (.ref 403)),(fo3 P "reduced" 698 (.ref 410)),(fo3 P "take" 709 (.ref 417)),(fo3 P "__static_attributes__" 711 (.ref 418)),(fo3 P "__dict__" 713 (.ref 421)),(fo3 P "__weakref__" 715 (.ref 422)),(fo3 P "__doc__" 716 .none)] 4) #[])
def o272 (P:Params):Obj:=(.mk (.type "type") none (.cls (.mk "Elimination" [(.type "object")] [(.ref 420),(.type "object")] 419 "Elimination" true [] [] false none false)) #[none,none,(some (.str "Elimination" 669)),(some (.str "Elimination" 677)),(some (.builtin "object.__new__")),(some (.bool true))])
def o273 (P:Params):Obj:=(.mk (.type "getset_descriptor") none (.fields #[(.str "__dict__" 712),(.ref 420),(.builtin "function.__dict__"),(.builtin "function.__dict__#set")]) #[])
def o274 (P:Params):Obj:=(.mk (.type "getset_descriptor") none (.fields #[(.str "__weakref__" 714),(.ref 420),(.builtin "ExceptionGroup.__weakref__"),.none]) #[])
def o275 (P:Params):Obj:=(.mk (.type "super") none (.fields #[(.ref 420),(.ref 420),(.ref 420)]) #[])
def o276 (P:Params):Obj:=(.mk (.type "builtin_function_or_method") none (.fields #[(.builtin "object.__init_subclass__"),(.ref 420)]) #[])
def o277 (P:Params):Obj:=fo0 "row_masks" "row_masks" (topS 35)
def o278 (P:Params):Obj:=fo2 "row_masks" 719 "row_masks" 720 721 173 0 1 0 0 0 0 0 3 0 (.ref 425) true (.ref 426) .none .none (.ref 427) 722 0 173 0 723
def o279 (P:Params):Obj:=fo1 "row_masks" "row_masks" (topS 35) .none .none .none (.str "paritycells.tables" 667) (.ref 428) .none
def o280 (P:Params):Obj:=fo0 "are_invertible" "are_invertible" (topS 36)
def o281 (P:Params):Obj:=fo2 "are_invertible" 725 "are_invertible" 726 727 180 0 1 0 0 0 0 0 3 0 (.ref 430) true (.ref 431) .none .none (.ref 432) 728 0 180 0 729
def o282 (P:Params):Obj:=fo1 "are_invertible" "are_invertible" (topS 36) .none .none .none (.str "paritycells.tables" 667) (.ref 433) .none
def o283 (P:Params):Obj:=(.mk (.type "dict") none (.dict #[(fo3 P "__module__" 738 (.str "paritycells.tables" 667)),(fo3 P "__qualname__" 740 (.str "Table" 739)),(fo3 P "__firstlineno__" 742 (.int 183 741)),(fo3 P "__init__" 751 (.ref 448)),(fo3 P "size" 758 (.ref 455)),(fo3 P "row" 766 (.ref 462)),(fo3 P "source_mask" 774 (.ref 469)),(fo3 P "source" 782 (.ref 476)),(fo3 P "image" 790 (.ref 483)),(fo3 P "then" 798 (.ref 490)),(fo3 P "inverse" 805 (.ref 497)),(fo3 P "is_identity" 812 (.ref 504)),(fo3 P "__eq__" 820 (.ref 511)),(fo3 P "__len__" 827 (.ref 518)),(fo3 P "__repr__" 833 (.ref 523)),(fo3 P "__static_attributes__" 835 (.ref 524))] 16) #[])
def o284 (P:Params):Obj:=(.mk .none none (.fields #[(.int 185 0),(.int 4 0),(.ref 447),(.int 193 0),(.int 4 0),(.ref 454),(.int 196 0),(.int 4 0),(.ref 461),(.int 201 0),(.int 4 0),(.ref 468),(.int 204 0),(.int 4 0),(.ref 475),(.int 207 0),(.int 4 0),(.ref 482),(.int 210 0),(.int 4 0),(.ref 489),(.int 213 0),(.int 4 0),(.ref 496),(.int 216 0),(.int 4 0),(.ref 503),(.int 219 0),(.int 4 0),(.ref 510),(.int 222 0),(.int 4 0),(.ref 517),(.int 225 0),(.int 4 0),(.ref 522)]) #[])
def o285 (P:Params):Obj:=fo2 "Table" 733 "Table" 734 735 183 0 0 0 0 0 0 0 0 0 (.ref 438) false (.ref 439) .none .none .none 736 0 183 0 737
def o286 (P:Params):Obj:=(.mk (.type "frame") none .plain #[(some (.ref 440)),(some (.ref 3)),(some (.ref 437)),none,(some (.str "paritycells.tables" 667)),none,(some (.ref 0))])
def o287 (P:Params):Obj:=(.mk (.type "tuple") none (.seq #[(.str "self" 746),(.str "rows" 747),(.str "masks" 748)] 0) #[])
def o288 (P:Params):Obj:=fo0 "__init__" "Table.__init__" (clsS 37 0)
def o289 (P:Params):Obj:=fo2 "__init__" 743 "Table.__init__" 744 745 185 0 2 0 0 0 0 0 3 0 (.ref 442) true (.ref 443) (.ref 444) (.ref 445) (.ref 446) 749 0 185 0 750
def o290 (P:Params):Obj:=fo1 "__init__" "Table.__init__" (clsS 37 0) .none .none .none (.str "paritycells.tables" 667) (.ref 447) .none
def o291 (P:Params):Obj:=(.mk (.type "tuple") none (.seq #[(.str "self" 755)] 0) #[])
def o292 (P:Params):Obj:=fo0 "size" "Table.size" (clsS 37 1)
def o293 (P:Params):Obj:=fo2 "size" 752 "Table.size" 753 754 193 0 1 0 0 0 0 0 3 0 (.ref 449) true (.ref 450) (.ref 451) (.ref 452) (.ref 453) 756 0 193 0 757
def o294 (P:Params):Obj:=fo1 "size" "Table.size" (clsS 37 1) .none .none .none (.str "paritycells.tables" 667) (.ref 454) .none
def o295 (P:Params):Obj:=(.mk (.type "tuple") none (.seq #[(.str "self" 762),(.str "cell" 763)] 0) #[])
def o296 (P:Params):Obj:=fo0 "row" "Table.row" (clsS 37 2)
def o297 (P:Params):Obj:=fo2 "row" 759 "Table.row" 760 761 196 0 2 0 0 0 0 0 3 0 (.ref 456) true (.ref 457) (.ref 458) (.ref 459) (.ref 460) 764 0 196 0 765
def o298 (P:Params):Obj:=fo1 "row" "Table.row" (clsS 37 2) .none .none .none (.str "paritycells.tables" 667) (.ref 461) .none
def o299 (P:Params):Obj:=(.mk (.type "tuple") none (.seq #[(.str "self" 770),(.str "spots" 771)] 0) #[])
def o300 (P:Params):Obj:=fo0 "source_mask" "Table.source_mask" (clsS 37 3)
def o301 (P:Params):Obj:=fo2 "source_mask" 767 "Table.source_mask" 768 769 201 0 2 0 0 0 0 0 3 0 (.ref 463) true (.ref 464) (.ref 465) (.ref 466) (.ref 467) 772 0 201 0 773
def o302 (P:Params):Obj:=fo1 "source_mask" "Table.source_mask" (clsS 37 3) .none .none .none (.str "paritycells.tables" 667) (.ref 468) .none
def o303 (P:Params):Obj:=(.mk (.type "tuple") none (.seq #[(.str "self" 778),(.str "cells" 779)] 0) #[])
def o304 (P:Params):Obj:=fo0 "source" "Table.source" (clsS 37 4)
def o305 (P:Params):Obj:=fo2 "source" 775 "Table.source" 776 777 204 0 2 0 0 0 0 0 3 0 (.ref 470) true (.ref 471) (.ref 472) (.ref 473) (.ref 474) 780 0 204 0 781
def o306 (P:Params):Obj:=fo1 "source" "Table.source" (clsS 37 4) .none .none .none (.str "paritycells.tables" 667) (.ref 475) .none
def o307 (P:Params):Obj:=(.mk (.type "tuple") none (.seq #[(.str "self" 786),(.str "board" 787)] 0) #[])
def o308 (P:Params):Obj:=fo0 "image" "Table.image" (clsS 37 5)
def o309 (P:Params):Obj:=fo2 "image" 783 "Table.image" 784 785 207 0 2 0 0 0 0 0 3 0 (.ref 477) true (.ref 478) (.ref 479) (.ref 480) (.ref 481) 788 0 207 0 789
def o310 (P:Params):Obj:=fo1 "image" "Table.image" (clsS 37 5) .none .none .none (.str "paritycells.tables" 667) (.ref 482) .none
def o311 (P:Params):Obj:=(.mk (.type "tuple") none (.seq #[(.str "self" 794),(.str "later" 795)] 0) #[])
def o312 (P:Params):Obj:=fo0 "then" "Table.then" (clsS 37 6)
def o313 (P:Params):Obj:=fo2 "then" 791 "Table.then" 792 793 210 0 2 0 0 0 0 0 3 0 (.ref 484) true (.ref 485) (.ref 486) (.ref 487) (.ref 488) 796 0 210 0 797
def o314 (P:Params):Obj:=fo1 "then" "Table.then" (clsS 37 6) .none .none .none (.str "paritycells.tables" 667) (.ref 489) .none
def o315 (P:Params):Obj:=(.mk (.type "tuple") none (.seq #[(.str "self" 802)] 0) #[])
def o316 (P:Params):Obj:=fo0 "inverse" "Table.inverse" (clsS 37 7)
def o317 (P:Params):Obj:=fo2 "inverse" 799 "Table.inverse" 800 801 213 0 1 0 0 0 0 0 3 0 (.ref 491) true (.ref 492) (.ref 493) (.ref 494) (.ref 495) 803 0 213 0 804
def o318 (P:Params):Obj:=fo1 "inverse" "Table.inverse" (clsS 37 7) .none .none .none (.str "paritycells.tables" 667) (.ref 496) .none
def o319 (P:Params):Obj:=(.mk (.type "tuple") none (.seq #[(.str "self" 809)] 0) #[])
def o320 (P:Params):Obj:=fo0 "is_identity" "Table.is_identity" (clsS 37 8)
def o321 (P:Params):Obj:=fo2 "is_identity" 806 "Table.is_identity" 807 808 216 0 1 0 0 0 0 0 3 0 (.ref 498) true (.ref 499) (.ref 500) (.ref 501) (.ref 502) 810 0 216 0 811
def o322 (P:Params):Obj:=fo1 "is_identity" "Table.is_identity" (clsS 37 8) .none .none .none (.str "paritycells.tables" 667) (.ref 503) .none
def o323 (P:Params):Obj:=(.mk (.type "tuple") none (.seq #[(.str "self" 816),(.str "other" 817)] 0) #[])
def o324 (P:Params):Obj:=fo0 "__eq__" "Table.__eq__" (clsS 37 9)
def o325 (P:Params):Obj:=fo2 "__eq__" 813 "Table.__eq__" 814 815 219 0 2 0 0 0 0 0 3 0 (.ref 505) true (.ref 506) (.ref 507) (.ref 508) (.ref 509) 818 0 219 0 819
def o326 (P:Params):Obj:=fo1 "__eq__" "Table.__eq__" (clsS 37 9) .none .none .none (.str "paritycells.tables" 667) (.ref 510) .none
def o327 (P:Params):Obj:=(.mk (.type "tuple") none (.seq #[(.str "self" 824)] 0) #[])
def o328 (P:Params):Obj:=fo0 "__len__" "Table.__len__" (clsS 37 10)
def o329 (P:Params):Obj:=fo2 "__len__" 821 "Table.__len__" 822 823 222 0 1 0 0 0 0 0 3 0 (.ref 512) true (.ref 513) (.ref 514) (.ref 515) (.ref 516) 825 0 222 0 826
def o330 (P:Params):Obj:=fo1 "__len__" "Table.__len__" (clsS 37 10) .none .none .none (.str "paritycells.tables" 667) (.ref 517) .none
def o331 (P:Params):Obj:=fo0 "__repr__" "Table.__repr__" (clsS 37 11)
def o332 (P:Params):Obj:=fo2 "__repr__" 828 "Table.__repr__" 829 830 225 0 1 0 0 0 0 0 3 0 (.ref 519) true (.ref 520) .none .none (.ref 521) 831 0 225 0 832
def o333 (P:Params):Obj:=fo1 "__repr__" "Table.__repr__" (clsS 37 11) .none .none .none (.str "paritycells.tables" 667) (.ref 522) .none
def o334 (P:Params):Obj:=(.mk (.type "tuple") none (.seq #[(.str "masks" 834)] 0) #[])
def o335 (P:Params):Obj:=(.mk (.type "dict") none (.dict #[(fo3 P "__module__" 738 (.str "paritycells.tables" 667)),(fo3 P "__firstlineno__" 742 (.int 183 741)),(fo3 P "__init__" 751 (.ref 448)),(fo3 P "size" 758 (.ref 455)),(fo3 P "row" 766 (.ref 462)),(fo3 P "source_mask" 774 (.ref 469)),(fo3 P "source" 782 (.ref 476)),(fo3 P "image" 790 (.ref 483)),(fo3 P "then" 798 (.ref 490)),(fo3 P "inverse" 805 (.ref 497)),(fo3 P "is_identity" 812 (.ref 504)),(fo3 P "__eq__" 820 (.ref 511)),(fo3 P "__len__" 827 (.ref 518)),(fo3 P "__repr__" 833 (.ref 523)),(fo3 P "__static_attributes__" 835 (.ref 524)),(fo3 P "__dict__" 837 (.ref 527)),(fo3 P "__weakref__" 839 (.ref 528)),(fo3 P "__doc__" 840 .none),(fo3 P "__hash__" 841 .none)] 5) #[])
def o336 (P:Params):Obj:=(.mk (.type "type") none (.cls (.mk "Table" [(.type "object")] [(.ref 526),(.type "object")] 525 "Table" true [] [] false none false)) #[none,none,(some (.str "Table" 731)),(some (.str "Table" 739)),(some (.builtin "object.__new__")),(some (.bool true))])
def o337 (P:Params):Obj:=(.mk (.type "getset_descriptor") none (.fields #[(.str "__dict__" 836),(.ref 526),(.builtin "function.__dict__"),(.builtin "function.__dict__#set")]) #[])
def o338 (P:Params):Obj:=(.mk (.type "getset_descriptor") none (.fields #[(.str "__weakref__" 838),(.ref 526),(.builtin "ExceptionGroup.__weakref__"),.none]) #[])
def o339 (P:Params):Obj:=(.mk (.type "super") none (.fields #[(.ref 526),(.ref 526),(.ref 526)]) #[])
def o340 (P:Params):Obj:=(.mk (.type "builtin_function_or_method") none (.fields #[(.builtin "object.__init_subclass__"),(.ref 526)]) #[])
def o341 (P:Params):Obj:=fo0 "identity_table" "identity_table" (topS 38)
def o342 (P:Params):Obj:=fo2 "identity_table" 844 "identity_table" 845 846 227 0 1 0 0 0 0 0 3 0 (.ref 531) true (.ref 532) .none .none (.ref 533) 847 0 227 0 848
def o343 (P:Params):Obj:=fo1 "identity_table" "identity_table" (topS 38) .none .none .none (.str "paritycells.tables" 667) (.ref 534) .none
def o344 (P:Params):Obj:=fo0 "table_of" "table_of" (topS 39)
def o345 (P:Params):Obj:=fo2 "table_of" 850 "table_of" 851 852 229 0 2 0 0 0 0 0 3 0 (.ref 536) true (.ref 537) .none .none (.ref 538) 853 0 229 0 854
def o346 (P:Params):Obj:=fo1 "table_of" "table_of" (topS 39) .none .none .none (.str "paritycells.tables" 667) (.ref 539) .none
def o347 (P:Params):Obj:=(.mk (.type "tuple") none (.seq #[(.str "_law_script" 861),(.str "_law_k" 862),(.str "_law_number" 863)] 0) #[])
def o348 (P:Params):Obj:=fo0 "_law_pot" "_law_pot" (topS 41)
def o349 (P:Params):Obj:=fo2 "_law_pot" 858 "_law_pot" 859 860 241 0 2 0 0 0 0 0 3 0 (.ref 541) true (.ref 542) (.ref 543) (.ref 544) (.ref 545) 864 0 241 0 865
def o350 (P:Params):Obj:=fo1 "_law_pot" "_law_pot" (topS 41) .none .none .none (.str "law_paritycells_k29_table_values" 856) (.ref 546) .none
def o351 (P:Params):Obj:=(.mk (.type "tuple") none (.seq #[(.str "_law_pot_here" 870),(.str "_law_many" 871),(.str "_law_digit" 872)] 0) #[])
def o352 (P:Params):Obj:=fo0 "_law_draw" "_law_draw" (topS 42)
def o353 (P:Params):Obj:=fo2 "_law_draw" 867 "_law_draw" 868 869 244 0 2 0 0 0 0 0 3 0 (.ref 548) true (.ref 549) (.ref 550) (.ref 551) (.ref 552) 873 0 244 0 874
def o354 (P:Params):Obj:=fo1 "_law_draw" "_law_draw" (topS 42) .none .none .none (.str "law_paritycells_k29_table_values" 856) (.ref 553) .none
def o355 (P:Params):Obj:=(.mk (.type "dict") none (.dict #[(fo3 P "__name__" 165 (.str "law_paritycells_k29_table_values" 856)),(fo3 P "__doc__" 166 .none),(fo3 P "__package__" 167 .none),(fo3 P "__loader__" 168 (.builtin "__main__.__loader__#opaque")),(fo3 P "__spec__" 169 .none),(fo3 P "__annotations__" 170 (.ref 6)),(fo3 P "__builtins__" 171 (.ref 4)),(fo3 P "__file__" 173 (.str "/claim/cut.py" 172)),(fo3 P "__cached__" 174 .none),(fo3 P "_wall" 193 (.ref 21)),(fo3 P "CellError" 213 (.ref 31)),(fo3 P "LimitError" 233 (.ref 44)),(fo3 P "NoSize" 258 (.ref 64)),(fo3 P "NoCell" 283 (.ref 83)),(fo3 P "NoCells" 308 (.ref 102)),(fo3 P "NoFlip" 333 (.ref 121)),(fo3 P "NoTable" 358 (.ref 140)),(fo3 P "TooWide" 383 (.ref 159)),(fo3 P "MOST_CELLS" 387 (.int 40 386)),(fo3 P "is_integer_in" 396 (.ref 168)),(fo3 P "is_cell" 405 (.ref 176)),(fo3 P "require_size" 412 (.ref 183)),(fo3 P "mask_of" 418 (.ref 384)),(fo3 P "mask_of_cells" 419 (.ref 188)),(fo3 P "cells_in" 425 (.ref 389)),(fo3 P "cells_in_cells" 426 (.ref 193)),(fo3 P "is_odd" 435 (.ref 200)),(fo3 P "cell_tuple" 442 (.ref 206)),(fo3 P "cell_mask" 450 (.ref 213)),(fo3 P "mask_text" 456 (.ref 218)),(fo3 P "Board" 558 (.ref 298)),(fo3 P "board_of" 566 (.ref 309)),(fo3 P "Flip" 650 (.ref 375)),(fo3 P "mask_of_sequences" 659 (.ref 384)),(fo3 P "cells_in_sequences" 666 (.ref 389)),(fo3 P "Elimination" 718 (.ref 420)),(fo3 P "row_masks" 724 (.ref 429)),(fo3 P "are_invertible" 730 (.ref 434)),(fo3 P "Table" 843 (.ref 526)),(fo3 P "identity_table" 849 (.ref 535)),(fo3 P "table_of" 855 (.ref 540)),(fo3 P "_law_pot" 866 (.ref 547)),(fo3 P "_law_draw" 875 (.ref 554)),(fo3 P "_law_width" 883 (.ref 561)),(fo3 P "_law_spots" 889 (.ref 566)),(fo3 P "_law_pair" 895 (.ref 571)),(fo3 P "_law_pairs" 901 (.ref 576)),(fo3 P "_law_flip_of" 908 (.ref 583)),(fo3 P "_law_added" 914 (.ref 588)),(fo3 P "_law_lines" 920 (.ref 593)),(fo3 P "_law_is_grid" 926 (.ref 598)),(fo3 P "_law_right" 932 (.ref 603)),(fo3 P "law" 942 (.ref 610))] 53) #[])
def o356 (P:Params):Obj:=(.mk .none none (.fields #[(.int 1 0),(.int 0 0),(.ref 20),(.int 5 0),(.int 0 0),(.ref 27),(.int 7 0),(.int 0 0),(.ref 40),(.int 9 0),(.int 0 0),(.ref 53),(.int 14 0),(.int 0 0),(.ref 72),(.int 19 0),(.int 0 0),(.ref 91),(.int 24 0),(.int 0 0),(.ref 110),(.int 29 0),(.int 0 0),(.ref 129),(.int 34 0),(.int 0 0),(.ref 148),(.int 41 0),(.int 0 0),(.ref 167),(.int 43 0),(.int 0 0),(.ref 175),(.int 45 0),(.int 0 0),(.ref 182),(.int 48 0),(.int 0 0),(.ref 187),(.int 51 0),(.int 0 0),(.ref 192),(.int 54 0),(.int 0 0),(.ref 199),(.int 60 0),(.int 0 0),(.ref 205),(.int 67 0),(.int 0 0),(.ref 212),(.int 69 0),(.int 0 0),(.ref 217),(.int 74 0),(.int 0 0),(.ref 224),(.int 112 0),(.int 0 0),(.ref 308),(.int 115 0),(.int 0 0),(.ref 315),(.int 148 0),(.int 0 0),(.ref 383),(.int 151 0),(.int 0 0),(.ref 388),(.int 155 0),(.int 0 0),(.ref 395),(.int 173 0),(.int 0 0),(.ref 428),(.int 180 0),(.int 0 0),(.ref 433),(.int 183 0),(.int 0 0),(.ref 440),(.int 227 0),(.int 0 0),(.ref 534),(.int 229 0),(.int 0 0),(.ref 539),(.int 241 0),(.int 0 0),(.ref 546),(.int 244 0),(.int 0 0),(.ref 553),(.int 250 0),(.int 0 0),(.ref 560),(.int 252 0),(.int 0 0),(.ref 565),(.int 261 0),(.int 0 0),(.ref 570),(.int 270 0),(.int 0 0),(.ref 575),(.int 272 0),(.int 0 0),(.ref 582),(.int 274 0),(.int 0 0),(.ref 587),(.int 276 0),(.int 0 0),(.ref 592),(.int 284 0),(.int 0 0),(.ref 597),(.int 289 0),(.int 0 0),(.ref 602),(.int 308 0),(.int 0 0),(.ref 609)]) #[])
def o357 (P:Params):Obj:=(.mk (.type "tuple") none (.seq #[(.str "_law_pot_here" 879),(.str "_law_most" 880)] 0) #[])
def o358 (P:Params):Obj:=fo0 "_law_width" "_law_width" (topS 43)
def o359 (P:Params):Obj:=fo2 "_law_width" 876 "_law_width" 877 878 250 0 2 0 0 0 0 0 3 0 (.ref 555) true (.ref 556) (.ref 557) (.ref 558) (.ref 559) 881 0 250 0 882
def o360 (P:Params):Obj:=fo1 "_law_width" "_law_width" (topS 43) .none .none .none (.str "law_paritycells_k29_table_values" 856) (.ref 560) .none
def o361 (P:Params):Obj:=fo0 "_law_spots" "_law_spots" (topS 44)
def o362 (P:Params):Obj:=fo2 "_law_spots" 884 "_law_spots" 885 886 252 0 3 0 0 0 0 0 3 0 (.ref 562) true (.ref 563) .none .none (.ref 564) 887 0 252 0 888
def o363 (P:Params):Obj:=fo1 "_law_spots" "_law_spots" (topS 44) .none .none .none (.str "law_paritycells_k29_table_values" 856) (.ref 565) .none
def o364 (P:Params):Obj:=fo0 "_law_pair" "_law_pair" (topS 45)
def o365 (P:Params):Obj:=fo2 "_law_pair" 890 "_law_pair" 891 892 261 0 2 0 0 0 0 0 3 0 (.ref 567) true (.ref 568) .none .none (.ref 569) 893 0 261 0 894
def o366 (P:Params):Obj:=fo1 "_law_pair" "_law_pair" (topS 45) .none .none .none (.str "law_paritycells_k29_table_values" 856) (.ref 570) .none
def o367 (P:Params):Obj:=fo0 "_law_pairs" "_law_pairs" (topS 46)
def o368 (P:Params):Obj:=fo2 "_law_pairs" 896 "_law_pairs" 897 898 270 0 3 0 0 0 0 0 3 0 (.ref 572) true (.ref 573) .none .none (.ref 574) 899 0 270 0 900
def o369 (P:Params):Obj:=fo1 "_law_pairs" "_law_pairs" (topS 46) .none .none .none (.str "law_paritycells_k29_table_values" 856) (.ref 575) .none
def o370 (P:Params):Obj:=(.mk (.type "tuple") none (.seq #[(.str "_law_pair_here" 905)] 0) #[])
def o371 (P:Params):Obj:=fo0 "_law_flip_of" "_law_flip_of" (topS 47)
def o372 (P:Params):Obj:=fo2 "_law_flip_of" 902 "_law_flip_of" 903 904 272 0 1 0 0 0 0 0 3 0 (.ref 577) true (.ref 578) (.ref 579) (.ref 580) (.ref 581) 906 0 272 0 907
def o373 (P:Params):Obj:=fo1 "_law_flip_of" "_law_flip_of" (topS 47) .none .none .none (.str "law_paritycells_k29_table_values" 856) (.ref 582) .none
def o374 (P:Params):Obj:=fo0 "_law_added" "_law_added" (topS 48)
def o375 (P:Params):Obj:=fo2 "_law_added" 909 "_law_added" 910 911 274 0 2 0 0 0 0 0 3 0 (.ref 584) true (.ref 585) .none .none (.ref 586) 912 0 274 0 913
def o376 (P:Params):Obj:=fo1 "_law_added" "_law_added" (topS 48) .none .none .none (.str "law_paritycells_k29_table_values" 856) (.ref 587) .none
def o377 (P:Params):Obj:=fo0 "_law_lines" "_law_lines" (topS 49)
def o378 (P:Params):Obj:=fo2 "_law_lines" 915 "_law_lines" 916 917 276 0 2 0 0 0 0 0 3 0 (.ref 589) true (.ref 590) .none .none (.ref 591) 918 0 276 0 919
def o379 (P:Params):Obj:=fo1 "_law_lines" "_law_lines" (topS 49) .none .none .none (.str "law_paritycells_k29_table_values" 856) (.ref 592) .none
def o380 (P:Params):Obj:=fo0 "_law_is_grid" "_law_is_grid" (topS 50)
def o381 (P:Params):Obj:=fo2 "_law_is_grid" 921 "_law_is_grid" 922 923 284 0 2 0 0 0 0 0 3 0 (.ref 594) true (.ref 595) .none .none (.ref 596) 924 0 284 0 925
def o382 (P:Params):Obj:=fo1 "_law_is_grid" "_law_is_grid" (topS 50) .none .none .none (.str "law_paritycells_k29_table_values" 856) (.ref 597) .none
def o383 (P:Params):Obj:=fo0 "_law_right" "_law_right" (topS 51)
def o384 (P:Params):Obj:=fo2 "_law_right" 927 "_law_right" 928 929 289 0 3 0 0 0 0 0 3 0 (.ref 599) true (.ref 600) .none .none (.ref 601) 930 0 289 0 931
def o385 (P:Params):Obj:=fo1 "_law_right" "_law_right" (topS 51) .none .none .none (.str "law_paritycells_k29_table_values" 856) (.ref 602) .none
def o386 (P:Params):Obj:=(.mk (.type "tuple") none (.seq #[(.str "_law_script" 936),(.str "_law_k" 937),(.str "_law_pot_here" 938),(.str "_law_width_here" 939)] 0) #[])
def o387 (P:Params):Obj:=fo0 "law" "law" (topS 52)
def o388 (P:Params):Obj:=fo2 "law" 933 "law" 934 935 308 0 1 0 0 0 0 0 3 0 (.ref 604) true (.ref 605) (.ref 606) (.ref 607) (.ref 608) 940 0 308 0 941
def o389 (P:Params):Obj:=fo1 "law" "law" (topS 52) .none .none .none (.str "law_paritycells_k29_table_values" 856) (.ref 609) .none
def hA (P:Params):Heap:=⟨⟨[PySem.W.boot_o_0 P,PySem.W.boot_o_1 P,PySem.W.boot_o_2 P,PySem.W.boot_o_3 P,PySem.W.boot_o_4 P,PySem.W.boot_o_5 P,PySem.W.boot_o_6 P,PySem.W.boot_o_7 P,PySem.W.boot_o_8 P,PySem.W.boot_o_9 P,PySem.W.boot_o_10 P,o0 P,o1 P,o2 P,o3 P]⟩,(.mk [] [] [] 0 [] [] false #[] [] 0 false false false 0 [2000,10,10] false 0 true [] [] 0 false)⟩
def sA (w:World) (os:OsState):Shared:=⟨hA w.params,⟨[]⟩,(.mk 0 0 0 0),187,os⟩
def u0 (P:Params):BT:=(nd (o0 P) (nd (o168 P) (lf (o326 P)) nl) (lf (o249 P)))
def u1 (P:Params):BT:=(nd (o111 P) (nd (o0 P) (lf (o347 P)) nl) (lf (o267 P)))
def u2 (P:Params):BT:=(nd (o100 P) (nd (o1 P) (lf (o337 P)) nl) (lf (o258 P)))
def u3 (P:Params):BT:=(nd (o92 P) (nd (o0 P) (lf (o0 P)) nl) (lf (o12 P)))
def u4 (P:Params):BT:=(nd (o68 P) (nd (o116 P) (nd (o191 P) (lf (o0 P)) nl) (lf (o275 P))) (nd (o0 P) (lf (o0 P)) (lf (o0 P))))
def u5 (P:Params):BT:=(nd (o1 P) (nd (o181 P) (lf (o343 P)) nl) (lf (o0 P)))
def u6 (P:Params):BT:=(nd (o163 P) (lf (o243 P)) (lf (o321 P)))
def u7 (P:Params):BT:=(nd (o0 P) (nd (o0 P) (lf (o0 P)) nl) (lf (o251 P)))
def u8 (P:Params):BT:=(nd (o64 P) (nd (o1 P) (nd (o0 P) (lf (o350 P)) nl) (lf (o271 P))) (nd (o152 P) (lf (o0 P)) (lf (o310 P))))
def u9 (P:Params):BT:=(nd (o102 P) (nd (o179 P) (lf (o0 P)) nl) (lf (o261 P)))
def u10 (P:Params):BT:=(nd (o96 P) (nd (o174 P) (lf (o333 P)) nl) (lf (o256 P)))
def u11 (P:Params):BT:=(nd (o107 P) (nd (o184 P) (lf (o345 P)) nl) (lf (o0 P)))
def u12 (P:Params):BT:=(nd (o165 P) (lf (o247 P)) (lf (o323 P)))
def u13 (P:Params):BT:=(nd (o89 P) (nd (o1 P) (lf (o1 P)) nl) (lf (o0 P)))
def u14 (P:Params):BT:=(nd (o113 P) (nd (o187 P) (lf (o348 P)) nl) (lf (o269 P)))
def u15 (P:Params):BT:=(nd (o101 P) (nd (o0 P) (lf (o339 P)) nl) (lf (o259 P)))
def u16 (P:Params):BT:=(nd (o94 P) (nd (o173 P) (lf (o331 P)) nl) (lf (o0 P)))
def u17 (P:Params):BT:=(nd (o30 P) (nd (o118 P) (nd (o193 P) (lf (o353 P)) nl) (lf (o0 P))) (nd (o155 P) (lf (o233 P)) (lf (o313 P))))
def u18 (P:Params):BT:=(nd (o0 P) (nd (o182 P) (lf (o1 P)) nl) (lf (o264 P)))
def u19 (P:Params):BT:=(nd (o91 P) (nd (o171 P) (lf (o329 P)) nl) (lf (o253 P)))
def u20 (P:Params):BT:=(nd (o66 P) (nd (o0 P) (nd (o189 P) (lf (o1 P)) nl) (lf (o273 P))) (nd (o1 P) (lf (o231 P)) (lf (o1 P))))
def u21 (P:Params):BT:=(nd (o104 P) (nd (o0 P) (lf (o341 P)) nl) (lf (o1 P)))
def u22 (P:Params):BT:=(nd (o98 P) (nd (o176 P) (lf (o335 P)) nl) (lf (o0 P)))
def u23 (P:Params):BT:=(nd (o157 P) (lf (o236 P)) (lf (o315 P)))
def u24 (P:Params):BT:=(nd (o109 P) (nd (o1 P) (lf (o0 P)) nl) (lf (o266 P)))
def u25 (P:Params):BT:=(nd (o88 P) (nd (o0 P) (lf (o0 P)) nl) (lf (o250 P)))
def u26 (P:Params):BT:=(nd (o112 P) (nd (o186 P) (lf (o0 P)) nl) (lf (o268 P)))
def u27 (P:Params):BT:=(nd (o12 P) (nd (o177 P) (lf (o338 P)) nl) (lf (o0 P)))
def u28 (P:Params):BT:=(nd (o159 P) (lf (o237 P)) (lf (o317 P)))
def u29 (P:Params):BT:=(nd (o93 P) (nd (o1 P) (lf (o1 P)) nl) (lf (o254 P)))
def u30 (P:Params):BT:=(nd (o69 P) (nd (o117 P) (nd (o192 P) (lf (o352 P)) nl) (lf (o276 P))) (nd (o154 P) (lf (o1 P)) (lf (o312 P))))
def u31 (P:Params):BT:=(nd (o105 P) (nd (o0 P) (lf (o0 P)) nl) (lf (o263 P)))
def u32 (P:Params):BT:=(nd (o164 P) (lf (o244 P)) (lf (o322 P)))
def u33 (P:Params):BT:=(nd (o1 P) (nd (o170 P) (lf (o328 P)) nl) (lf (o252 P)))
def u34 (P:Params):BT:=(nd (o65 P) (nd (o114 P) (nd (o1 P) (lf (o0 P)) nl) (lf (o272 P))) (nd (o0 P) (lf (o230 P)) (lf (o0 P))))
def u35 (P:Params):BT:=(nd (o103 P) (nd (o180 P) (lf (o1 P)) nl) (lf (o0 P)))
def u36 (P:Params):BT:=(nd (o161 P) (lf (o240 P)) (lf (o319 P)))
def u37 (P:Params):BT:=(nd (o97 P) (nd (o175 P) (lf (o334 P)) nl) (lf (o257 P)))
def u38 (P:Params):BT:=(nd (o108 P) (nd (o0 P) (lf (o346 P)) nl) (lf (o1 P)))
def u39 (P:Params):BT:=(nd (o90 P) (nd (o169 P) (lf (o327 P)) nl) (lf (o1 P)))
def u40 (P:Params):BT:=(nd (o0 P) (nd (o188 P) (lf (o349 P)) nl) (lf (o270 P)))
def u41 (P:Params):BT:=(nd (o0 P) (nd (o178 P) (lf (o340 P)) nl) (lf (o260 P)))
def u42 (P:Params):BT:=(nd (o95 P) (nd (o0 P) (lf (o332 P)) nl) (lf (o255 P)))
def u43 (P:Params):BT:=(nd (o12 P) (nd (o0 P) (nd (o194 P) (lf (o354 P)) nl) (lf (o1 P))) (nd (o156 P) (lf (o0 P)) (lf (o314 P))))
def u44 (P:Params):BT:=(nd (o106 P) (nd (o183 P) (lf (o344 P)) nl) (lf (o265 P)))
def u45 (P:Params):BT:=(nd (o0 P) (nd (o172 P) (lf (o330 P)) nl) (lf (o0 P)))
def u46 (P:Params):BT:=(nd (o67 P) (nd (o115 P) (nd (o190 P) (lf (o351 P)) nl) (lf (o274 P))) (nd (o153 P) (lf (o232 P)) (lf (o311 P))))
def u47 (P:Params):BT:=(nd (o0 P) (nd (o1 P) (lf (o342 P)) nl) (lf (o262 P)))
def u48 (P:Params):BT:=(nd (o162 P) (lf (o242 P)) (lf (o320 P)))
def u49 (P:Params):BT:=(nd (o99 P) (nd (o0 P) (lf (o336 P)) nl) (lf (o1 P)))
def u50 (P:Params):BT:=(nd (o110 P) (nd (o185 P) (lf (o1 P)) nl) (lf (o0 P)))
def u51 (P:Params):BT:=(nd (o167 P) (lf (o248 P)) (lf (o325 P)))
def t0 (P:Params):BT:=(nd (PySem.W.boot_o_0 P) (nd (PySem.W.boot_o_1 P) (nd (PySem.W.boot_o_3 P) (lf (PySem.W.boot_o_7 P)) (lf (o0 P))) (nd (PySem.W.boot_o_5 P) (lf (PySem.W.boot_o_9 P)) (lf (o2 P)))) (nd (PySem.W.boot_o_2 P) (nd (PySem.W.boot_o_4 P) (lf (PySem.W.boot_o_8 P)) (lf (o1 P))) (nd (PySem.W.boot_o_6 P) (lf (PySem.W.boot_o_10 P)) (lf (o3 P)))))
def s0 (w:World) (os:OsState):SharedT:=⟨t0 w.params,15,(.mk [] [] [] 0 [] [] false #[] [] 0 false false false 0 [2000,10,10] false 0 true [] [] 0 false),⟨[]⟩,(.mk 0 0 0 0),187,os⟩
def t1 (P:Params):BT:=(nd (PySem.W.boot_o_0 P) (nd (PySem.W.boot_o_1 P) (nd (o5 P) (nd (PySem.W.boot_o_7 P) (nd (o0 P) (nd (o17 P) (lf (o40 P)) (lf (o61 P))) (nd (o29 P) (lf (o50 P)) (lf (o73 P)))) (nd (o12 P) (nd (o1 P) (lf (o45 P)) (lf (o68 P))) (nd (o0 P) (lf (o12 P)) (lf (o78 P))))) (nd (o0 P) (nd (o8 P) (nd (o21 P) (lf (o30 P)) (lf (o64 P))) (nd (o0 P) (lf (o54 P)) (lf (o0 P)))) (nd (o14 P) (nd (o25 P) (lf (o1 P)) (lf (o70 P))) (nd (o36 P) (lf (o59 P)) (lf (o82 P)))))) (nd (PySem.W.boot_o_5 P) (nd (PySem.W.boot_o_9 P) (nd (o7 P) (nd (o19 P) (lf (o42 P)) (lf (o62 P))) (nd (o12 P) (lf (o52 P)) (lf (o1 P)))) (nd (o0 P) (nd (o24 P) (lf (o47 P)) (lf (o30 P))) (nd (o35 P) (lf (o0 P)) (lf (o80 P))))) (nd (o2 P) (nd (o10 P) (nd (o22 P) (lf (o44 P)) (lf (o66 P))) (nd (o33 P) (lf (o56 P)) (lf (o76 P)))) (nd (o0 P) (nd (o27 P) (lf (o0 P)) (lf (o71 P))) (nd (o38 P) (lf (o0 P)) nl))))) (nd (o4 P) (nd (PySem.W.boot_o_4 P) (nd (PySem.W.boot_o_8 P) (nd (o1 P) (nd (o18 P) (lf (o41 P)) (lf (o0 P))) (nd (o30 P) (lf (o51 P)) (lf (o0 P)))) (nd (o13 P) (nd (o23 P) (lf (o46 P)) (lf (o69 P))) (nd (o1 P) (lf (o57 P)) (lf (o79 P))))) (nd (o6 P) (nd (o9 P) (nd (o12 P) (lf (o12 P)) (lf (o65 P))) (nd (o32 P) (lf (o55 P)) (lf (o75 P)))) (nd (o15 P) (nd (o26 P) (lf (o48 P)) (lf (o0 P))) (nd (o37 P) (lf (o60 P)) nl)))) (nd (PySem.W.boot_o_6 P) (nd (PySem.W.boot_o_10 P) (nd (o0 P) (nd (o20 P) (lf (o43 P)) (lf (o63 P))) (nd (o31 P) (lf (o53 P)) (lf (o74 P)))) (nd (o1 P) (nd (o0 P) (lf (o0 P)) (lf (o12 P))) (nd (o0 P) (lf (o58 P)) (lf (o81 P))))) (nd (o3 P) (nd (o11 P) (nd (o0 P) (lf (o0 P)) (lf (o67 P))) (nd (o34 P) (lf (o30 P)) (lf (o77 P)))) (nd (o16 P) (nd (o28 P) (lf (o49 P)) (lf (o72 P))) (nd (o39 P) (lf (o1 P)) nl))))))
def s1 (w:World) (os:OsState):SharedT:=⟨t1 w.params,124,(.mk [] [] [] 0 [] [] false #[] [] 0 false false false 0 [2000,10,10] false 0 true [] [] 0 false),⟨[]⟩,(.mk 0 0 0 0),334,os⟩
def t2 (P:Params):BT:=(nd (PySem.W.boot_o_0 P) (nd (PySem.W.boot_o_1 P) (nd (o83 P) (nd (PySem.W.boot_o_7 P) (nd (o0 P) (nd (o85 P) (nd (o40 P) (nd (o0 P) (lf (o168 P)) nl) (lf (o130 P))) (nd (o61 P) (nd (o111 P) (lf (o0 P)) nl) (lf (o149 P)))) (nd (o29 P) (nd (o50 P) (nd (o100 P) (lf (o1 P)) nl) (lf (o0 P))) (nd (o73 P) (nd (o121 P) (lf (o0 P)) nl) (lf (o158 P))))) (nd (o12 P) (nd (o1 P) (nd (o45 P) (nd (o92 P) (lf (o0 P)) nl) (lf (o135 P))) (nd (o68 P) (nd (o116 P) (lf (o191 P)) nl) (lf (o0 P)))) (nd (o0 P) (nd (o12 P) (nd (o1 P) (lf (o181 P)) nl) (lf (o1 P))) (nd (o78 P) (lf (o126 P)) (lf (o163 P)))))) (nd (o0 P) (nd (o8 P) (nd (o21 P) (nd (o30 P) (nd (o0 P) (lf (o0 P)) nl) (lf (o1 P))) (nd (o64 P) (nd (o1 P) (lf (o0 P)) nl) (lf (o152 P)))) (nd (o0 P) (nd (o54 P) (nd (o102 P) (lf (o179 P)) nl) (lf (o142 P))) (nd (o0 P) (nd (o123 P) (lf (o200 P)) nl) (lf (o1 P))))) (nd (o14 P) (nd (o25 P) (nd (o1 P) (nd (o96 P) (lf (o174 P)) nl) (lf (o1 P))) (nd (o70 P) (nd (o1 P) (lf (o195 P)) nl) (lf (o0 P)))) (nd (o36 P) (nd (o59 P) (nd (o107 P) (lf (o184 P)) nl) (lf (o0 P))) (nd (o82 P) (lf (o128 P)) (lf (o165 P))))))) (nd (PySem.W.boot_o_5 P) (nd (PySem.W.boot_o_9 P) (nd (o7 P) (nd (o19 P) (nd (o42 P) (nd (o89 P) (lf (o1 P)) nl) (lf (o132 P))) (nd (o62 P) (nd (o113 P) (lf (o187 P)) nl) (lf (o151 P)))) (nd (o12 P) (nd (o52 P) (nd (o101 P) (lf (o0 P)) nl) (lf (o141 P))) (nd (o1 P) (nd (o0 P) (lf (o199 P)) nl) (lf (o160 P))))) (nd (o0 P) (nd (o24 P) (nd (o47 P) (nd (o94 P) (lf (o173 P)) nl) (lf (o137 P))) (nd (o30 P) (nd (o118 P) (lf (o193 P)) nl) (lf (o155 P)))) (nd (o35 P) (nd (o0 P) (nd (o0 P) (lf (o182 P)) nl) (lf (o146 P))) (nd (o80 P) (lf (o1 P)) (lf (o0 P)))))) (nd (o2 P) (nd (o10 P) (nd (o22 P) (nd (o44 P) (nd (o91 P) (lf (o171 P)) nl) (lf (o0 P))) (nd (o66 P) (nd (o0 P) (lf (o189 P)) nl) (lf (o1 P)))) (nd (o33 P) (nd (o56 P) (nd (o104 P) (lf (o0 P)) nl) (lf (o144 P))) (nd (o76 P) (nd (o124 P) (lf (o202 P)) nl) (lf (o0 P))))) (nd (o0 P) (nd (o27 P) (nd (o0 P) (nd (o98 P) (lf (o176 P)) nl) (lf (o139 P))) (nd (o71 P) (nd (o0 P) (lf (o197 P)) nl) (lf (o157 P)))) (nd (o38 P) (nd (o0 P) (nd (o109 P) (lf (o1 P)) nl) (lf (o148 P))) (nd (o12 P) (lf (o0 P)) (lf (o166 P)))))))) (nd (o4 P) (nd (PySem.W.boot_o_4 P) (nd (PySem.W.boot_o_8 P) (nd (o1 P) (nd (o18 P) (nd (o41 P) (nd (o88 P) (lf (o0 P)) nl) (lf (o131 P))) (nd (o0 P) (nd (o112 P) (lf (o186 P)) nl) (lf (o150 P)))) (nd (o30 P) (nd (o51 P) (nd (o12 P) (lf (o177 P)) nl) (lf (o1 P))) (nd (o0 P) (nd (o122 P) (lf (o1 P)) nl) (lf (o159 P))))) (nd (o13 P) (nd (o23 P) (nd (o46 P) (nd (o93 P) (lf (o1 P)) nl) (lf (o136 P))) (nd (o69 P) (nd (o117 P) (lf (o192 P)) nl) (lf (o154 P)))) (nd (o1 P) (nd (o57 P) (nd (o105 P) (lf (o0 P)) nl) (lf (o145 P))) (nd (o79 P) (lf (o0 P)) (lf (o164 P)))))) (nd (o84 P) (nd (o9 P) (nd (o12 P) (nd (o12 P) (nd (o1 P) (lf (o170 P)) nl) (lf (o133 P))) (nd (o65 P) (nd (o114 P) (lf (o1 P)) nl) (lf (o0 P)))) (nd (o32 P) (nd (o55 P) (nd (o103 P) (lf (o180 P)) nl) (lf (o143 P))) (nd (o75 P) (nd (o0 P) (lf (o201 P)) nl) (lf (o161 P))))) (nd (o15 P) (nd (o86 P) (nd (o48 P) (nd (o97 P) (lf (o175 P)) nl) (lf (o138 P))) (nd (o0 P) (nd (o119 P) (lf (o196 P)) nl) (lf (o1 P)))) (nd (o37 P) (nd (o60 P) (nd (o108 P) (lf (o0 P)) nl) (lf (o12 P))) (nd (o30 P) (lf (o129 P)) (lf (o0 P))))))) (nd (PySem.W.boot_o_6 P) (nd (PySem.W.boot_o_10 P) (nd (o0 P) (nd (o20 P) (nd (o43 P) (nd (o90 P) (lf (o169 P)) nl) (lf (o0 P))) (nd (o63 P) (nd (o0 P) (lf (o188 P)) nl) (lf (o0 P)))) (nd (o31 P) (nd (o53 P) (nd (o0 P) (lf (o178 P)) nl) (lf (o0 P))) (nd (o74 P) (nd (o1 P) (lf (o0 P)) nl) (lf (o0 P))))) (nd (o1 P) (nd (o0 P) (nd (o0 P) (nd (o95 P) (lf (o0 P)) nl) (lf (o0 P))) (nd (o12 P) (nd (o0 P) (lf (o194 P)) nl) (lf (o156 P)))) (nd (o0 P) (nd (o58 P) (nd (o106 P) (lf (o183 P)) nl) (lf (o147 P))) (nd (o81 P) (lf (o127 P)) (lf (o1 P)))))) (nd (o3 P) (nd (o11 P) (nd (o0 P) (nd (o0 P) (nd (o0 P) (lf (o172 P)) nl) (lf (o134 P))) (nd (o67 P) (nd (o115 P) (lf (o190 P)) nl) (lf (o153 P)))) (nd (o34 P) (nd (o30 P) (nd (o0 P) (lf (o1 P)) nl) (lf (o0 P))) (nd (o77 P) (lf (o125 P)) (lf (o162 P))))) (nd (o16 P) (nd (o28 P) (nd (o49 P) (nd (o99 P) (lf (o0 P)) nl) (lf (o140 P))) (nd (o72 P) (nd (o120 P) (lf (o198 P)) nl) (lf (o0 P)))) (nd (o39 P) (nd (o1 P) (nd (o110 P) (lf (o185 P)) nl) (lf (o0 P))) (nd (o87 P) (lf (o1 P)) (lf (o167 P)))))))))
def s2 (w:World) (os:OsState):SharedT:=⟨t2 w.params,310,(.mk [] [] [] 0 [] [] false #[] [] 0 false false false 0 [2000,10,10] false 0 true [] [] 0 false),⟨[]⟩,(.mk 0 0 0 0),569,os⟩
def t3 (P:Params):BT:=(nd (PySem.W.boot_o_0 P) (nd (PySem.W.boot_o_1 P) (nd (o203 P) (nd (PySem.W.boot_o_7 P) (nd (o0 P) (nd (o85 P) (nd (o40 P) (u0 P) (nd (o130 P) (lf (o209 P)) (lf (o289 P)))) (nd (o61 P) (u1 P) (nd (o149 P) (lf (o228 P)) (lf (o307 P))))) (nd (o29 P) (nd (o50 P) (u2 P) (nd (o0 P) (lf (o218 P)) (lf (o0 P)))) (nd (o73 P) (nd (o121 P) (lf (o0 P)) (lf (o1 P))) (nd (o158 P) (lf (o1 P)) (lf (o316 P)))))) (nd (o12 P) (nd (o1 P) (nd (o45 P) (u3 P) (nd (o135 P) (lf (o0 P)) (lf (o294 P)))) (u4 P)) (nd (o0 P) (nd (o12 P) (u5 P) (nd (o1 P) (lf (o223 P)) (lf (o1 P)))) (nd (o78 P) (nd (o126 P) (lf (o12 P)) (lf (o284 P))) (u6 P))))) (nd (o0 P) (nd (o8 P) (nd (o21 P) (nd (o30 P) (u7 P) (nd (o1 P) (lf (o212 P)) (lf (o291 P)))) (u8 P)) (nd (o0 P) (nd (o54 P) (u9 P) (nd (o142 P) (lf (o1 P)) (lf (o300 P)))) (nd (o0 P) (nd (o123 P) (lf (o200 P)) (lf (o0 P))) (nd (o1 P) (lf (o239 P)) (lf (o1 P)))))) (nd (o14 P) (nd (o25 P) (nd (o1 P) (u10 P) (nd (o1 P) (lf (o0 P)) (lf (o0 P)))) (nd (o70 P) (nd (o1 P) (lf (o195 P)) (lf (o277 P))) (nd (o0 P) (lf (o234 P)) (lf (o0 P))))) (nd (o36 P) (nd (o59 P) (u11 P) (nd (o0 P) (lf (o225 P)) (lf (o305 P)))) (nd (o82 P) (nd (o128 P) (lf (o207 P)) (lf (o1 P))) (u12 P)))))) (nd (PySem.W.boot_o_5 P) (nd (PySem.W.boot_o_9 P) (nd (o7 P) (nd (o19 P) (nd (o42 P) (u13 P) (nd (o132 P) (lf (o210 P)) (lf (o0 P)))) (nd (o62 P) (u14 P) (nd (o151 P) (lf (o1 P)) (lf (o308 P))))) (nd (o12 P) (nd (o52 P) (u15 P) (nd (o141 P) (lf (o220 P)) (lf (o299 P)))) (nd (o1 P) (nd (o0 P) (lf (o199 P)) (lf (o281 P))) (nd (o160 P) (lf (o0 P)) (lf (o318 P)))))) (nd (o0 P) (nd (o24 P) (nd (o47 P) (u16 P) (nd (o137 P) (lf (o215 P)) (lf (o1 P)))) (u17 P)) (nd (o35 P) (nd (o0 P) (u18 P) (nd (o146 P) (lf (o0 P)) (lf (o0 P)))) (nd (o80 P) (nd (o1 P) (lf (o0 P)) (lf (o286 P))) (nd (o0 P) (lf (o245 P)) (lf (o0 P))))))) (nd (o2 P) (nd (o10 P) (nd (o22 P) (nd (o44 P) (u19 P) (nd (o0 P) (lf (o1 P)) (lf (o292 P)))) (u20 P)) (nd (o33 P) (nd (o56 P) (u21 P) (nd (o144 P) (lf (o0 P)) (lf (o302 P)))) (nd (o76 P) (nd (o124 P) (lf (o202 P)) (lf (o283 P))) (nd (o0 P) (lf (o241 P)) (lf (o0 P)))))) (nd (o0 P) (nd (o27 P) (nd (o0 P) (u22 P) (nd (o139 P) (lf (o217 P)) (lf (o297 P)))) (nd (o71 P) (nd (o0 P) (lf (o197 P)) (lf (o279 P))) (u23 P))) (nd (o38 P) (nd (o0 P) (u24 P) (nd (o148 P) (lf (o226 P)) (lf (o0 P)))) (nd (o12 P) (nd (o0 P) (lf (o0 P)) (lf (o0 P))) (nd (o166 P) (lf (o1 P)) (lf (o324 P))))))))) (nd (o4 P) (nd (PySem.W.boot_o_4 P) (nd (PySem.W.boot_o_8 P) (nd (o1 P) (nd (o18 P) (nd (o41 P) (u25 P) (nd (o131 P) (lf (o0 P)) (lf (o290 P)))) (nd (o0 P) (u26 P) (nd (o150 P) (lf (o0 P)) (lf (o0 P))))) (nd (o30 P) (nd (o51 P) (u27 P) (nd (o1 P) (lf (o219 P)) (lf (o1 P)))) (nd (o0 P) (nd (o122 P) (lf (o1 P)) (lf (o280 P))) (u28 P)))) (nd (o13 P) (nd (o23 P) (nd (o46 P) (u29 P) (nd (o136 P) (lf (o214 P)) (lf (o0 P)))) (u30 P)) (nd (o1 P) (nd (o57 P) (u31 P) (nd (o145 P) (lf (o224 P)) (lf (o303 P)))) (nd (o79 P) (nd (o0 P) (lf (o205 P)) (lf (o285 P))) (u32 P))))) (nd (o204 P) (nd (o9 P) (nd (o12 P) (nd (o12 P) (u33 P) (nd (o133 P) (lf (o0 P)) (lf (o0 P)))) (u34 P)) (nd (o32 P) (nd (o55 P) (u35 P) (nd (o143 P) (lf (o221 P)) (lf (o301 P)))) (nd (o75 P) (nd (o0 P) (lf (o201 P)) (lf (o12 P))) (u36 P)))) (nd (o15 P) (nd (o86 P) (nd (o48 P) (u37 P) (nd (o138 P) (lf (o1 P)) (lf (o296 P)))) (nd (o0 P) (nd (o119 P) (lf (o196 P)) (lf (o278 P))) (nd (o1 P) (lf (o235 P)) (lf (o1 P))))) (nd (o37 P) (nd (o60 P) (u38 P) (nd (o12 P) (lf (o0 P)) (lf (o306 P)))) (nd (o30 P) (nd (o129 P) (lf (o208 P)) (lf (o287 P))) (nd (o0 P) (lf (o0 P)) (lf (o0 P)))))))) (nd (PySem.W.boot_o_6 P) (nd (PySem.W.boot_o_10 P) (nd (o0 P) (nd (o20 P) (nd (o43 P) (u39 P) (nd (o0 P) (lf (o211 P)) (lf (o1 P)))) (nd (o63 P) (u40 P) (nd (o0 P) (lf (o229 P)) (lf (o309 P))))) (nd (o31 P) (nd (o53 P) (u41 P) (nd (o0 P) (lf (o0 P)) (lf (o0 P)))) (nd (o74 P) (nd (o1 P) (lf (o0 P)) (lf (o282 P))) (nd (o0 P) (lf (o238 P)) (lf (o0 P)))))) (nd (o1 P) (nd (o0 P) (nd (o0 P) (u42 P) (nd (o0 P) (lf (o216 P)) (lf (o295 P)))) (u43 P)) (nd (o0 P) (nd (o58 P) (u44 P) (nd (o147 P) (lf (o1 P)) (lf (o304 P)))) (nd (o81 P) (nd (o127 P) (lf (o206 P)) (lf (o0 P))) (nd (o1 P) (lf (o246 P)) (lf (o1 P))))))) (nd (o3 P) (nd (o11 P) (nd (o0 P) (nd (o0 P) (u45 P) (nd (o134 P) (lf (o213 P)) (lf (o293 P)))) (u46 P)) (nd (o34 P) (nd (o30 P) (u47 P) (nd (o0 P) (lf (o222 P)) (lf (o0 P)))) (nd (o77 P) (nd (o125 P) (lf (o0 P)) (lf (o0 P))) (u48 P)))) (nd (o16 P) (nd (o28 P) (nd (o49 P) (u49 P) (nd (o140 P) (lf (o0 P)) (lf (o298 P)))) (nd (o72 P) (nd (o120 P) (lf (o198 P)) (lf (o0 P))) (nd (o0 P) (lf (o0 P)) (lf (o0 P))))) (nd (o39 P) (nd (o1 P) (u50 P) (nd (o0 P) (lf (o227 P)) (lf (o1 P)))) (nd (o87 P) (nd (o1 P) (lf (o1 P)) (lf (o288 P))) (u51 P))))))))
def s3 (w:World) (os:OsState):SharedT:=⟨t3 w.params,555,(.mk [] [] [] 0 [] [] false #[] [] 0 false false false 0 [2000,10,10] false 0 true [] [] 0 false),⟨[]⟩,(.mk 0 0 0 0),876,os⟩
def t4 (P:Params):BT:=(nd (PySem.W.boot_o_0 P) (nd (PySem.W.boot_o_1 P) (nd (o355 P) (nd (PySem.W.boot_o_7 P) (nd (o0 P) (nd (o85 P) (nd (o40 P) (u0 P) (nd (o130 P) (nd (o209 P) (lf (o368 P)) nl) (lf (o289 P)))) (nd (o61 P) (u1 P) (nd (o149 P) (nd (o228 P) (lf (o0 P)) nl) (lf (o307 P))))) (nd (o29 P) (nd (o50 P) (u2 P) (nd (o0 P) (nd (o218 P) (lf (o377 P)) nl) (lf (o0 P)))) (nd (o73 P) (nd (o121 P) (nd (o0 P) (lf (o358 P)) nl) (lf (o1 P))) (nd (o158 P) (lf (o1 P)) (lf (o316 P)))))) (nd (o12 P) (nd (o1 P) (nd (o45 P) (u3 P) (nd (o135 P) (nd (o0 P) (lf (o373 P)) nl) (lf (o294 P)))) (u4 P)) (nd (o0 P) (nd (o12 P) (u5 P) (nd (o1 P) (nd (o223 P) (lf (o0 P)) nl) (lf (o1 P)))) (nd (o78 P) (nd (o126 P) (nd (o12 P) (lf (o0 P)) nl) (lf (o284 P))) (u6 P))))) (nd (o0 P) (nd (o8 P) (nd (o21 P) (nd (o30 P) (u7 P) (nd (o1 P) (nd (o212 P) (lf (o370 P)) nl) (lf (o291 P)))) (u8 P)) (nd (o0 P) (nd (o54 P) (u9 P) (nd (o142 P) (nd (o1 P) (lf (o1 P)) nl) (lf (o300 P)))) (nd (o0 P) (nd (o123 P) (nd (o200 P) (lf (o1 P)) nl) (lf (o0 P))) (nd (o1 P) (lf (o239 P)) (lf (o1 P)))))) (nd (o14 P) (nd (o25 P) (nd (o1 P) (u10 P) (nd (o1 P) (nd (o0 P) (lf (o375 P)) nl) (lf (o0 P)))) (nd (o70 P) (nd (o1 P) (nd (o195 P) (lf (o0 P)) nl) (lf (o277 P))) (nd (o0 P) (lf (o234 P)) (lf (o0 P))))) (nd (o36 P) (nd (o59 P) (u11 P) (nd (o0 P) (nd (o225 P) (lf (o385 P)) nl) (lf (o305 P)))) (nd (o82 P) (nd (o128 P) (nd (o207 P) (lf (o366 P)) nl) (lf (o1 P))) (u12 P)))))) (nd (PySem.W.boot_o_5 P) (nd (PySem.W.boot_o_9 P) (nd (o7 P) (nd (o19 P) (nd (o42 P) (u13 P) (nd (o132 P) (nd (o210 P) (lf (o0 P)) nl) (lf (o0 P)))) (nd (o62 P) (u14 P) (nd (o151 P) (nd (o1 P) (lf (o388 P)) nl) (lf (o308 P))))) (nd (o12 P) (nd (o52 P) (u15 P) (nd (o141 P) (nd (o220 P) (lf (o379 P)) nl) (lf (o299 P)))) (nd (o1 P) (nd (o0 P) (nd (o199 P) (lf (o360 P)) nl) (lf (o281 P))) (nd (o160 P) (lf (o0 P)) (lf (o318 P)))))) (nd (o0 P) (nd (o24 P) (nd (o47 P) (u16 P) (nd (o137 P) (nd (o215 P) (lf (o1 P)) nl) (lf (o1 P)))) (u17 P)) (nd (o35 P) (nd (o0 P) (u18 P) (nd (o146 P) (nd (o0 P) (lf (o383 P)) nl) (lf (o0 P)))) (nd (o80 P) (nd (o1 P) (nd (o0 P) (lf (o364 P)) nl) (lf (o286 P))) (nd (o0 P) (lf (o245 P)) (lf (o0 P))))))) (nd (o2 P) (nd (o10 P) (nd (o22 P) (nd (o44 P) (u19 P) (nd (o0 P) (nd (o1 P) (lf (o371 P)) nl) (lf (o292 P)))) (u20 P)) (nd (o33 P) (nd (o56 P) (u21 P) (nd (o144 P) (nd (o0 P) (lf (o381 P)) nl) (lf (o302 P)))) (nd (o76 P) (nd (o124 P) (nd (o202 P) (lf (o362 P)) nl) (lf (o283 P))) (nd (o0 P) (lf (o241 P)) (lf (o0 P)))))) (nd (o0 P) (nd (o27 P) (nd (o0 P) (u22 P) (nd (o139 P) (nd (o217 P) (lf (o0 P)) nl) (lf (o297 P)))) (nd (o71 P) (nd (o0 P) (nd (o197 P) (lf (o357 P)) nl) (lf (o279 P))) (u23 P))) (nd (o38 P) (nd (o0 P) (u24 P) (nd (o148 P) (nd (o226 P) (lf (o1 P)) nl) (lf (o0 P)))) (nd (o12 P) (nd (o0 P) (nd (o0 P) (lf (o1 P)) nl) (lf (o0 P))) (nd (o166 P) (lf (o1 P)) (lf (o324 P))))))))) (nd (o4 P) (nd (PySem.W.boot_o_4 P) (nd (PySem.W.boot_o_8 P) (nd (o1 P) (nd (o18 P) (nd (o41 P) (u25 P) (nd (o131 P) (nd (o0 P) (lf (o369 P)) nl) (lf (o290 P)))) (nd (o0 P) (u26 P) (nd (o150 P) (nd (o0 P) (lf (o387 P)) nl) (lf (o0 P))))) (nd (o30 P) (nd (o51 P) (u27 P) (nd (o1 P) (nd (o219 P) (lf (o378 P)) nl) (lf (o1 P)))) (nd (o0 P) (nd (o122 P) (nd (o1 P) (lf (o359 P)) nl) (lf (o280 P))) (u28 P)))) (nd (o13 P) (nd (o23 P) (nd (o46 P) (u29 P) (nd (o136 P) (nd (o214 P) (lf (o0 P)) nl) (lf (o0 P)))) (u30 P)) (nd (o1 P) (nd (o57 P) (u31 P) (nd (o145 P) (nd (o224 P) (lf (o1 P)) nl) (lf (o303 P)))) (nd (o79 P) (nd (o0 P) (nd (o205 P) (lf (o1 P)) nl) (lf (o285 P))) (u32 P))))) (nd (o356 P) (nd (o9 P) (nd (o12 P) (nd (o12 P) (u33 P) (nd (o133 P) (nd (o0 P) (lf (o0 P)) nl) (lf (o0 P)))) (u34 P)) (nd (o32 P) (nd (o55 P) (u35 P) (nd (o143 P) (nd (o221 P) (lf (o380 P)) nl) (lf (o301 P)))) (nd (o75 P) (nd (o0 P) (nd (o201 P) (lf (o361 P)) nl) (lf (o12 P))) (u36 P)))) (nd (o15 P) (nd (o86 P) (nd (o48 P) (u37 P) (nd (o138 P) (nd (o1 P) (lf (o376 P)) nl) (lf (o296 P)))) (nd (o0 P) (nd (o119 P) (nd (o196 P) (lf (o1 P)) nl) (lf (o278 P))) (nd (o1 P) (lf (o235 P)) (lf (o1 P))))) (nd (o37 P) (nd (o60 P) (u38 P) (nd (o12 P) (nd (o0 P) (lf (o0 P)) nl) (lf (o306 P)))) (nd (o30 P) (nd (o129 P) (nd (o208 P) (lf (o0 P)) nl) (lf (o287 P))) (nd (o0 P) (lf (o0 P)) (lf (o0 P)))))))) (nd (PySem.W.boot_o_6 P) (nd (PySem.W.boot_o_10 P) (nd (o0 P) (nd (o20 P) (nd (o43 P) (u39 P) (nd (o0 P) (nd (o211 P) (lf (o1 P)) nl) (lf (o1 P)))) (nd (o63 P) (u40 P) (nd (o0 P) (nd (o229 P) (lf (o389 P)) nl) (lf (o309 P))))) (nd (o31 P) (nd (o53 P) (u41 P) (nd (o0 P) (nd (o0 P) (lf (o0 P)) nl) (lf (o0 P)))) (nd (o74 P) (nd (o1 P) (nd (o0 P) (lf (o0 P)) nl) (lf (o282 P))) (nd (o0 P) (lf (o238 P)) (lf (o0 P)))))) (nd (o1 P) (nd (o0 P) (nd (o0 P) (u42 P) (nd (o0 P) (nd (o216 P) (lf (o374 P)) nl) (lf (o295 P)))) (u43 P)) (nd (o0 P) (nd (o58 P) (u44 P) (nd (o147 P) (nd (o1 P) (lf (o384 P)) nl) (lf (o304 P)))) (nd (o81 P) (nd (o127 P) (nd (o206 P) (lf (o365 P)) nl) (lf (o0 P))) (nd (o1 P) (lf (o246 P)) (lf (o1 P))))))) (nd (o3 P) (nd (o11 P) (nd (o0 P) (nd (o0 P) (u45 P) (nd (o134 P) (nd (o213 P) (lf (o372 P)) nl) (lf (o293 P)))) (u46 P)) (nd (o34 P) (nd (o30 P) (u47 P) (nd (o0 P) (nd (o222 P) (lf (o382 P)) nl) (lf (o0 P)))) (nd (o77 P) (nd (o125 P) (nd (o0 P) (lf (o363 P)) nl) (lf (o0 P))) (u48 P)))) (nd (o16 P) (nd (o28 P) (nd (o49 P) (u49 P) (nd (o140 P) (nd (o0 P) (lf (o1 P)) nl) (lf (o298 P)))) (nd (o72 P) (nd (o120 P) (nd (o198 P) (lf (o0 P)) nl) (lf (o0 P))) (nd (o0 P) (lf (o0 P)) (lf (o0 P))))) (nd (o39 P) (nd (o1 P) (u50 P) (nd (o0 P) (nd (o227 P) (lf (o386 P)) nl) (lf (o1 P)))) (nd (o87 P) (nd (o1 P) (nd (o1 P) (lf (o367 P)) nl) (lf (o288 P))) (u51 P))))))))
def s4 (w:World) (os:OsState):SharedT:=⟨t4 w.params,611,(.mk [] [] [] 0 [] [] false #[] [] 0 false false false 0 [2000,10,10] false 0 true [] [] 0 false),⟨[]⟩,(.mk 0 0 0 0),943,os⟩
def hF (P:Params):Heap:=⟨⟨[PySem.W.boot_o_0 P,PySem.W.boot_o_1 P,o4 P,o355 P,PySem.W.boot_o_4 P,PySem.W.boot_o_5 P,PySem.W.boot_o_6 P,PySem.W.boot_o_7 P,PySem.W.boot_o_8 P,PySem.W.boot_o_9 P,PySem.W.boot_o_10 P,o0 P,o356 P,o2 P,o3 P,o0 P,o1 P,o7 P,o0 P,o8 P,o9 P,o10 P,o11 P,o12 P,o13 P,o0 P,o1 P,o14 P,o15 P,o0 P,o16 P,o85 P,o18 P,o19 P,o20 P,o21 P,o12 P,o22 P,o0 P,o1 P,o23 P,o24 P,o0 P,o25 P,o86 P,o27 P,o28 P,o29 P,o30 P,o12 P,o31 P,o0 P,o32 P,o33 P,o34 P,o0 P,o1 P,o35 P,o0 P,o36 P,o37 P,o38 P,o39 P,o40 P,o41 P,o42 P,o43 P,o30 P,o12 P,o44 P,o0 P,o45 P,o46 P,o47 P,o0 P,o1 P,o48 P,o0 P,o49 P,o50 P,o51 P,o52 P,o53 P,o54 P,o55 P,o56 P,o30 P,o12 P,o57 P,o0 P,o58 P,o59 P,o60 P,o0 P,o1 P,o61 P,o0 P,o62 P,o63 P,o64 P,o65 P,o66 P,o67 P,o68 P,o69 P,o30 P,o12 P,o70 P,o0 P,o71 P,o72 P,o73 P,o0 P,o1 P,o74 P,o0 P,o75 P,o76 P,o77 P,o78 P,o79 P,o80 P,o81 P,o82 P,o30 P,o12 P,o87 P,o0 P,o88 P,o89 P,o90 P,o0 P,o1 P,o91 P,o0 P,o92 P,o93 P,o94 P,o95 P,o96 P,o97 P,o98 P,o99 P,o100 P,o12 P,o101 P,o0 P,o102 P,o103 P,o104 P,o0 P,o1 P,o105 P,o0 P,o106 P,o107 P,o108 P,o109 P,o110 P,o111 P,o112 P,o113 P,o0 P,o1 P,o114 P,o0 P,o115 P,o116 P,o117 P,o118 P,o0 P,o1 P,o119 P,o0 P,o120 P,o121 P,o122 P,o0 P,o1 P,o123 P,o0 P,o124 P,o125 P,o126 P,o0 P,o1 P,o127 P,o128 P,o129 P,o0 P,o1 P,o130 P,o131 P,o132 P,o0 P,o1 P,o133 P,o0 P,o134 P,o135 P,o136 P,o137 P,o0 P,o1 P,o138 P,o139 P,o140 P,o0 P,o1 P,o141 P,o0 P,o142 P,o143 P,o144 P,o0 P,o1 P,o145 P,o146 P,o147 P,o0 P,o12 P,o148 P,o0 P,o149 P,o150 P,o151 P,o0 P,o152 P,o0 P,o1 P,o153 P,o0 P,o154 P,o155 P,o156 P,o0 P,o1 P,o157 P,o0 P,o158 P,o159 P,o160 P,o0 P,o1 P,o161 P,o0 P,o162 P,o163 P,o164 P,o0 P,o1 P,o165 P,o0 P,o166 P,o167 P,o168 P,o0 P,o1 P,o169 P,o0 P,o170 P,o171 P,o172 P,o0 P,o1 P,o173 P,o0 P,o174 P,o175 P,o176 P,o0 P,o1 P,o177 P,o0 P,o178 P,o179 P,o180 P,o0 P,o1 P,o181 P,o0 P,o182 P,o183 P,o184 P,o0 P,o1 P,o185 P,o0 P,o186 P,o187 P,o188 P,o0 P,o1 P,o189 P,o190 P,o191 P,o192 P,o193 P,o194 P,o195 P,o196 P,o197 P,o198 P,o0 P,o1 P,o199 P,o0 P,o200 P,o201 P,o202 P,o0 P,o12 P,o205 P,o0 P,o206 P,o207 P,o208 P,o0 P,o1 P,o209 P,o0 P,o210 P,o211 P,o212 P,o0 P,o1 P,o213 P,o0 P,o214 P,o215 P,o216 P,o0 P,o1 P,o217 P,o0 P,o218 P,o219 P,o220 P,o0 P,o1 P,o221 P,o0 P,o222 P,o223 P,o224 P,o0 P,o1 P,o225 P,o0 P,o226 P,o227 P,o228 P,o0 P,o1 P,o229 P,o0 P,o230 P,o231 P,o232 P,o0 P,o1 P,o233 P,o0 P,o234 P,o235 P,o236 P,o0 P,o1 P,o237 P,o0 P,o238 P,o239 P,o240 P,o241 P,o242 P,o243 P,o244 P,o245 P,o246 P,o247 P,o0 P,o1 P,o248 P,o249 P,o250 P,o0 P,o1 P,o251 P,o252 P,o253 P,o0 P,o12 P,o254 P,o0 P,o255 P,o256 P,o257 P,o0 P,o1 P,o258 P,o0 P,o259 P,o260 P,o261 P,o0 P,o1 P,o262 P,o0 P,o263 P,o264 P,o265 P,o0 P,o1 P,o266 P,o0 P,o267 P,o268 P,o269 P,o270 P,o271 P,o272 P,o273 P,o274 P,o275 P,o276 P,o0 P,o1 P,o277 P,o278 P,o279 P,o0 P,o1 P,o280 P,o281 P,o282 P,o0 P,o12 P,o283 P,o0 P,o284 P,o285 P,o286 P,o0 P,o1 P,o287 P,o0 P,o288 P,o289 P,o290 P,o0 P,o1 P,o291 P,o0 P,o292 P,o293 P,o294 P,o0 P,o1 P,o295 P,o0 P,o296 P,o297 P,o298 P,o0 P,o1 P,o299 P,o0 P,o300 P,o301 P,o302 P,o0 P,o1 P,o303 P,o0 P,o304 P,o305 P,o306 P,o0 P,o1 P,o307 P,o0 P,o308 P,o309 P,o310 P,o0 P,o1 P,o311 P,o0 P,o312 P,o313 P,o314 P,o0 P,o1 P,o315 P,o0 P,o316 P,o317 P,o318 P,o0 P,o1 P,o319 P,o0 P,o320 P,o321 P,o322 P,o0 P,o1 P,o323 P,o0 P,o324 P,o325 P,o326 P,o0 P,o1 P,o327 P,o0 P,o328 P,o329 P,o330 P,o0 P,o1 P,o331 P,o332 P,o333 P,o334 P,o335 P,o336 P,o337 P,o338 P,o339 P,o340 P,o0 P,o1 P,o341 P,o342 P,o343 P,o0 P,o1 P,o344 P,o345 P,o346 P,o0 P,o1 P,o347 P,o0 P,o348 P,o349 P,o350 P,o0 P,o1 P,o351 P,o0 P,o352 P,o353 P,o354 P,o0 P,o1 P,o357 P,o0 P,o358 P,o359 P,o360 P,o0 P,o1 P,o361 P,o362 P,o363 P,o0 P,o1 P,o364 P,o365 P,o366 P,o0 P,o1 P,o367 P,o368 P,o369 P,o0 P,o1 P,o370 P,o0 P,o371 P,o372 P,o373 P,o0 P,o1 P,o374 P,o375 P,o376 P,o0 P,o1 P,o377 P,o378 P,o379 P,o0 P,o1 P,o380 P,o381 P,o382 P,o0 P,o1 P,o383 P,o384 P,o385 P,o0 P,o1 P,o386 P,o0 P,o387 P,o388 P,o389 P]⟩,(.mk [] [] [] 0 [] [] false #[] [] 0 false false false 0 [2000,10,10] false 0 true [] [] 0 false)⟩
def sF (w:World) (os:OsState):Shared:=⟨hF w.params,⟨[]⟩,(.mk 0 0 0 0),943,os⟩
def KK:Params→Frag:=fun P=>(nat_lit 2,o4 P)::(nat_lit 3,o355 P)::(nat_lit 15,o0 P)::(nat_lit 17,o7 P)::(nat_lit 18,o0 P)::(nat_lit 20,o9 P)::(nat_lit 21,o10 P)::(nat_lit 22,o11 P)::(nat_lit 29,o0 P)::(nat_lit 30,o16 P)::(nat_lit 31,o85 P)::(nat_lit 32,o18 P)::(nat_lit 35,o21 P)::(nat_lit 42,o0 P)::(nat_lit 43,o25 P)::(nat_lit 44,o86 P)::(nat_lit 45,o27 P)::(nat_lit 48,o30 P)::(nat_lit 55,o0 P)::(nat_lit 57,o35 P)::(nat_lit 58,o0 P)::(nat_lit 60,o37 P)::(nat_lit 61,o38 P)::(nat_lit 62,o39 P)::(nat_lit 63,o40 P)::(nat_lit 64,o41 P)::(nat_lit 67,o30 P)::(nat_lit 74,o0 P)::(nat_lit 76,o48 P)::(nat_lit 77,o0 P)::(nat_lit 79,o50 P)::(nat_lit 80,o51 P)::(nat_lit 81,o52 P)::(nat_lit 82,o53 P)::(nat_lit 83,o54 P)::(nat_lit 86,o30 P)::(nat_lit 93,o0 P)::(nat_lit 95,o61 P)::(nat_lit 96,o0 P)::(nat_lit 98,o63 P)::(nat_lit 99,o64 P)::(nat_lit 100,o65 P)::(nat_lit 101,o66 P)::(nat_lit 102,o67 P)::(nat_lit 105,o30 P)::(nat_lit 112,o0 P)::(nat_lit 114,o74 P)::(nat_lit 115,o0 P)::(nat_lit 117,o76 P)::(nat_lit 118,o77 P)::(nat_lit 119,o78 P)::(nat_lit 120,o79 P)::(nat_lit 121,o80 P)::(nat_lit 124,o30 P)::(nat_lit 131,o0 P)::(nat_lit 133,o91 P)::(nat_lit 134,o0 P)::(nat_lit 136,o93 P)::(nat_lit 137,o94 P)::(nat_lit 138,o95 P)::(nat_lit 139,o96 P)::(nat_lit 140,o97 P)::(nat_lit 143,o100 P)::(nat_lit 150,o0 P)::(nat_lit 152,o105 P)::(nat_lit 153,o0 P)::(nat_lit 155,o107 P)::(nat_lit 156,o108 P)::(nat_lit 157,o109 P)::(nat_lit 158,o110 P)::(nat_lit 159,o111 P)::(nat_lit 162,o0 P)::(nat_lit 164,o114 P)::(nat_lit 165,o0 P)::(nat_lit 167,o116 P)::(nat_lit 168,o117 P)::(nat_lit 169,o118 P)::(nat_lit 170,o0 P)::(nat_lit 172,o119 P)::(nat_lit 173,o0 P)::(nat_lit 175,o121 P)::(nat_lit 176,o122 P)::(nat_lit 177,o0 P)::(nat_lit 179,o123 P)::(nat_lit 180,o0 P)::(nat_lit 182,o125 P)::(nat_lit 183,o126 P)::(nat_lit 184,o0 P)::(nat_lit 187,o128 P)::(nat_lit 188,o129 P)::(nat_lit 189,o0 P)::(nat_lit 192,o131 P)::(nat_lit 193,o132 P)::(nat_lit 194,o0 P)::(nat_lit 196,o133 P)::(nat_lit 197,o0 P)::(nat_lit 199,o135 P)::(nat_lit 200,o136 P)::(nat_lit 201,o137 P)::(nat_lit 202,o0 P)::(nat_lit 205,o139 P)::(nat_lit 206,o140 P)::(nat_lit 207,o0 P)::(nat_lit 209,o141 P)::(nat_lit 210,o0 P)::(nat_lit 212,o143 P)::(nat_lit 213,o144 P)::(nat_lit 214,o0 P)::(nat_lit 217,o146 P)::(nat_lit 218,o147 P)::(nat_lit 226,o0 P)::(nat_lit 227,o152 P)::(nat_lit 228,o0 P)::(nat_lit 230,o153 P)::(nat_lit 231,o0 P)::(nat_lit 233,o155 P)::(nat_lit 234,o156 P)::(nat_lit 235,o0 P)::(nat_lit 237,o157 P)::(nat_lit 238,o0 P)::(nat_lit 240,o159 P)::(nat_lit 241,o160 P)::(nat_lit 242,o0 P)::(nat_lit 244,o161 P)::(nat_lit 245,o0 P)::(nat_lit 247,o163 P)::(nat_lit 248,o164 P)::(nat_lit 249,o0 P)::(nat_lit 251,o165 P)::(nat_lit 252,o0 P)::(nat_lit 254,o167 P)::(nat_lit 255,o168 P)::(nat_lit 256,o0 P)::(nat_lit 258,o169 P)::(nat_lit 259,o0 P)::(nat_lit 261,o171 P)::(nat_lit 262,o172 P)::(nat_lit 263,o0 P)::(nat_lit 265,o173 P)::(nat_lit 266,o0 P)::(nat_lit 268,o175 P)::(nat_lit 269,o176 P)::(nat_lit 270,o0 P)::(nat_lit 272,o177 P)::(nat_lit 273,o0 P)::(nat_lit 275,o179 P)::(nat_lit 276,o180 P)::(nat_lit 277,o0 P)::(nat_lit 279,o181 P)::(nat_lit 280,o0 P)::(nat_lit 282,o183 P)::(nat_lit 283,o184 P)::(nat_lit 284,o0 P)::(nat_lit 286,o185 P)::(nat_lit 287,o0 P)::(nat_lit 289,o187 P)::(nat_lit 290,o188 P)::(nat_lit 291,o0 P)::(nat_lit 294,o190 P)::(nat_lit 295,o191 P)::(nat_lit 296,o192 P)::(nat_lit 297,o193 P)::(nat_lit 298,o194 P)::(nat_lit 299,o195 P)::(nat_lit 300,o196 P)::(nat_lit 303,o0 P)::(nat_lit 305,o199 P)::(nat_lit 306,o0 P)::(nat_lit 308,o201 P)::(nat_lit 309,o202 P)::(nat_lit 317,o0 P)::(nat_lit 319,o209 P)::(nat_lit 320,o0 P)::(nat_lit 322,o211 P)::(nat_lit 323,o212 P)::(nat_lit 324,o0 P)::(nat_lit 326,o213 P)::(nat_lit 327,o0 P)::(nat_lit 329,o215 P)::(nat_lit 330,o216 P)::(nat_lit 331,o0 P)::(nat_lit 333,o217 P)::(nat_lit 334,o0 P)::(nat_lit 336,o219 P)::(nat_lit 337,o220 P)::(nat_lit 338,o0 P)::(nat_lit 340,o221 P)::(nat_lit 341,o0 P)::(nat_lit 343,o223 P)::(nat_lit 344,o224 P)::(nat_lit 345,o0 P)::(nat_lit 347,o225 P)::(nat_lit 348,o0 P)::(nat_lit 350,o227 P)::(nat_lit 351,o228 P)::(nat_lit 352,o0 P)::(nat_lit 354,o229 P)::(nat_lit 355,o0 P)::(nat_lit 357,o231 P)::(nat_lit 358,o232 P)::(nat_lit 359,o0 P)::(nat_lit 361,o233 P)::(nat_lit 362,o0 P)::(nat_lit 364,o235 P)::(nat_lit 365,o236 P)::(nat_lit 366,o0 P)::(nat_lit 368,o237 P)::(nat_lit 369,o0 P)::(nat_lit 371,o239 P)::(nat_lit 372,o240 P)::(nat_lit 373,o241 P)::(nat_lit 374,o242 P)::(nat_lit 375,o243 P)::(nat_lit 376,o244 P)::(nat_lit 377,o245 P)::(nat_lit 380,o0 P)::(nat_lit 383,o249 P)::(nat_lit 384,o250 P)::(nat_lit 385,o0 P)::(nat_lit 388,o252 P)::(nat_lit 389,o253 P)::(nat_lit 397,o0 P)::(nat_lit 399,o258 P)::(nat_lit 400,o0 P)::(nat_lit 402,o260 P)::(nat_lit 403,o261 P)::(nat_lit 404,o0 P)::(nat_lit 406,o262 P)::(nat_lit 407,o0 P)::(nat_lit 409,o264 P)::(nat_lit 410,o265 P)::(nat_lit 411,o0 P)::(nat_lit 413,o266 P)::(nat_lit 414,o0 P)::(nat_lit 416,o268 P)::(nat_lit 417,o269 P)::(nat_lit 418,o270 P)::(nat_lit 419,o271 P)::(nat_lit 420,o272 P)::(nat_lit 421,o273 P)::(nat_lit 422,o274 P)::(nat_lit 425,o0 P)::(nat_lit 428,o278 P)::(nat_lit 429,o279 P)::(nat_lit 430,o0 P)::(nat_lit 433,o281 P)::(nat_lit 434,o282 P)::(nat_lit 442,o0 P)::(nat_lit 444,o287 P)::(nat_lit 445,o0 P)::(nat_lit 447,o289 P)::(nat_lit 448,o290 P)::(nat_lit 449,o0 P)::(nat_lit 451,o291 P)::(nat_lit 452,o0 P)::(nat_lit 454,o293 P)::(nat_lit 455,o294 P)::(nat_lit 456,o0 P)::(nat_lit 458,o295 P)::(nat_lit 459,o0 P)::(nat_lit 461,o297 P)::(nat_lit 462,o298 P)::(nat_lit 463,o0 P)::(nat_lit 465,o299 P)::(nat_lit 466,o0 P)::(nat_lit 468,o301 P)::(nat_lit 469,o302 P)::(nat_lit 470,o0 P)::(nat_lit 472,o303 P)::(nat_lit 473,o0 P)::(nat_lit 475,o305 P)::(nat_lit 476,o306 P)::(nat_lit 477,o0 P)::(nat_lit 479,o307 P)::(nat_lit 480,o0 P)::(nat_lit 482,o309 P)::(nat_lit 483,o310 P)::(nat_lit 484,o0 P)::(nat_lit 486,o311 P)::(nat_lit 487,o0 P)::(nat_lit 489,o313 P)::(nat_lit 490,o314 P)::(nat_lit 491,o0 P)::(nat_lit 493,o315 P)::(nat_lit 494,o0 P)::(nat_lit 496,o317 P)::(nat_lit 497,o318 P)::(nat_lit 498,o0 P)::(nat_lit 500,o319 P)::(nat_lit 501,o0 P)::(nat_lit 503,o321 P)::(nat_lit 504,o322 P)::(nat_lit 505,o0 P)::(nat_lit 507,o323 P)::(nat_lit 508,o0 P)::(nat_lit 510,o325 P)::(nat_lit 511,o326 P)::(nat_lit 512,o0 P)::(nat_lit 514,o327 P)::(nat_lit 515,o0 P)::(nat_lit 517,o329 P)::(nat_lit 518,o330 P)::(nat_lit 519,o0 P)::(nat_lit 522,o332 P)::(nat_lit 523,o333 P)::(nat_lit 524,o334 P)::(nat_lit 525,o335 P)::(nat_lit 526,o336 P)::(nat_lit 527,o337 P)::(nat_lit 528,o338 P)::(nat_lit 531,o0 P)::(nat_lit 534,o342 P)::(nat_lit 535,o343 P)::(nat_lit 536,o0 P)::(nat_lit 539,o345 P)::(nat_lit 540,o346 P)::(nat_lit 541,o0 P)::(nat_lit 543,o347 P)::(nat_lit 544,o0 P)::(nat_lit 546,o349 P)::(nat_lit 547,o350 P)::(nat_lit 548,o0 P)::(nat_lit 550,o351 P)::(nat_lit 551,o0 P)::(nat_lit 553,o353 P)::(nat_lit 554,o354 P)::(nat_lit 555,o0 P)::(nat_lit 557,o357 P)::(nat_lit 558,o0 P)::(nat_lit 560,o359 P)::(nat_lit 561,o360 P)::(nat_lit 562,o0 P)::(nat_lit 565,o362 P)::(nat_lit 566,o363 P)::(nat_lit 567,o0 P)::(nat_lit 570,o365 P)::(nat_lit 571,o366 P)::(nat_lit 572,o0 P)::(nat_lit 575,o368 P)::(nat_lit 576,o369 P)::(nat_lit 577,o0 P)::(nat_lit 579,o370 P)::(nat_lit 580,o0 P)::(nat_lit 582,o372 P)::(nat_lit 583,o373 P)::(nat_lit 584,o0 P)::(nat_lit 587,o375 P)::(nat_lit 588,o376 P)::(nat_lit 589,o0 P)::(nat_lit 592,o378 P)::(nat_lit 593,o379 P)::(nat_lit 594,o0 P)::(nat_lit 597,o381 P)::(nat_lit 598,o382 P)::(nat_lit 599,o0 P)::(nat_lit 602,o384 P)::(nat_lit 603,o385 P)::(nat_lit 604,o0 P)::(nat_lit 606,o386 P)::(nat_lit 607,o0 P)::(nat_lit 609,o388 P)::(nat_lit 610,o389 P):: []
def KA:List Addr:= [2,3,15,17,18,20,21,22,29,30,31,32,35,42,43,44,45,48,55,57,58,60,61,62,63,64,67,74,76,77,79,80,81,82,83,86,93,95,96,98,99,100,101,102,105,112,114,115,117,118,119,120,121,124,131,133,134,136,137,138,139,140,143,150,152,153,155,156,157,158,159,162,164,165,167,168,169,170,172,173,175,176,177,179,180,182,183,184,187,188,189,192,193,194,196,197,199,200,201,202,205,206,207,209,210,212,213,214,217,218,226,227,228,230,231,233,234,235,237,238,240,241,242,244,245,247,248,249,251,252,254,255,256,258,259,261,262,263,265,266,268,269,270,272,273,275,276,277,279,280,282,283,284,286,287,289,290,291,294,295,296,297,298,299,300,303,305,306,308,309,317,319,320,322,323,324,326,327,329,330,331,333,334,336,337,338,340,341,343,344,345,347,348,350,351,352,354,355,357,358,359,361,362,364,365,366,368,369,371,372,373,374,375,376,377,380,383,384,385,388,389,397,399,400,402,403,404,406,407,409,410,411,413,414,416,417,418,419,420,421,422,425,428,429,430,433,434,442,444,445,447,448,449,451,452,454,455,456,458,459,461,462,463,465,466,468,469,470,472,473,475,476,477,479,480,482,483,484,486,487,489,490,491,493,494,496,497,498,500,501,503,504,505,507,508,510,511,512,514,515,517,518,519,522,523,524,525,526,527,528,531,534,535,536,539,540,541,543,544,546,547,548,550,551,553,554,555,557,558,560,561,562,565,566,567,570,571,572,575,576,577,579,580,582,583,584,587,588,589,592,593,594,597,598,599,602,603,604,606,607,609,610]
theorem hd_law (h:(OpenLaw.row PySem.Challenge.rw_paritycells_k29_table_values).wellSaid=true→(OpenLaw.row PySem.Challenge.rw_paritycells_k29_table_values).Holds):(PySem.Challenge.rw_paritycells_k29_table_values).Holds:=by
  w_on;o_law
  exact h (by assumption)
def pO:Program:=RowW.prog (OpenRow.toRowW (OpenLaw.row PySem.Challenge.rw_paritycells_k29_table_values))
def pT:Program:=RowW.prog (OpenRow.toRowW (PySem.W.Fast.tw2368527892694137696 PySem.W.Fast.tw9941807791467158234))
theorem hp:pO=pT:=by
  unfold pO pT
  rw[PySem.W.Fast.te2368527892694137696,PySem.W.Fast.te9941807791467158234]
def annO:Option Value:=(some (.ref 6))
abbrev tfr:List Frame:= [topFrame (.mk 0 0 0 0)]
def enO (p:Program):Env:= { scope:=p.main.scope,locals:=mainNs,globals:=mainNs,cells:= [],code:=(.ref 13),frame:=some 14 }
def cdO (p:Program):Code:= .body (behindTheImports p) (enO p)
def stO (p:Program) (a b:Nat):List Stmt:=((behindTheImports p).drop a).take b
def s0A (w:World) (os:OsState):Shared:=⟨PySem.W.boot_heap w.params,⟨[]⟩,PySem.W.boot_drawn,PySem.W.boot_toks,os⟩
theorem hd_pre_t (w:World):(fun os=>PySem.W.Fast.tw15667345088766844465 PySem.W.Fast.tw14364793385576792824 pT w 11 annO 12 (s0A w os) (topStub pT))=fun os=>(some (sA w os,(⟨PySem.W.Fast.tw11892475500146522536 PySem.W.Fast.tw14364793385576792824 (cdO pT),cdO pT,(.mk 0 0 0 0),tfr⟩:Thread)):Option (Shared×Thread)):=by kernel_rfl
theorem hd_pre (w:World) (os:OsState):topGo treeTable pO w 11 annO 12 (s0A w os) (topStub pO)=(some (sA w os,(⟨denote treeTable (cdO pO),cdO pO,(.mk 0 0 0 0),tfr⟩:Thread)):Option (Shared×Thread)):=by
  have h:=congrFun (hd_pre_t w) os
  rw[← PySem.W.Fast.te15667345088766844465,← PySem.W.Fast.te11892475500146522536,← PySem.W.Fast.te14364793385576792824,← hp] at h
  exact h
theorem hd_block_t (w:World):(fun os=>PySem.W.Fast.tw14374325043358763698 PySem.W.Fast.tw14364793385576792824 pT w 11 annO 1 1 (sA w os) (blockOf (behindTheImports pT) (enO pT) (cdO pT) (.mk 0 0 0 0) tfr))=fun os=>(some (.next,(s0 w os).abs,cdO pT,(.mk 0 0 0 0)):Option (Flow×Shared×Code×Pos)):=by kernel_rfl
theorem hd_block (w:World) (os:OsState):segRun treeTable pO w 11 annO 1 1 (sA w os) (blockOf (behindTheImports pO) (enO pO) (cdO pO) (.mk 0 0 0 0) tfr)=(some (.next,(s0 w os).abs,cdO pO,(.mk 0 0 0 0)):Option (Flow×Shared×Code×Pos)):=by
  have h:=congrFun (hd_block_t w) os
  rw[← PySem.W.Fast.te14374325043358763698,← PySem.W.Fast.te14364793385576792824,← hp] at h
  exact h
theorem hd_p1_t (w:World):(fun os=>PySem.W.Fast.tw10110043849684766642 PySem.W.Fast.tw14364793385576792824 pT w 11 annO 1 1401 (s0 w os) (piecesOf (stO pT 0 8) (enO pT) (cdO pT) (.mk 0 0 0 0) tfr))=fun os=>(some (.next,s1 w os,cdO pT,(.mk 24 0 28 22)):Option (Flow×SharedT×Code×Pos)):=by kernel_rfl
theorem hd_p1 (w:World) (os:OsState):segRunT treeTable pO w 11 annO 1 1401 (s0 w os) (piecesOf (stO pO 0 8) (enO pO) (cdO pO) (.mk 0 0 0 0) tfr)=(some (.next,s1 w os,cdO pO,(.mk 24 0 28 22)):Option (Flow×SharedT×Code×Pos)):=by
  have h:=congrFun (hd_p1_t w) os
  rw[← PySem.W.Fast.te10110043849684766642,← PySem.W.Fast.te14364793385576792824,← hp] at h
  exact h
theorem hd_p2_t (w:World):(fun os=>PySem.W.Fast.tw10110043849684766642 PySem.W.Fast.tw14364793385576792824 pT w 11 annO 1 1364 (s1 w os) (piecesOf (stO pT 8 19) (enO pT) (cdO pT) (.mk 24 0 28 22) tfr))=fun os=>(some (.next,s2 w os,cdO pT,(.mk 114 0 114 8)):Option (Flow×SharedT×Code×Pos)):=by kernel_rfl
theorem hd_p2 (w:World) (os:OsState):segRunT treeTable pO w 11 annO 1 1364 (s1 w os) (piecesOf (stO pO 8 19) (enO pO) (cdO pO) (.mk 24 0 28 22) tfr)=(some (.next,s2 w os,cdO pO,(.mk 114 0 114 8)):Option (Flow×SharedT×Code×Pos)):=by
  have h:=congrFun (hd_p2_t w) os
  rw[← PySem.W.Fast.te10110043849684766642,← PySem.W.Fast.te14364793385576792824,← hp] at h
  exact h
theorem hd_p3_t (w:World):(fun os=>PySem.W.Fast.tw10110043849684766642 PySem.W.Fast.tw14364793385576792824 pT w 11 annO 1 1578 (s2 w os) (piecesOf (stO pT 27 16) (enO pT) (cdO pT) (.mk 114 0 114 8) tfr))=fun os=>(some (.next,s3 w os,cdO pT,(.mk 244 0 249 77)):Option (Flow×SharedT×Code×Pos)):=by kernel_rfl
theorem hd_p3 (w:World) (os:OsState):segRunT treeTable pO w 11 annO 1 1578 (s2 w os) (piecesOf (stO pO 27 16) (enO pO) (cdO pO) (.mk 114 0 114 8) tfr)=(some (.next,s3 w os,cdO pO,(.mk 244 0 249 77)):Option (Flow×SharedT×Code×Pos)):=by
  have h:=congrFun (hd_p3_t w) os
  rw[← PySem.W.Fast.te10110043849684766642,← PySem.W.Fast.te14364793385576792824,← hp] at h
  exact h
theorem hd_p4_t (w:World):(fun os=>PySem.W.Fast.tw10110043849684766642 PySem.W.Fast.tw14364793385576792824 pT w 11 annO 1 274 (s3 w os) (piecesOf (stO pT 43 10) (enO pT) (cdO pT) (.mk 244 0 249 77) tfr))=fun os=>(some (.next,s4 w os,cdO pT,(.mk 308 0 314 15)):Option (Flow×SharedT×Code×Pos)):=by kernel_rfl
theorem hd_p4 (w:World) (os:OsState):segRunT treeTable pO w 11 annO 1 274 (s3 w os) (piecesOf (stO pO 43 10) (enO pO) (cdO pO) (.mk 244 0 249 77) tfr)=(some (.next,s4 w os,cdO pO,(.mk 308 0 314 15)):Option (Flow×SharedT×Code×Pos)):=by
  have h:=congrFun (hd_p4_t w) os
  rw[← PySem.W.Fast.te10110043849684766642,← PySem.W.Fast.te14364793385576792824,← hp] at h
  exact h
theorem hd_fin_t (w:World):(fun os=>PySem.W.Fast.tw14082659384304107361 PySem.W.Fast.tw14364793385576792824 pT w 11 annO 2 (s4 w os).abs (⟨doneF .next,cdO pT,(.mk 308 0 314 15),tfr⟩:Thread))=fun os=>(some (sF w os):Option Shared):=by kernel_rfl
theorem hd_fin (w:World) (os:OsState):topRun treeTable pO w 11 annO 2 (s4 w os).abs (⟨doneF .next,cdO pO,(.mk 308 0 314 15),tfr⟩:Thread)=(some (sF w os):Option Shared):=by
  have h:=congrFun (hd_fin_t w) os
  rw[← PySem.W.Fast.te14082659384304107361,← PySem.W.Fast.te14364793385576792824,← hp] at h
  exact h
def partsL:List Stmt→Nat→List Nat→List Stmt
  | _,_,[]=> []
  | b,a,m::ms=>(b.drop a).take m++partsL b (a+m) ms
theorem parts_cut (b:List Stmt): ∀(ms:List Nat) (a:Nat),a+ms.sum=b.length→partsL b a ms=b.drop a
  | [],a,h=>by
    have:a=b.length:=by simpa using h
    rw[this,List.drop_length];rfl
  | m::ms,a,h=>by
    have ih:=parts_cut b ms (a+m) (by rw[List.sum_cons] at h;omega)
    show (b.drop a).take m++partsL b (a+m) ms=_
    rw[ih,← List.drop_drop,List.take_append_drop]
theorem body_cut (p:Program) (h:(behindTheImports p).length=53):behindTheImports p=(stO p 0 8++(stO p 8 19++(stO p 27 16++(stO p 43 10++ [])))):=by
  have e:=parts_cut (behindTheImports p) [8,19,16,10] 0 (by rw[h];decide)
  exact e.symm
def mO:Nat:=(12+(1+(1401+(1364+(1578+(274+2))))))
theorem body_len:(behindTheImports pO).length=53:=by kernel_rfl
theorem hd_run (w:World) (os:OsState):topRun treeTable pO w 11 annO mO (s0A w os) (topStub pO)=some (sF w os):=by
  have k:=piece_nil (env:=enO pO) (hd_fin w os)
  have k:=piece_app (segRun_of (hd_p4 w os)) k
  have k:=piece_app (segRun_of (hd_p3 w os)) k
  have k:=piece_app (segRun_of (hd_p2 w os)) k
  have k:=piece_app (segRun_of (hd_p1 w os)) k
  rw[← body_cut pO body_len] at k
  exact go_top (hd_pre w os) (piece_block (hd_block w os) k)
def vwO (p:Program):Program:=PySem.W.view p [0,2,3,4,5,6,7,8,9,11,12,14,16,18,19,21,22,24,25,27,29,30,31,32,34,35,36,37,38,39,41,42,43,44,45,46,47,48,49,50,51,52]
def loO:List Str:= ["is_cell","mask_of_cells","cells_in_cells","cell_tuple","Board","mask_of_sequences","cells_in_sequences"]
def lvO:List (Str×WData):= []
theorem kA: ∀Q,KA=(KK Q).map (·.1):=fun _=>by kernel_rfl
def hkO:Hook:=kHook KK KA kA
def rrO:RowW:=OpenRow.toRowW (OpenLaw.row PySem.Challenge.rw_paritycells_k29_table_values)
def rrT:RowW:=OpenRow.toRowW (PySem.W.Fast.tw2368527892694137696 PySem.W.Fast.tw9941807791467158234)
theorem hr:rrO=rrT:=by
  unfold rrO rrT
  rw[PySem.W.Fast.te2368527892694137696,PySem.W.Fast.te9941807791467158234]
def xtO (r:RowW) (p:Program) (s:Shared):Bool:=xlAt (vwO p) lvO s && recOk (RowW.records r) s
theorem lk0_t (w:World):(fun os=>(staticsOk (PySem.W.Fast.tw5923862056798008813 (pT).main.body) (PySem.W.boot_heap w.params) (hF w.params) && namesBound pT (hF w.params) && gensDone (sF w os) && laidKept (PySem.W.boot_heap w.params) (hF w.params)))=fun (os:OsState)=>true:=by kernel_rfl
theorem lk0 (w:World) (os:OsState):(staticsOk (PySem.importedModules (pO).main.body) (PySem.W.boot_heap w.params) (hF w.params) && namesBound pO (hF w.params) && gensDone (sF w os) && laidKept (PySem.W.boot_heap w.params) (hF w.params))=true:=by
  have h:=congrFun (lk0_t w) os
  rw[← PySem.W.Fast.te5923862056798008813,← hp] at h
  exact h
theorem lk1_t (w:World):(fun os=>PySem.W.Fast.tw5160383126252970620 (List.map (fun x=>x.name) (PySem.W.Fast.tw3399658132070893891 (vwO pT))) (PySem.W.Fast.tw5991557255702980513 (vwO pT)) [] { heap:=((sF w os)).heap,drawn:=((sF w os)).drawn,toks:=((sF w os)).toks,os:=((sF w os)).os })=fun (os:OsState)=>PyProof.Rows.expectedOf (vwO pT):=by kernel_rfl
theorem lk1 (w:World) (os:OsState):PyProof.Rows.seen (List.map (fun x=>x.name) (PyProof.Rows.recsOf (vwO pO))) (PyProof.Rows.ownsOf (vwO pO)) [] { heap:=((sF w os)).heap,drawn:=((sF w os)).drawn,toks:=((sF w os)).toks,os:=((sF w os)).os }=PyProof.Rows.expectedOf (vwO pO):=by
  have h:=congrFun (lk1_t w) os
  rw[← PySem.W.Fast.te3399658132070893891,← PySem.W.Fast.te5991557255702980513,← PySem.W.Fast.te5160383126252970620,← hp] at h
  exact h
theorem lk2_t (w:World):(fun os=>((sF w os)).heap.bltView)=fun (os:OsState)=>bltViewBooted:=by kernel_rfl
theorem lk2 (w:World) (os:OsState):((sF w os)).heap.bltView=bltViewBooted:=by
  have h:=congrFun (lk2_t w) os
  exact h
theorem lk3_t (w:World):(fun os=>(PySem.W.Fast.tw10880121769531294198 ((sF w os)).heap (PySem.W.Fast.tw821141287760084731 (vwO pT) loO) (List.map (fun x=>x.name) (PySem.W.Fast.tw3399658132070893891 (vwO pT))) (List.map (fun x=>x.fst) (PySem.W.Fast.tw7409074990110511671 (vwO pT))) (List.map (fun x=>x.name) (PySem.W.Fast.tw13664370479719496447 (vwO pT) (PySem.W.Fast.tw821141287760084731 (vwO pT) loO))) && PySem.W.Fast.tw14722251495701143533 ((sF w os)).heap (PySem.W.Fast.tw5923862056798008813 (pT).main.body) && ((sF w os)).heap.isNs mainGlobals && ((sF w os)).heap.isNs builtinsNs && PySem.W.Fast.tw10994771534591457954 (vwO pT) ((sF w os)).heap && xtO rrT pT (sF w os) && (if true=true then ((sF w os)).gens.size == 0 else !leftWithCleanup ((sF w os)).gens)))=fun (os:OsState)=>true:=by kernel_rfl
theorem lk3 (w:World) (os:OsState):(PySem.Heap.keysOk ((sF w os)).heap (PySem.W.looseW (vwO pO) loO) (List.map (fun x=>x.name) (PyProof.Rows.recsOf (vwO pO))) (List.map (fun x=>x.fst) (PyProof.Rows.litsOf (vwO pO))) (List.map (fun x=>x.name) (PyProof.Rows.clssOf (vwO pO) (PySem.W.looseW (vwO pO) loO))) && PySem.Heap.accountedOkI ((sF w os)).heap (PySem.importedModules (pO).main.body) && ((sF w os)).heap.isNs mainGlobals && ((sF w os)).heap.isNs builtinsNs && PyProof.Rows.tablesOk (vwO pO) ((sF w os)).heap && xtO rrO pO (sF w os) && (if true=true then ((sF w os)).gens.size == 0 else !leftWithCleanup ((sF w os)).gens))=true:=by
  have h:=congrFun (lk3_t w) os
  rw[← PySem.W.Fast.te5923862056798008813,← PySem.W.Fast.te3399658132070893891,← PySem.W.Fast.te10880121769531294198,← PySem.W.Fast.te821141287760084731,← PySem.W.Fast.te7409074990110511671,← PySem.W.Fast.te13664370479719496447,← PySem.W.Fast.te14722251495701143533,← PySem.W.Fast.te10994771534591457954,← hp,← hr] at h
  exact h
theorem lk4_t (w:World):(fun os=>PySem.W.Fast.tw479339242167458305 (vwO pT) (sF w os))=fun (os:OsState)=>true:=by kernel_rfl
theorem lk4 (w:World) (os:OsState):PyProof.Rows.tabsOk (vwO pO) (sF w os)=true:=by
  have h:=congrFun (lk4_t w) os
  rw[← PySem.W.Fast.te479339242167458305,← hp] at h
  exact h
theorem lk5_t (w:World):(fun os=>PySem.W.Fast.tw16090120013241838585 (vwO pT) (PySem.W.Fast.tw3247288618530077131 (vwO pT)) (sF w os))=fun (os:OsState)=>pinGoodD (PyProof.Rows.drecsOf (vwO pT)):=by kernel_rfl
theorem lk5 (w:World) (os:OsState):PySem.pinSeenD (vwO pO) (PyProof.Rows.drecsOf (vwO pO)) (sF w os)=pinGoodD (PyProof.Rows.drecsOf (vwO pO)):=by
  have h:=congrFun (lk5_t w) os
  rw[← PySem.W.Fast.te3247288618530077131,← PySem.W.Fast.te16090120013241838585,← hp] at h
  exact h
theorem lk7_t (w:World):(fun os=>PySem.W.Fast.tw11698064438423848299 (vwO pT) loO (sF w os))=fun (os:OsState)=>PyProof.Rows.plainGoodD (vwO pT) loO:=by kernel_rfl
theorem lk7 (w:World) (os:OsState):PyProof.Rows.plainSeenD (vwO pO) loO (sF w os)=PyProof.Rows.plainGoodD (vwO pO) loO:=by
  have h:=congrFun (lk7_t w) os
  rw[← PySem.W.Fast.te11698064438423848299,← hp] at h
  exact h
theorem lk8_t (w:World):(fun os=>PySem.W.Fast.tw7317090234206586261 (vwO pT) (sF w os))=fun (os:OsState)=>wideGood (vwO pT):=by kernel_rfl
theorem lk8 (w:World) (os:OsState):PySem.W.wideSeen (vwO pO) (sF w os)=wideGood (vwO pO):=by
  have h:=congrFun (lk8_t w) os
  rw[← PySem.W.Fast.te7317090234206586261,← hp] at h
  exact h
theorem lk9_t (w:World):(fun os=>PySem.W.Fast.tw7369524293546568484 (vwO pT) loO (sF w os))=fun (os:OsState)=>clsGoodW (vwO pT) loO:=by kernel_rfl
theorem lk9 (w:World) (os:OsState):PySem.W.clsSeenW (vwO pO) loO (sF w os)=clsGoodW (vwO pO) loO:=by
  have h:=congrFun (lk9_t w) os
  rw[← PySem.W.Fast.te7369524293546568484,← hp] at h
  exact h
theorem lk6_0_t (w:World):(fun os=>(((PySem.W.Fast.tw210736558901404530 (vwO pT) (PySem.W.Fast.tw821141287760084731 (vwO pT) loO)).drop 0).take 6).map (fun c=>PySem.W.Fast.tw15717526521509864196 ((sF w os)).heap c.withCmp))=fun (os:OsState)=>(((PySem.W.Fast.tw210736558901404530 (vwO pT) (PySem.W.Fast.tw821141287760084731 (vwO pT) loO)).drop 0).take 6).map (fun c=>some c.withCmp.plainShape):=by kernel_rfl
theorem lk6_0 (w:World) (os:OsState):(((PyProof.Rows.plainsOf (vwO pO) (PySem.W.looseW (vwO pO) loO)).drop 0).take 6).map (fun c=>PySem.Heap.plainShapeAt ((sF w os)).heap c.withCmp)=(((PyProof.Rows.plainsOf (vwO pO) (PySem.W.looseW (vwO pO) loO)).drop 0).take 6).map (fun c=>some c.withCmp.plainShape):=by
  have h:=congrFun (lk6_0_t w) os
  rw[← PySem.W.Fast.te821141287760084731,← PySem.W.Fast.te15717526521509864196,← PySem.W.Fast.te210736558901404530,← hp] at h
  exact h
theorem lk6_1_t (w:World):(fun os=>(((PySem.W.Fast.tw210736558901404530 (vwO pT) (PySem.W.Fast.tw821141287760084731 (vwO pT) loO)).drop 6).take 6).map (fun c=>PySem.W.Fast.tw15717526521509864196 ((sF w os)).heap c.withCmp))=fun (os:OsState)=>(((PySem.W.Fast.tw210736558901404530 (vwO pT) (PySem.W.Fast.tw821141287760084731 (vwO pT) loO)).drop 6).take 6).map (fun c=>some c.withCmp.plainShape):=by kernel_rfl
theorem lk6_1 (w:World) (os:OsState):(((PyProof.Rows.plainsOf (vwO pO) (PySem.W.looseW (vwO pO) loO)).drop 6).take 6).map (fun c=>PySem.Heap.plainShapeAt ((sF w os)).heap c.withCmp)=(((PyProof.Rows.plainsOf (vwO pO) (PySem.W.looseW (vwO pO) loO)).drop 6).take 6).map (fun c=>some c.withCmp.plainShape):=by
  have h:=congrFun (lk6_1_t w) os
  rw[← PySem.W.Fast.te821141287760084731,← PySem.W.Fast.te15717526521509864196,← PySem.W.Fast.te210736558901404530,← hp] at h
  exact h
theorem lk6_2_t (w:World):(fun os=>(((PySem.W.Fast.tw210736558901404530 (vwO pT) (PySem.W.Fast.tw821141287760084731 (vwO pT) loO)).drop 12).take 6).map (fun c=>PySem.W.Fast.tw15717526521509864196 ((sF w os)).heap c.withCmp))=fun (os:OsState)=>(((PySem.W.Fast.tw210736558901404530 (vwO pT) (PySem.W.Fast.tw821141287760084731 (vwO pT) loO)).drop 12).take 6).map (fun c=>some c.withCmp.plainShape):=by kernel_rfl
theorem lk6_2 (w:World) (os:OsState):(((PyProof.Rows.plainsOf (vwO pO) (PySem.W.looseW (vwO pO) loO)).drop 12).take 6).map (fun c=>PySem.Heap.plainShapeAt ((sF w os)).heap c.withCmp)=(((PyProof.Rows.plainsOf (vwO pO) (PySem.W.looseW (vwO pO) loO)).drop 12).take 6).map (fun c=>some c.withCmp.plainShape):=by
  have h:=congrFun (lk6_2_t w) os
  rw[← PySem.W.Fast.te821141287760084731,← PySem.W.Fast.te15717526521509864196,← PySem.W.Fast.te210736558901404530,← hp] at h
  exact h
theorem lk6_3_t (w:World):(fun os=>(((PySem.W.Fast.tw210736558901404530 (vwO pT) (PySem.W.Fast.tw821141287760084731 (vwO pT) loO)).drop 18).take 6).map (fun c=>PySem.W.Fast.tw15717526521509864196 ((sF w os)).heap c.withCmp))=fun (os:OsState)=>(((PySem.W.Fast.tw210736558901404530 (vwO pT) (PySem.W.Fast.tw821141287760084731 (vwO pT) loO)).drop 18).take 6).map (fun c=>some c.withCmp.plainShape):=by kernel_rfl
theorem lk6_3 (w:World) (os:OsState):(((PyProof.Rows.plainsOf (vwO pO) (PySem.W.looseW (vwO pO) loO)).drop 18).take 6).map (fun c=>PySem.Heap.plainShapeAt ((sF w os)).heap c.withCmp)=(((PyProof.Rows.plainsOf (vwO pO) (PySem.W.looseW (vwO pO) loO)).drop 18).take 6).map (fun c=>some c.withCmp.plainShape):=by
  have h:=congrFun (lk6_3_t w) os
  rw[← PySem.W.Fast.te821141287760084731,← PySem.W.Fast.te15717526521509864196,← PySem.W.Fast.te210736558901404530,← hp] at h
  exact h
theorem lk6_4_t (w:World):(fun os=>(((PySem.W.Fast.tw210736558901404530 (vwO pT) (PySem.W.Fast.tw821141287760084731 (vwO pT) loO)).drop 24).take 6).map (fun c=>PySem.W.Fast.tw15717526521509864196 ((sF w os)).heap c.withCmp))=fun (os:OsState)=>(((PySem.W.Fast.tw210736558901404530 (vwO pT) (PySem.W.Fast.tw821141287760084731 (vwO pT) loO)).drop 24).take 6).map (fun c=>some c.withCmp.plainShape):=by kernel_rfl
theorem lk6_4 (w:World) (os:OsState):(((PyProof.Rows.plainsOf (vwO pO) (PySem.W.looseW (vwO pO) loO)).drop 24).take 6).map (fun c=>PySem.Heap.plainShapeAt ((sF w os)).heap c.withCmp)=(((PyProof.Rows.plainsOf (vwO pO) (PySem.W.looseW (vwO pO) loO)).drop 24).take 6).map (fun c=>some c.withCmp.plainShape):=by
  have h:=congrFun (lk6_4_t w) os
  rw[← PySem.W.Fast.te821141287760084731,← PySem.W.Fast.te15717526521509864196,← PySem.W.Fast.te210736558901404530,← hp] at h
  exact h
theorem lk6_5_t (w:World):(fun os=>(((PySem.W.Fast.tw210736558901404530 (vwO pT) (PySem.W.Fast.tw821141287760084731 (vwO pT) loO)).drop 30).take 6).map (fun c=>PySem.W.Fast.tw15717526521509864196 ((sF w os)).heap c.withCmp))=fun (os:OsState)=>(((PySem.W.Fast.tw210736558901404530 (vwO pT) (PySem.W.Fast.tw821141287760084731 (vwO pT) loO)).drop 30).take 6).map (fun c=>some c.withCmp.plainShape):=by kernel_rfl
theorem lk6_5 (w:World) (os:OsState):(((PyProof.Rows.plainsOf (vwO pO) (PySem.W.looseW (vwO pO) loO)).drop 30).take 6).map (fun c=>PySem.Heap.plainShapeAt ((sF w os)).heap c.withCmp)=(((PyProof.Rows.plainsOf (vwO pO) (PySem.W.looseW (vwO pO) loO)).drop 30).take 6).map (fun c=>some c.withCmp.plainShape):=by
  have h:=congrFun (lk6_5_t w) os
  rw[← PySem.W.Fast.te821141287760084731,← PySem.W.Fast.te15717526521509864196,← PySem.W.Fast.te210736558901404530,← hp] at h
  exact h
theorem lk6_6_t (w:World):(fun os=>(((PySem.W.Fast.tw210736558901404530 (vwO pT) (PySem.W.Fast.tw821141287760084731 (vwO pT) loO)).drop 36).take 1000).map (fun c=>PySem.W.Fast.tw15717526521509864196 ((sF w os)).heap c.withCmp))=fun (os:OsState)=>(((PySem.W.Fast.tw210736558901404530 (vwO pT) (PySem.W.Fast.tw821141287760084731 (vwO pT) loO)).drop 36).take 1000).map (fun c=>some c.withCmp.plainShape):=by kernel_rfl
theorem lk6_6 (w:World) (os:OsState):(((PyProof.Rows.plainsOf (vwO pO) (PySem.W.looseW (vwO pO) loO)).drop 36).take 1000).map (fun c=>PySem.Heap.plainShapeAt ((sF w os)).heap c.withCmp)=(((PyProof.Rows.plainsOf (vwO pO) (PySem.W.looseW (vwO pO) loO)).drop 36).take 1000).map (fun c=>some c.withCmp.plainShape):=by
  have h:=congrFun (lk6_6_t w) os
  rw[← PySem.W.Fast.te821141287760084731,← PySem.W.Fast.te15717526521509864196,← PySem.W.Fast.te210736558901404530,← hp] at h
  exact h
theorem lk10_0_t (w:World):(fun os=>((KA.drop 0).take 60).map ((sF w os)).heap.get?)=fun (os:OsState)=>(((KK w.params).drop 0).take 60).map (fun p=>some p.2):=by kernel_rfl
theorem lk10_0 (w:World) (os:OsState):((KA.drop 0).take 60).map ((sF w os)).heap.get?=(((KK w.params).drop 0).take 60).map (fun p=>some p.2):=by
  have h:=congrFun (lk10_0_t w) os
  exact h
theorem lk10_1_t (w:World):(fun os=>((KA.drop 60).take 60).map ((sF w os)).heap.get?)=fun (os:OsState)=>(((KK w.params).drop 60).take 60).map (fun p=>some p.2):=by kernel_rfl
theorem lk10_1 (w:World) (os:OsState):((KA.drop 60).take 60).map ((sF w os)).heap.get?=(((KK w.params).drop 60).take 60).map (fun p=>some p.2):=by
  have h:=congrFun (lk10_1_t w) os
  exact h
theorem lk10_2_t (w:World):(fun os=>((KA.drop 120).take 60).map ((sF w os)).heap.get?)=fun (os:OsState)=>(((KK w.params).drop 120).take 60).map (fun p=>some p.2):=by kernel_rfl
theorem lk10_2 (w:World) (os:OsState):((KA.drop 120).take 60).map ((sF w os)).heap.get?=(((KK w.params).drop 120).take 60).map (fun p=>some p.2):=by
  have h:=congrFun (lk10_2_t w) os
  exact h
theorem lk10_3_t (w:World):(fun os=>((KA.drop 180).take 60).map ((sF w os)).heap.get?)=fun (os:OsState)=>(((KK w.params).drop 180).take 60).map (fun p=>some p.2):=by kernel_rfl
theorem lk10_3 (w:World) (os:OsState):((KA.drop 180).take 60).map ((sF w os)).heap.get?=(((KK w.params).drop 180).take 60).map (fun p=>some p.2):=by
  have h:=congrFun (lk10_3_t w) os
  exact h
theorem lk10_4_t (w:World):(fun os=>((KA.drop 240).take 60).map ((sF w os)).heap.get?)=fun (os:OsState)=>(((KK w.params).drop 240).take 60).map (fun p=>some p.2):=by kernel_rfl
theorem lk10_4 (w:World) (os:OsState):((KA.drop 240).take 60).map ((sF w os)).heap.get?=(((KK w.params).drop 240).take 60).map (fun p=>some p.2):=by
  have h:=congrFun (lk10_4_t w) os
  exact h
theorem lk10_5_t (w:World):(fun os=>((KA.drop 300).take 60).map ((sF w os)).heap.get?)=fun (os:OsState)=>(((KK w.params).drop 300).take 60).map (fun p=>some p.2):=by kernel_rfl
theorem lk10_5 (w:World) (os:OsState):((KA.drop 300).take 60).map ((sF w os)).heap.get?=(((KK w.params).drop 300).take 60).map (fun p=>some p.2):=by
  have h:=congrFun (lk10_5_t w) os
  exact h
theorem lk10_6_t (w:World):(fun os=>((KA.drop 360).take 60).map ((sF w os)).heap.get?)=fun (os:OsState)=>(((KK w.params).drop 360).take 60).map (fun p=>some p.2):=by kernel_rfl
theorem lk10_6 (w:World) (os:OsState):((KA.drop 360).take 60).map ((sF w os)).heap.get?=(((KK w.params).drop 360).take 60).map (fun p=>some p.2):=by
  have h:=congrFun (lk10_6_t w) os
  exact h
theorem map_cut {α β γ:Type} {f:α→γ} {g:β→γ} {xs:List α} {ys:List β} {a m:Nat} (h:((xs.drop a).take m).map f=((ys.drop a).take m).map g) (k:(xs.drop (a+m)).map f=(ys.drop (a+m)).map g):(xs.drop a).map f=(ys.drop a).map g:=by
  rw[← List.take_append_drop m (xs.drop a),← List.take_append_drop m (ys.drop a),List.map_append,List.map_append,h,List.drop_drop,List.drop_drop,k]
theorem map_end {α β γ:Type} {f:α→γ} {g:β→γ} {xs:List α} {ys:List β} {a m:Nat} (h:((xs.drop a).take m).map f=((ys.drop a).take m).map g) (l:xs.length≤a+m) (l2:ys.length≤a+m):(xs.drop a).map f=(ys.drop a).map g:=by
  rw[List.take_of_length_le (by rw[List.length_drop];omega),List.take_of_length_le (by rw[List.length_drop];omega)] at h
  exact h
theorem po_len_t:Nat.ble (PyProof.Rows.plainsOf (vwO pO) (looseW (vwO pO) loO)).length 1036=true:=by kernel_rfl
theorem po_len:(PyProof.Rows.plainsOf (vwO pO) (looseW (vwO pO) loO)).length≤36+1000:=Nat.le_of_ble_eq_true po_len_t
theorem lk6 (w:World) (os:OsState):PyProof.Rows.plainSeenE (vwO pO) (looseW (vwO pO) loO) (sF w os)=PyProof.Rows.plainGoodE (vwO pO) (looseW (vwO pO) loO):=by
  have h:=map_cut (lk6_0 w os) (map_cut (lk6_1 w os) (map_cut (lk6_2 w os) (map_cut (lk6_3 w os) (map_cut (lk6_4 w os) (map_cut (lk6_5 w os) (map_end (lk6_6 w os) po_len po_len))))))
  exact h
theorem ka_len:KA.length≤360+60:=Nat.le_of_ble_eq_true (by kernel_rfl)
theorem kk_len (Q:Params):(KK Q).length≤360+60:=Nat.le_of_ble_eq_true (by kernel_rfl)
theorem lk10 (w:World) (os:OsState):Hook.obs hkO (sF w os)=Hook.val hkO w:=by
  have h:=map_cut (lk10_0 w os) (map_cut (lk10_1 w os) (map_cut (lk10_2 w os) (map_cut (lk10_3 w os) (map_cut (lk10_4 w os) (map_cut (lk10_5 w os) (map_end (lk10_6 w os) ka_len (kk_len w.params)))))))
  exact h
theorem looks3 {α β γ:Type} {a x:α} {b y:β} {c z:γ} (h:a=x) (g:b=y) (k:c=z):(a,b,c)=(x,y,z):=by rw[h,g,k]
theorem openSeen_of {q:Program} {loose mods:List Str} {Xt:Shared→Bool} {g0:Bool} {s:Shared}
    (h1:PyProof.Rows.seen (List.map (fun x=>x.name) (PyProof.Rows.recsOf q)) (PyProof.Rows.ownsOf q) [] { heap:=s.heap,drawn:=s.drawn,toks:=s.toks,os:=s.os }=PyProof.Rows.expectedOf q)
    (h2:s.heap.bltView=bltViewBooted)
    (h3:(s.heap.keysOk (looseW q loose) (List.map (fun x=>x.name) (PyProof.Rows.recsOf q)) (List.map (fun x=>x.fst) (PyProof.Rows.litsOf q)) (List.map (fun x=>x.name) (PyProof.Rows.clssOf q (looseW q loose))) && s.heap.accountedOkI mods && s.heap.isNs mainGlobals && s.heap.isNs builtinsNs && PyProof.Rows.tablesOk q s.heap && Xt s && (if g0=true then s.gens.size == 0 else !leftWithCleanup s.gens))=true)
    (h4:PyProof.Rows.tabsOk q s=true) (h5:pinSeenD q (PyProof.Rows.drecsOf q) s=pinGoodD (PyProof.Rows.drecsOf q)) (h6:PyProof.Rows.plainSeenE q (looseW q loose) s=PyProof.Rows.plainGoodE q (looseW q loose))
    (h7:PyProof.Rows.plainSeenD q loose s=PyProof.Rows.plainGoodD q loose) (h8:wideSeen q s=wideGood q) (h9:clsSeenW q loose s=clsGoodW q loose):openSeen q loose mods Xt g0 s=openGood q loose:=by
  unfold openSeen openGood
  rw[h1,h2,h3,h4,h5,h6,h7,h8,h9]
theorem hd_e:opening pO=plainProg pO.main.scope.names:=by kernel_rfl
theorem hd_f: ∀s:Shared,fenceModules? pO s=some s:=fun s=>by kernel_rfl
theorem hd_size (w:World):((PySem.W.boot_heap w.params).isNs mainGlobals && Array.size (⟨[]⟩:Array GenState) == 0,(PySem.W.boot_heap w.params).objs.size,(PySem.W.boot_heap w.params).nsMap mainGlobals "__annotations__")=(true,11,annO):=by kernel_rfl
theorem hd_left:LeftO pO (vwO pO) loO (xtO rrO pO) (Hook.obs hkO) (Hook.val hkO) 9352:=by
  refine LeftO.of_pieces (H₀:=PySem.W.boot_heap) (H₁:=hF) (gs₀:=⟨[]⟩) (gs₁:=⟨[]⟩) (d₀:=PySem.W.boot_drawn) (d₁:=(.mk 0 0 0 0)) (k₀:=PySem.W.boot_toks) (k₁:=943) (m₀:=11) (ann:=annO) (M:=mO) (boot_open hd_e (by decide +kernel) hd_f) hd_size hd_run (by decide +kernel) fun w=> ?_
  funext os
  exact looks3 (lk0 w os) (openSeen_of (lk1 w os) (lk2 w os) (lk3 w os) (lk4 w os) (lk5 w os) (lk6 w os) (lk7 w os) (lk8 w os) (lk9 w os)) (lk10 w os)
end

theorem all_mk {l:PySem.W.OpenLaw} {w:World} {K:PySem.W.Frag} {h:Heap} {mg:Str→Option Value} {fa:Addr} (X:K.In h) (G:h.Ns mainGlobals mg) (hfa:mg "law" =some (.ref fa))
    {f_0:Addr} {od_0 an_0:Option Addr} {sl_0:Array (Option Value)} {oc_0 kV_0 dc_0 pm_0 cd_0 ct_0:Value}
    {f_1:Addr} {od_1 an_1:Option Addr} {sl_1:Array (Option Value)} {oc_1 kV_1 dc_1 pm_1 cd_1 ct_1:Value}
    {f_2:Addr} {od_2 an_2:Option Addr} {sl_2:Array (Option Value)} {oc_2 kV_2 dc_2 pm_2 cd_2 ct_2:Value}
    {f_3:Addr} {od_3 an_3:Option Addr} {sl_3:Array (Option Value)} {oc_3 kV_3 dc_3 pm_3 cd_3 ct_3:Value}
    {f_4:Addr} {od_4 an_4:Option Addr} {sl_4:Array (Option Value)} {oc_4 kV_4 dc_4 pm_4 cd_4 ct_4:Value}
    {f_5:Addr} {od_5 an_5:Option Addr} {sl_5:Array (Option Value)} {oc_5 kV_5 dc_5 pm_5 cd_5 ct_5:Value}
    {f_6:Addr} {od_6 an_6:Option Addr} {sl_6:Array (Option Value)} {oc_6 kV_6 dc_6 pm_6 cd_6 ct_6:Value}
    {f_7:Addr} {od_7 an_7:Option Addr} {sl_7:Array (Option Value)} {oc_7 kV_7 dc_7 pm_7 cd_7 ct_7:Value}
    {f_8:Addr} {od_8 an_8:Option Addr} {sl_8:Array (Option Value)} {oc_8 kV_8 dc_8 pm_8 cd_8 ct_8:Value}
    {f_9:Addr} {od_9 an_9:Option Addr} {sl_9:Array (Option Value)} {oc_9 kV_9 dc_9 pm_9 cd_9 ct_9:Value}
    {f_10:Addr} {od_10 an_10:Option Addr} {sl_10:Array (Option Value)} {oc_10 kV_10 dc_10 pm_10 cd_10 ct_10:Value}
    {f_11:Addr} {od_11 an_11:Option Addr} {sl_11:Array (Option Value)} {oc_11 dc_11 pm_11 cd_11 ct_11:Value} {kd_is_cell:Addr}
    {kt_is_cell_0:Tok}
    {f_12:Addr} {od_12 an_12:Option Addr} {sl_12:Array (Option Value)} {oc_12 dc_12 pm_12 cd_12 ct_12:Value} {kd_cell_tuple:Addr}
    {kt_cell_tuple_0:Tok}
    {f_13:Addr} {od_13 an_13:Option Addr} {sl_13:Array (Option Value)} {oc_13 kV_13 dc_13 pm_13 cd_13 ct_13:Value}
    {f_14:Addr} {od_14 an_14:Option Addr} {sl_14:Array (Option Value)} {oc_14 dc_14 pm_14 cd_14 ct_14:Value} {kd_Board____init:Addr}
    {dd_Board____init_0:Option Addr} {dn_Board____init_0:Nat} {ds_Board____init_0:Array (Option Value)} {da_Board____init_0:Addr}
    {f_15:Addr} {od_15 an_15:Option Addr} {sl_15:Array (Option Value)} {oc_15 kV_15 dc_15 pm_15 cd_15 ct_15:Value}
    {f_16:Addr} {od_16 an_16:Option Addr} {sl_16:Array (Option Value)} {oc_16 kV_16 dc_16 pm_16 cd_16 ct_16:Value}
    {f_17:Addr} {od_17 an_17:Option Addr} {sl_17:Array (Option Value)} {oc_17 kV_17 dc_17 pm_17 cd_17 ct_17:Value}
    {f_18:Addr} {od_18 an_18:Option Addr} {sl_18:Array (Option Value)} {oc_18 kV_18 dc_18 pm_18 cd_18 ct_18:Value}
    {f_19:Addr} {od_19 an_19:Option Addr} {sl_19:Array (Option Value)} {oc_19 kV_19 dc_19 pm_19 cd_19 ct_19:Value}
    {f_20:Addr} {od_20 an_20:Option Addr} {sl_20:Array (Option Value)} {oc_20 kV_20 dc_20 pm_20 cd_20 ct_20:Value}
    {f_21:Addr} {od_21 an_21:Option Addr} {sl_21:Array (Option Value)} {oc_21 kV_21 dc_21 pm_21 cd_21 ct_21:Value}
    {f_22:Addr} {od_22 an_22:Option Addr} {sl_22:Array (Option Value)} {oc_22 kV_22 dc_22 pm_22 cd_22 ct_22:Value}
    {f_23:Addr} {od_23 an_23:Option Addr} {sl_23:Array (Option Value)} {oc_23 kV_23 dc_23 pm_23 cd_23 ct_23:Value}
    {f_24:Addr} {od_24 an_24:Option Addr} {sl_24:Array (Option Value)} {oc_24 kV_24 dc_24 pm_24 cd_24 ct_24:Value}
    {f_25:Addr} {od_25 an_25:Option Addr} {sl_25:Array (Option Value)} {oc_25 kV_25 dc_25 pm_25 cd_25 ct_25:Value}
    {f_26:Addr} {od_26 an_26:Option Addr} {sl_26:Array (Option Value)} {oc_26 kV_26 dc_26 pm_26 cd_26 ct_26:Value}
    {f_27:Addr} {od_27 an_27:Option Addr} {sl_27:Array (Option Value)} {oc_27 kV_27 dc_27 pm_27 cd_27 ct_27:Value}
    {f_28:Addr} {od_28 an_28:Option Addr} {sl_28:Array (Option Value)} {oc_28 kV_28 dc_28 pm_28 cd_28 ct_28:Value}
    {f_29:Addr} {od_29 an_29:Option Addr} {sl_29:Array (Option Value)} {oc_29 kV_29 dc_29 pm_29 cd_29 ct_29:Value}
    {f_30:Addr} {od_30 an_30:Option Addr} {sl_30:Array (Option Value)} {oc_30 kV_30 dc_30 pm_30 cd_30 ct_30:Value}
    {f_31:Addr} {od_31 an_31:Option Addr} {sl_31:Array (Option Value)} {oc_31 kV_31 dc_31 pm_31 cd_31 ct_31:Value}
    {f_32:Addr} {od_32 an_32:Option Addr} {sl_32:Array (Option Value)} {oc_32 dc_32 pm_32 cd_32 ct_32:Value} {kd_cell_tuple__2:Addr}
    {kt_cell_tuple__2_0:Tok}
    {f_33:Addr} {od_33 an_33:Option Addr} {sl_33:Array (Option Value)} {oc_33 kV_33 dc_33 pm_33 cd_33 ct_33:Value}
    {f_34:Addr} {od_34 an_34:Option Addr} {sl_34:Array (Option Value)} {oc_34 kV_34 dc_34 pm_34 cd_34 ct_34:Value}
    {f_35:Addr} {od_35 an_35:Option Addr} {sl_35:Array (Option Value)} {oc_35 kV_35 dc_35 pm_35 cd_35 ct_35:Value}
    {f_36:Addr} {od_36 an_36:Option Addr} {sl_36:Array (Option Value)} {oc_36 kV_36 dc_36 pm_36 cd_36 ct_36:Value}
    {f_37:Addr} {od_37 an_37:Option Addr} {sl_37:Array (Option Value)} {oc_37 kV_37 dc_37 pm_37 cd_37 ct_37:Value}
    {f_38:Addr} {od_38 an_38:Option Addr} {sl_38:Array (Option Value)} {oc_38 kV_38 dc_38 pm_38 cd_38 ct_38:Value}
    {f_39:Addr} {od_39 an_39:Option Addr} {sl_39:Array (Option Value)} {oc_39 kV_39 dc_39 pm_39 cd_39 ct_39:Value}
    {f_40:Addr} {od_40 an_40:Option Addr} {sl_40:Array (Option Value)} {oc_40 kV_40 dc_40 pm_40 cd_40 ct_40:Value}
    {f_41:Addr} {od_41 an_41:Option Addr} {sl_41:Array (Option Value)} {oc_41 kV_41 dc_41 pm_41 cd_41 ct_41:Value}
    {f_42:Addr} {od_42 an_42:Option Addr} {sl_42:Array (Option Value)} {oc_42 kV_42 dc_42 pm_42 cd_42 ct_42:Value}
    {f_43:Addr} {od_43 an_43:Option Addr} {sl_43:Array (Option Value)} {oc_43 kV_43 dc_43 pm_43 cd_43 ct_43:Value}
    {f_44:Addr} {od_44 an_44:Option Addr} {sl_44:Array (Option Value)} {oc_44 kV_44 dc_44 pm_44 cd_44 ct_44:Value}
    {f_45:Addr} {od_45 an_45:Option Addr} {sl_45:Array (Option Value)} {oc_45 kV_45 dc_45 pm_45 cd_45 ct_45:Value}
    {c_Board:Addr}
    {c_Flip:Addr}
    {c_Elimination:Addr}
    {c_Table:Addr}
    {c_CellError:Addr}
    {c_LimitError:Addr}
    {c_NoSize:Addr}
    {c_NoCell:Addr}
    {c_NoCells:Addr}
    {c_NoFlip:Addr}
    {c_NoTable:Addr}
    {c_TooWide:Addr}
    {fI_NoSize N_NoSize:Addr} {nm_NoSize qn_NoSize:Str} {bs_NoSize sb_NoSize:List Value} {sn_NoSize:List Str} {ab_NoSize:Bool} {col_NoSize:Option Bool} {dd_NoSize od_NoSize an_NoSize:Option Addr} {m0_NoSize m1_NoSize m2_NoSize m3_NoSize m5_NoSize:Option Value} {oc_NoSize kV_NoSize dc_NoSize pm_NoSize cd_NoSize ct_NoSize:Value} {sl_NoSize:Array (Option Value)}
    {fI_NoCell N_NoCell:Addr} {nm_NoCell qn_NoCell:Str} {bs_NoCell sb_NoCell:List Value} {sn_NoCell:List Str} {ab_NoCell:Bool} {col_NoCell:Option Bool} {dd_NoCell od_NoCell an_NoCell:Option Addr} {m0_NoCell m1_NoCell m2_NoCell m3_NoCell m5_NoCell:Option Value} {oc_NoCell kV_NoCell dc_NoCell pm_NoCell cd_NoCell ct_NoCell:Value} {sl_NoCell:Array (Option Value)}
    {fI_NoCells N_NoCells:Addr} {nm_NoCells qn_NoCells:Str} {bs_NoCells sb_NoCells:List Value} {sn_NoCells:List Str} {ab_NoCells:Bool} {col_NoCells:Option Bool} {dd_NoCells od_NoCells an_NoCells:Option Addr} {m0_NoCells m1_NoCells m2_NoCells m3_NoCells m5_NoCells:Option Value} {oc_NoCells kV_NoCells dc_NoCells pm_NoCells cd_NoCells ct_NoCells:Value} {sl_NoCells:Array (Option Value)}
    {fI_NoFlip N_NoFlip:Addr} {nm_NoFlip qn_NoFlip:Str} {bs_NoFlip sb_NoFlip:List Value} {sn_NoFlip:List Str} {ab_NoFlip:Bool} {col_NoFlip:Option Bool} {dd_NoFlip od_NoFlip an_NoFlip:Option Addr} {m0_NoFlip m1_NoFlip m2_NoFlip m3_NoFlip m5_NoFlip:Option Value} {oc_NoFlip kV_NoFlip dc_NoFlip pm_NoFlip cd_NoFlip ct_NoFlip:Value} {sl_NoFlip:Array (Option Value)}
    {fI_NoTable N_NoTable:Addr} {nm_NoTable qn_NoTable:Str} {bs_NoTable sb_NoTable:List Value} {sn_NoTable:List Str} {ab_NoTable:Bool} {col_NoTable:Option Bool} {dd_NoTable od_NoTable an_NoTable:Option Addr} {m0_NoTable m1_NoTable m2_NoTable m3_NoTable m5_NoTable:Option Value} {oc_NoTable kV_NoTable dc_NoTable pm_NoTable cd_NoTable ct_NoTable:Value} {sl_NoTable:Array (Option Value)}
    {fI_TooWide N_TooWide:Addr} {nm_TooWide qn_TooWide:Str} {bs_TooWide sb_TooWide:List Value} {sn_TooWide:List Str} {ab_TooWide:Bool} {col_TooWide:Option Bool} {dd_TooWide od_TooWide an_TooWide:Option Addr} {m0_TooWide m1_TooWide m2_TooWide m3_TooWide m5_TooWide:Option Value} {oc_TooWide kV_TooWide dc_TooWide pm_TooWide cd_TooWide ct_TooWide:Value} {sl_TooWide:Array (Option Value)}
    {t_MOST_CELLS:Tok}
    (aC_Table:PySem.W.nsIn K mainGlobals "Table" =some (some (.ref c_Table)))
    (aC_Elimination:PySem.W.nsIn K mainGlobals "Elimination" =some (some (.ref c_Elimination)))
    (aC_Flip:PySem.W.nsIn K mainGlobals "Flip" =some (some (.ref c_Flip)))
    (aC_Board:PySem.W.nsIn K mainGlobals "Board" =some (some (.ref c_Board)))
    (a_law_pot:PySem.W.nsIn K mainGlobals "_law_pot" =some (some (.ref f_0))) (l_law_pot:K.lookup f_0=some ⟨oc_0,od_0,.func (PySem.W.fnOf "_law_pot" "_law_pot" (defArgs st__law_pot) (defBody st__law_pot) (defScope st__law_pot) .none kV_0 dc_0 pm_0 an_0 cd_0 ct_0),sl_0⟩) (c_law_pot:PySem.W.codeIn K cd_0 "_law_pot" =true) (k_law_pot:PySem.W.keepIn K (.ref f_0)=true)
    (a_law_draw:PySem.W.nsIn K mainGlobals "_law_draw" =some (some (.ref f_1))) (l_law_draw:K.lookup f_1=some ⟨oc_1,od_1,.func (PySem.W.fnOf "_law_draw" "_law_draw" (defArgs st__law_draw) (defBody st__law_draw) (defScope st__law_draw) .none kV_1 dc_1 pm_1 an_1 cd_1 ct_1),sl_1⟩) (c_law_draw:PySem.W.codeIn K cd_1 "_law_draw" =true) (k_law_draw:PySem.W.keepIn K (.ref f_1)=true)
    (a_law_width:PySem.W.nsIn K mainGlobals "_law_width" =some (some (.ref f_2))) (l_law_width:K.lookup f_2=some ⟨oc_2,od_2,.func (PySem.W.fnOf "_law_width" "_law_width" (defArgs st__law_width) (defBody st__law_width) (defScope st__law_width) .none kV_2 dc_2 pm_2 an_2 cd_2 ct_2),sl_2⟩) (c_law_width:PySem.W.codeIn K cd_2 "_law_width" =true) (k_law_width:PySem.W.keepIn K (.ref f_2)=true)
    (a_law_spots:PySem.W.nsIn K mainGlobals "_law_spots" =some (some (.ref f_3))) (l_law_spots:K.lookup f_3=some ⟨oc_3,od_3,.func (PySem.W.fnOf "_law_spots" "_law_spots" (defArgs st__law_spots) (defBody st__law_spots) (defScope st__law_spots) .none kV_3 dc_3 pm_3 an_3 cd_3 ct_3),sl_3⟩) (c_law_spots:PySem.W.codeIn K cd_3 "_law_spots" =true) (k_law_spots:PySem.W.keepIn K (.ref f_3)=true)
    (a_law_pair:PySem.W.nsIn K mainGlobals "_law_pair" =some (some (.ref f_4))) (l_law_pair:K.lookup f_4=some ⟨oc_4,od_4,.func (PySem.W.fnOf "_law_pair" "_law_pair" (defArgs st__law_pair) (defBody st__law_pair) (defScope st__law_pair) .none kV_4 dc_4 pm_4 an_4 cd_4 ct_4),sl_4⟩) (c_law_pair:PySem.W.codeIn K cd_4 "_law_pair" =true) (k_law_pair:PySem.W.keepIn K (.ref f_4)=true)
    (a_law_added:PySem.W.nsIn K mainGlobals "_law_added" =some (some (.ref f_5))) (l_law_added:K.lookup f_5=some ⟨oc_5,od_5,.func (PySem.W.fnOf "_law_added" "_law_added" (defArgs st__law_added) (defBody st__law_added) (defScope st__law_added) .none kV_5 dc_5 pm_5 an_5 cd_5 ct_5),sl_5⟩) (c_law_added:PySem.W.codeIn K cd_5 "_law_added" =true) (k_law_added:PySem.W.keepIn K (.ref f_5)=true)
    (a_law_lines:PySem.W.nsIn K mainGlobals "_law_lines" =some (some (.ref f_6))) (l_law_lines:K.lookup f_6=some ⟨oc_6,od_6,.func (PySem.W.fnOf "_law_lines" "_law_lines" (defArgs st__law_lines) (defBody st__law_lines) (defScope st__law_lines) .none kV_6 dc_6 pm_6 an_6 cd_6 ct_6),sl_6⟩) (c_law_lines:PySem.W.codeIn K cd_6 "_law_lines" =true) (k_law_lines:PySem.W.keepIn K (.ref f_6)=true)
    (a_Board__size:PySem.W.findIn K (.ref c_Board) "size" =some (some (.ref f_7))) (i_Board__size:PySem.W.isFn K (.ref f_7)=true) (l_Board__size:K.lookup f_7=some ⟨oc_7,od_7,.func (PySem.W.fnOf "size" "Board.size" (defArgs st_Board__size) (defBody st_Board__size) (defScope st_Board__size) .none kV_7 dc_7 pm_7 an_7 cd_7 ct_7),sl_7⟩) (c_Board__size:PySem.W.codeIn K cd_7 "Board.size" =true) (k_Board__size:PySem.W.keepIn K (.ref f_7)=true)
    (a_is_integer_in:PySem.W.nsIn K mainGlobals "is_integer_in" =some (some (.ref f_8))) (l_is_integer_in:K.lookup f_8=some ⟨oc_8,od_8,.func (PySem.W.fnOf "is_integer_in" "is_integer_in" (defArgs st_is_integer_in) (defBody st_is_integer_in) (defScope st_is_integer_in) .none kV_8 dc_8 pm_8 an_8 cd_8 ct_8),sl_8⟩) (c_is_integer_in:PySem.W.codeIn K cd_8 "is_integer_in" =true) (k_is_integer_in:PySem.W.keepIn K (.ref f_8)=true)
    (a_require_size:PySem.W.nsIn K mainGlobals "require_size" =some (some (.ref f_9))) (l_require_size:K.lookup f_9=some ⟨oc_9,od_9,.func (PySem.W.fnOf "require_size" "require_size" (defArgs st_require_size) (defBody st_require_size) (defScope st_require_size) .none kV_9 dc_9 pm_9 an_9 cd_9 ct_9),sl_9⟩) (c_require_size:PySem.W.codeIn K cd_9 "require_size" =true) (k_require_size:PySem.W.keepIn K (.ref f_9)=true)
    (a_mask_of_cells:PySem.W.nsIn K mainGlobals "mask_of_cells" =some (some (.ref f_10))) (l_mask_of_cells:K.lookup f_10=some ⟨oc_10,od_10,.func (PySem.W.fnOf "mask_of" "mask_of" (defArgs st_mask_of_cells) (defBody st_mask_of_cells) (defScope st_mask_of_cells) .none kV_10 dc_10 pm_10 an_10 cd_10 ct_10),sl_10⟩) (c_mask_of_cells:PySem.W.codeIn K cd_10 "mask_of" =true) (k_mask_of_cells:PySem.W.keepIn K (.ref f_10)=true)
    (a_is_cell:PySem.W.nsIn K mainGlobals "is_cell" =some (some (.ref f_11))) (l_is_cell:K.lookup f_11=some ⟨oc_11,od_11,.func (PySem.W.fnOf "is_cell" "is_cell" (defArgs st_is_cell) (defBody st_is_cell) (defScope st_is_cell) .none (.ref kd_is_cell) dc_11 pm_11 an_11 cd_11 ct_11),sl_11⟩) (c_is_cell:PySem.W.codeIn K cd_11 "is_cell" =true) (k_is_cell:PySem.W.keepIn K (.ref f_11)=true)
    (kw_is_cell_0:PySem.W.nsIn K kd_is_cell "size" =some (some (.int 40 kt_is_cell_0)))
    (a_cell_tuple:PySem.W.nsIn K mainGlobals "cell_tuple" =some (some (.ref f_12))) (l_cell_tuple:K.lookup f_12=some ⟨oc_12,od_12,.func (PySem.W.fnOf "cell_tuple" "cell_tuple" (defArgs st_cell_tuple) (defBody st_cell_tuple) (defScope st_cell_tuple) .none (.ref kd_cell_tuple) dc_12 pm_12 an_12 cd_12 ct_12),sl_12⟩) (c_cell_tuple:PySem.W.codeIn K cd_12 "cell_tuple" =true) (k_cell_tuple:PySem.W.keepIn K (.ref f_12)=true)
    (kw_cell_tuple_0:PySem.W.nsIn K kd_cell_tuple "size" =some (some (.int 40 kt_cell_tuple_0)))
    (a_cell_mask:PySem.W.nsIn K mainGlobals "cell_mask" =some (some (.ref f_13))) (l_cell_mask:K.lookup f_13=some ⟨oc_13,od_13,.func (PySem.W.fnOf "cell_mask" "cell_mask" (defArgs st_cell_mask) (defBody st_cell_mask) (defScope st_cell_mask) .none kV_13 dc_13 pm_13 an_13 cd_13 ct_13),sl_13⟩) (c_cell_mask:PySem.W.codeIn K cd_13 "cell_mask" =true) (k_cell_mask:PySem.W.keepIn K (.ref f_13)=true)
    (a_Board____init:PySem.W.findIn K (.ref c_Board) "__init__" =some (some (.ref f_14))) (i_Board____init:PySem.W.isFn K (.ref f_14)=true) (l_Board____init:K.lookup f_14=some ⟨oc_14,od_14,.func (PySem.W.fnOf "__init__" "Board.__init__" (defArgs st_Board____init__) (defBody st_Board____init__) (defScope st_Board____init__) .none (.ref kd_Board____init) dc_14 pm_14 an_14 cd_14 ct_14),sl_14⟩) (c_Board____init:PySem.W.codeIn K cd_14 "Board.__init__" =true) (k_Board____init:PySem.W.keepIn K (.ref f_14)=true)
    (kw_Board____init_0:PySem.W.nsIn K kd_Board____init "up" =some (some (.ref da_Board____init_0)))
    (kt_Board____init_0:K.lookup da_Board____init_0=some ⟨.type "tuple",dd_Board____init_0,.seq #[] dn_Board____init_0,ds_Board____init_0⟩)
    (a_Flip__width:PySem.W.findIn K (.ref c_Flip) "width" =some (some (.ref f_15))) (i_Flip__width:PySem.W.isFn K (.ref f_15)=true) (l_Flip__width:K.lookup f_15=some ⟨oc_15,od_15,.func (PySem.W.fnOf "width" "Flip.width" (defArgs st_Flip__width) (defBody st_Flip__width) (defScope st_Flip__width) .none kV_15 dc_15 pm_15 an_15 cd_15 ct_15),sl_15⟩) (c_Flip__width:PySem.W.codeIn K cd_15 "Flip.width" =true) (k_Flip__width:PySem.W.keepIn K (.ref f_15)=true)
    (a_cells_in_cells:PySem.W.nsIn K mainGlobals "cells_in_cells" =some (some (.ref f_16))) (l_cells_in_cells:K.lookup f_16=some ⟨oc_16,od_16,.func (PySem.W.fnOf "cells_in" "cells_in" (defArgs st_cells_in_cells) (defBody st_cells_in_cells) (defScope st_cells_in_cells) .none kV_16 dc_16 pm_16 an_16 cd_16 ct_16),sl_16⟩) (c_cells_in_cells:PySem.W.codeIn K cd_16 "cells_in" =true) (k_cells_in_cells:PySem.W.keepIn K (.ref f_16)=true)
    (a_Flip__tested:PySem.W.findIn K (.ref c_Flip) "tested" =some (some (.ref f_17))) (i_Flip__tested:PySem.W.isFn K (.ref f_17)=true) (l_Flip__tested:K.lookup f_17=some ⟨oc_17,od_17,.func (PySem.W.fnOf "tested" "Flip.tested" (defArgs st_Flip__tested) (defBody st_Flip__tested) (defScope st_Flip__tested) .none kV_17 dc_17 pm_17 an_17 cd_17 ct_17),sl_17⟩) (c_Flip__tested:PySem.W.codeIn K cd_17 "Flip.tested" =true) (k_Flip__tested:PySem.W.keepIn K (.ref f_17)=true)
    (a_Flip__toggled:PySem.W.findIn K (.ref c_Flip) "toggled" =some (some (.ref f_18))) (i_Flip__toggled:PySem.W.isFn K (.ref f_18)=true) (l_Flip__toggled:K.lookup f_18=some ⟨oc_18,od_18,.func (PySem.W.fnOf "toggled" "Flip.toggled" (defArgs st_Flip__toggled) (defBody st_Flip__toggled) (defScope st_Flip__toggled) .none kV_18 dc_18 pm_18 an_18 cd_18 ct_18),sl_18⟩) (c_Flip__toggled:PySem.W.codeIn K cd_18 "Flip.toggled" =true) (k_Flip__toggled:PySem.W.keepIn K (.ref f_18)=true)
    (a_mask_of_sequences:PySem.W.nsIn K mainGlobals "mask_of_sequences" =some (some (.ref f_19))) (l_mask_of_sequences:K.lookup f_19=some ⟨oc_19,od_19,.func (PySem.W.fnOf "mask_of" "mask_of" (defArgs st_mask_of_sequences) (defBody st_mask_of_sequences) (defScope st_mask_of_sequences) .none kV_19 dc_19 pm_19 an_19 cd_19 ct_19),sl_19⟩) (c_mask_of_sequences:PySem.W.codeIn K cd_19 "mask_of" =true) (k_mask_of_sequences:PySem.W.keepIn K (.ref f_19)=true)
    (a_row_masks:PySem.W.nsIn K mainGlobals "row_masks" =some (some (.ref f_20))) (l_row_masks:K.lookup f_20=some ⟨oc_20,od_20,.func (PySem.W.fnOf "row_masks" "row_masks" (defArgs st_row_masks) (defBody st_row_masks) (defScope st_row_masks) .none kV_20 dc_20 pm_20 an_20 cd_20 ct_20),sl_20⟩) (c_row_masks:PySem.W.codeIn K cd_20 "row_masks" =true) (k_row_masks:PySem.W.keepIn K (.ref f_20)=true)
    (a_Elimination____init:PySem.W.findIn K (.ref c_Elimination) "__init__" =some (some (.ref f_21))) (i_Elimination____init:PySem.W.isFn K (.ref f_21)=true) (l_Elimination____init:K.lookup f_21=some ⟨oc_21,od_21,.func (PySem.W.fnOf "__init__" "Elimination.__init__" (defArgs st_Elimination____init__) (defBody st_Elimination____init__) (defScope st_Elimination____init__) .none kV_21 dc_21 pm_21 an_21 cd_21 ct_21),sl_21⟩) (c_Elimination____init:PySem.W.codeIn K cd_21 "Elimination.__init__" =true) (k_Elimination____init:PySem.W.keepIn K (.ref f_21)=true)
    (a_Elimination__reduced:PySem.W.findIn K (.ref c_Elimination) "reduced" =some (some (.ref f_22))) (i_Elimination__reduced:PySem.W.isFn K (.ref f_22)=true) (l_Elimination__reduced:K.lookup f_22=some ⟨oc_22,od_22,.func (PySem.W.fnOf "reduced" "Elimination.reduced" (defArgs st_Elimination__reduced) (defBody st_Elimination__reduced) (defScope st_Elimination__reduced) .none kV_22 dc_22 pm_22 an_22 cd_22 ct_22),sl_22⟩) (c_Elimination__reduced:PySem.W.codeIn K cd_22 "Elimination.reduced" =true) (k_Elimination__reduced:PySem.W.keepIn K (.ref f_22)=true)
    (a_Elimination__take:PySem.W.findIn K (.ref c_Elimination) "take" =some (some (.ref f_23))) (i_Elimination__take:PySem.W.isFn K (.ref f_23)=true) (l_Elimination__take:K.lookup f_23=some ⟨oc_23,od_23,.func (PySem.W.fnOf "take" "Elimination.take" (defArgs st_Elimination__take) (defBody st_Elimination__take) (defScope st_Elimination__take) .none kV_23 dc_23 pm_23 an_23 cd_23 ct_23),sl_23⟩) (c_Elimination__take:PySem.W.codeIn K cd_23 "Elimination.take" =true) (k_Elimination__take:PySem.W.keepIn K (.ref f_23)=true)
    (a_are_invertible:PySem.W.nsIn K mainGlobals "are_invertible" =some (some (.ref f_24))) (l_are_invertible:K.lookup f_24=some ⟨oc_24,od_24,.func (PySem.W.fnOf "are_invertible" "are_invertible" (defArgs st_are_invertible) (defBody st_are_invertible) (defScope st_are_invertible) .none kV_24 dc_24 pm_24 an_24 cd_24 ct_24),sl_24⟩) (c_are_invertible:PySem.W.codeIn K cd_24 "are_invertible" =true) (k_are_invertible:PySem.W.keepIn K (.ref f_24)=true)
    (a_Table____init:PySem.W.findIn K (.ref c_Table) "__init__" =some (some (.ref f_25))) (i_Table____init:PySem.W.isFn K (.ref f_25)=true) (l_Table____init:K.lookup f_25=some ⟨oc_25,od_25,.func (PySem.W.fnOf "__init__" "Table.__init__" (defArgs st_Table____init__) (defBody st_Table____init__) (defScope st_Table____init__) .none kV_25 dc_25 pm_25 an_25 cd_25 ct_25),sl_25⟩) (c_Table____init:PySem.W.codeIn K cd_25 "Table.__init__" =true) (k_Table____init:PySem.W.keepIn K (.ref f_25)=true)
    (a_cells_in_sequences:PySem.W.nsIn K mainGlobals "cells_in_sequences" =some (some (.ref f_26))) (l_cells_in_sequences:K.lookup f_26=some ⟨oc_26,od_26,.func (PySem.W.fnOf "cells_in" "cells_in" (defArgs st_cells_in_sequences) (defBody st_cells_in_sequences) (defScope st_cells_in_sequences) .none kV_26 dc_26 pm_26 an_26 cd_26 ct_26),sl_26⟩) (c_cells_in_sequences:PySem.W.codeIn K cd_26 "cells_in" =true) (k_cells_in_sequences:PySem.W.keepIn K (.ref f_26)=true)
    (a_table_of:PySem.W.nsIn K mainGlobals "table_of" =some (some (.ref f_27))) (l_table_of:K.lookup f_27=some ⟨oc_27,od_27,.func (PySem.W.fnOf "table_of" "table_of" (defArgs st_table_of) (defBody st_table_of) (defScope st_table_of) .none kV_27 dc_27 pm_27 an_27 cd_27 ct_27),sl_27⟩) (c_table_of:PySem.W.codeIn K cd_27 "table_of" =true) (k_table_of:PySem.W.keepIn K (.ref f_27)=true)
    (a_is_odd:PySem.W.nsIn K mainGlobals "is_odd" =some (some (.ref f_28))) (l_is_odd:K.lookup f_28=some ⟨oc_28,od_28,.func (PySem.W.fnOf "is_odd" "is_odd" (defArgs st_is_odd) (defBody st_is_odd) (defScope st_is_odd) .none kV_28 dc_28 pm_28 an_28 cd_28 ct_28),sl_28⟩) (c_is_odd:PySem.W.codeIn K cd_28 "is_odd" =true) (k_is_odd:PySem.W.keepIn K (.ref f_28)=true)
    (a_Flip____init:PySem.W.findIn K (.ref c_Flip) "__init__" =some (some (.ref f_29))) (i_Flip____init:PySem.W.isFn K (.ref f_29)=true) (l_Flip____init:K.lookup f_29=some ⟨oc_29,od_29,.func (PySem.W.fnOf "__init__" "Flip.__init__" (defArgs st_Flip____init__) (defBody st_Flip____init__) (defScope st_Flip____init__) .none kV_29 dc_29 pm_29 an_29 cd_29 ct_29),sl_29⟩) (c_Flip____init:PySem.W.codeIn K cd_29 "Flip.__init__" =true) (k_Flip____init:PySem.W.keepIn K (.ref f_29)=true)
    (a_law_flip_of:PySem.W.nsIn K mainGlobals "_law_flip_of" =some (some (.ref f_30))) (l_law_flip_of:K.lookup f_30=some ⟨oc_30,od_30,.func (PySem.W.fnOf "_law_flip_of" "_law_flip_of" (defArgs st__law_flip_of) (defBody st__law_flip_of) (defScope st__law_flip_of) .none kV_30 dc_30 pm_30 an_30 cd_30 ct_30),sl_30⟩) (c_law_flip_of:PySem.W.codeIn K cd_30 "_law_flip_of" =true) (k_law_flip_of:PySem.W.keepIn K (.ref f_30)=true)
    (a_identity_table:PySem.W.nsIn K mainGlobals "identity_table" =some (some (.ref f_31))) (l_identity_table:K.lookup f_31=some ⟨oc_31,od_31,.func (PySem.W.fnOf "identity_table" "identity_table" (defArgs st_identity_table) (defBody st_identity_table) (defScope st_identity_table) .none kV_31 dc_31 pm_31 an_31 cd_31 ct_31),sl_31⟩) (c_identity_table:PySem.W.codeIn K cd_31 "identity_table" =true) (k_identity_table:PySem.W.keepIn K (.ref f_31)=true)
    (a_cell_tuple__2:PySem.W.nsIn K mainGlobals "cell_tuple" =some (some (.ref f_32))) (l_cell_tuple__2:K.lookup f_32=some ⟨oc_32,od_32,.func (PySem.W.fnOf "cell_tuple" "cell_tuple" (defArgs st_cell_tuple__2) (defBody st_cell_tuple__2) (defScope st_cell_tuple__2) .none (.ref kd_cell_tuple__2) dc_32 pm_32 an_32 cd_32 ct_32),sl_32⟩) (c_cell_tuple__2:PySem.W.codeIn K cd_32 "cell_tuple" =true) (k_cell_tuple__2:PySem.W.keepIn K (.ref f_32)=true)
    (kw_cell_tuple__2_0:PySem.W.nsIn K kd_cell_tuple__2 "size" =some (some (.int 40 kt_cell_tuple__2_0)))
    (a_row_masks__2:PySem.W.nsIn K mainGlobals "row_masks" =some (some (.ref f_33))) (l_row_masks__2:K.lookup f_33=some ⟨oc_33,od_33,.func (PySem.W.fnOf "row_masks" "row_masks" (defArgs st_row_masks__2) (defBody st_row_masks__2) (defScope st_row_masks__2) .none kV_33 dc_33 pm_33 an_33 cd_33 ct_33),sl_33⟩) (c_row_masks__2:PySem.W.codeIn K cd_33 "row_masks" =true) (k_row_masks__2:PySem.W.keepIn K (.ref f_33)=true)
    (a_Table____init____2:PySem.W.findIn K (.ref c_Table) "__init__" =some (some (.ref f_34))) (i_Table____init____2:PySem.W.isFn K (.ref f_34)=true) (l_Table____init____2:K.lookup f_34=some ⟨oc_34,od_34,.func (PySem.W.fnOf "__init__" "Table.__init__" (defArgs st_Table____init____2) (defBody st_Table____init____2) (defScope st_Table____init____2) .none kV_34 dc_34 pm_34 an_34 cd_34 ct_34),sl_34⟩) (c_Table____init____2:PySem.W.codeIn K cd_34 "Table.__init__" =true) (k_Table____init____2:PySem.W.keepIn K (.ref f_34)=true)
    (a_Table____repr:PySem.W.findIn K (.ref c_Table) "__repr__" =some (some (.ref f_35))) (i_Table____repr:PySem.W.isFn K (.ref f_35)=true) (l_Table____repr:K.lookup f_35=some ⟨oc_35,od_35,.func (PySem.W.fnOf "__repr__" "Table.__repr__" (defArgs st_Table____repr__) (defBody st_Table____repr__) (defScope st_Table____repr__) .none kV_35 dc_35 pm_35 an_35 cd_35 ct_35),sl_35⟩) (c_Table____repr:PySem.W.codeIn K cd_35 "Table.__repr__" =true) (k_Table____repr:PySem.W.keepIn K (.ref f_35)=true)
    (a_Table____len:PySem.W.findIn K (.ref c_Table) "__len__" =some (some (.ref f_36))) (i_Table____len:PySem.W.isFn K (.ref f_36)=true) (l_Table____len:K.lookup f_36=some ⟨oc_36,od_36,.func (PySem.W.fnOf "__len__" "Table.__len__" (defArgs st_Table____len__) (defBody st_Table____len__) (defScope st_Table____len__) .none kV_36 dc_36 pm_36 an_36 cd_36 ct_36),sl_36⟩) (c_Table____len:PySem.W.codeIn K cd_36 "Table.__len__" =true) (k_Table____len:PySem.W.keepIn K (.ref f_36)=true)
    (a_Table__row:PySem.W.findIn K (.ref c_Table) "row" =some (some (.ref f_37))) (i_Table__row:PySem.W.isFn K (.ref f_37)=true) (l_Table__row:K.lookup f_37=some ⟨oc_37,od_37,.func (PySem.W.fnOf "row" "Table.row" (defArgs st_Table__row) (defBody st_Table__row) (defScope st_Table__row) .none kV_37 dc_37 pm_37 an_37 cd_37 ct_37),sl_37⟩) (c_Table__row:PySem.W.codeIn K cd_37 "Table.row" =true) (k_Table__row:PySem.W.keepIn K (.ref f_37)=true)
    (a_Table__size:PySem.W.findIn K (.ref c_Table) "size" =some (some (.ref f_38))) (i_Table__size:PySem.W.isFn K (.ref f_38)=true) (l_Table__size:K.lookup f_38=some ⟨oc_38,od_38,.func (PySem.W.fnOf "size" "Table.size" (defArgs st_Table__size) (defBody st_Table__size) (defScope st_Table__size) .none kV_38 dc_38 pm_38 an_38 cd_38 ct_38),sl_38⟩) (c_Table__size:PySem.W.codeIn K cd_38 "Table.size" =true) (k_Table__size:PySem.W.keepIn K (.ref f_38)=true)
    (a_law_is_grid:PySem.W.nsIn K mainGlobals "_law_is_grid" =some (some (.ref f_39))) (l_law_is_grid:K.lookup f_39=some ⟨oc_39,od_39,.func (PySem.W.fnOf "_law_is_grid" "_law_is_grid" (defArgs st__law_is_grid) (defBody st__law_is_grid) (defScope st__law_is_grid) .none kV_39 dc_39 pm_39 an_39 cd_39 ct_39),sl_39⟩) (c_law_is_grid:PySem.W.codeIn K cd_39 "_law_is_grid" =true) (k_law_is_grid:PySem.W.keepIn K (.ref f_39)=true)
    (a_Table____eq:PySem.W.findIn K (.ref c_Table) "__eq__" =some (some (.ref f_40))) (i_Table____eq:PySem.W.isFn K (.ref f_40)=true) (l_Table____eq:K.lookup f_40=some ⟨oc_40,od_40,.func (PySem.W.fnOf "__eq__" "Table.__eq__" (defArgs st_Table____eq__) (defBody st_Table____eq__) (defScope st_Table____eq__) .none kV_40 dc_40 pm_40 an_40 cd_40 ct_40),sl_40⟩) (c_Table____eq:PySem.W.codeIn K cd_40 "Table.__eq__" =true) (k_Table____eq:PySem.W.keepIn K (.ref f_40)=true)
    (a_Table____eq____2:PySem.W.findIn K (.ref c_Table) "__eq__" =some (some (.ref f_41))) (i_Table____eq____2:PySem.W.isFn K (.ref f_41)=true) (l_Table____eq____2:K.lookup f_41=some ⟨oc_41,od_41,.func (PySem.W.fnOf "__eq__" "Table.__eq__" (defArgs st_Table____eq____2) (defBody st_Table____eq____2) (defScope st_Table____eq____2) .none kV_41 dc_41 pm_41 an_41 cd_41 ct_41),sl_41⟩) (c_Table____eq____2:PySem.W.codeIn K cd_41 "Table.__eq__" =true) (k_Table____eq____2:PySem.W.keepIn K (.ref f_41)=true)
    (a_Board____eq____2:PySem.W.findIn K (.ref c_Board) "__eq__" =some (some (.ref f_42))) (i_Board____eq____2:PySem.W.isFn K (.ref f_42)=true) (l_Board____eq____2:K.lookup f_42=some ⟨oc_42,od_42,.func (PySem.W.fnOf "__eq__" "Board.__eq__" (defArgs st_Board____eq____2) (defBody st_Board____eq____2) (defScope st_Board____eq____2) .none kV_42 dc_42 pm_42 an_42 cd_42 ct_42),sl_42⟩) (c_Board____eq____2:PySem.W.codeIn K cd_42 "Board.__eq__" =true) (k_Board____eq____2:PySem.W.keepIn K (.ref f_42)=true)
    (a_law_right:PySem.W.nsIn K mainGlobals "_law_right" =some (some (.ref f_43))) (l_law_right:K.lookup f_43=some ⟨oc_43,od_43,.func (PySem.W.fnOf "_law_right" "_law_right" (defArgs st__law_right) (defBody st__law_right) (defScope st__law_right) .none kV_43 dc_43 pm_43 an_43 cd_43 ct_43),sl_43⟩) (c_law_right:PySem.W.codeIn K cd_43 "_law_right" =true) (k_law_right:PySem.W.keepIn K (.ref f_43)=true)
    (a_law_pairs:PySem.W.nsIn K mainGlobals "_law_pairs" =some (some (.ref f_44))) (l_law_pairs:K.lookup f_44=some ⟨oc_44,od_44,.func (PySem.W.fnOf "_law_pairs" "_law_pairs" (defArgs st__law_pairs) (defBody st__law_pairs) (defScope st__law_pairs) .none kV_44 dc_44 pm_44 an_44 cd_44 ct_44),sl_44⟩) (c_law_pairs:PySem.W.codeIn K cd_44 "_law_pairs" =true) (k_law_pairs:PySem.W.keepIn K (.ref f_44)=true)
    (a_law:PySem.W.nsIn K mainGlobals "law" =some (some (.ref f_45))) (l_law:K.lookup f_45=some ⟨oc_45,od_45,.func (PySem.W.fnOf "law" "law" (defArgs st_law) (defBody st_law) (defScope st_law) .none kV_45 dc_45 pm_45 an_45 cd_45 ct_45),sl_45⟩) (c_law:PySem.W.codeIn K cd_45 "law" =true) (k_law:PySem.W.keepIn K (.ref f_45)=true)
    (pg_Board:PySem.W.plainGet K c_Board Str.empty=true)
    (hd_Board:PySem.W.hasDictIn K c_Board=true)
    (po_Board:PySem.W.plainOver K c_Board=true)
    (sa_Board:PySem.W.findIn K (.ref c_Board) "__setattr__" =some (some (.builtin "object.__setattr__")))
    (mk_Board:PySem.W.makesIn K c_Board=true)
    (ca_Board:PySem.W.findIn K (.ref c_Board) "__class__" =some (some (.builtin "object.__class__")))
    (ob_Board:PySem.W.mroIn K c_Board (.type "object")=some true)
    (kC_Board:PySem.W.keepIn K (.ref c_Board)=true)
    (no_Board_own_size:PySem.W.findIn K (.ref c_Board) "own_size" =some none)
    (no_Board_up_mask:PySem.W.findIn K (.ref c_Board) "up_mask" =some none)
    (pg_Flip:PySem.W.plainGet K c_Flip Str.empty=true)
    (hd_Flip:PySem.W.hasDictIn K c_Flip=true)
    (po_Flip:PySem.W.plainOver K c_Flip=true)
    (sa_Flip:PySem.W.findIn K (.ref c_Flip) "__setattr__" =some (some (.builtin "object.__setattr__")))
    (mk_Flip:PySem.W.makesIn K c_Flip=true)
    (ca_Flip:PySem.W.findIn K (.ref c_Flip) "__class__" =some (some (.builtin "object.__class__")))
    (ob_Flip:PySem.W.mroIn K c_Flip (.type "object")=some true)
    (kC_Flip:PySem.W.keepIn K (.ref c_Flip)=true)
    (no_Flip_test_mask:PySem.W.findIn K (.ref c_Flip) "test_mask" =some none)
    (no_Flip_toggle_mask:PySem.W.findIn K (.ref c_Flip) "toggle_mask" =some none)
    (pg_Elimination:PySem.W.plainGet K c_Elimination Str.empty=true)
    (hd_Elimination:PySem.W.hasDictIn K c_Elimination=true)
    (po_Elimination:PySem.W.plainOver K c_Elimination=true)
    (sa_Elimination:PySem.W.findIn K (.ref c_Elimination) "__setattr__" =some (some (.builtin "object.__setattr__")))
    (mk_Elimination:PySem.W.makesIn K c_Elimination=true)
    (ca_Elimination:PySem.W.findIn K (.ref c_Elimination) "__class__" =some (some (.builtin "object.__class__")))
    (ob_Elimination:PySem.W.mroIn K c_Elimination (.type "object")=some true)
    (kC_Elimination:PySem.W.keepIn K (.ref c_Elimination)=true)
    (no_Elimination_pivots:PySem.W.findIn K (.ref c_Elimination) "pivots" =some none)
    (pg_Table:PySem.W.plainGet K c_Table Str.empty=true)
    (hd_Table:PySem.W.hasDictIn K c_Table=true)
    (po_Table:PySem.W.plainOver K c_Table=true)
    (sa_Table:PySem.W.findIn K (.ref c_Table) "__setattr__" =some (some (.builtin "object.__setattr__")))
    (mk_Table:PySem.W.makesIn K c_Table=true)
    (ca_Table:PySem.W.findIn K (.ref c_Table) "__class__" =some (some (.builtin "object.__class__")))
    (ob_Table:PySem.W.mroIn K c_Table (.type "object")=some true)
    (kC_Table:PySem.W.keepIn K (.ref c_Table)=true)
    (no_Table_masks:PySem.W.findIn K (.ref c_Table) "masks" =some none)
    (ne_Board:PySem.W.findIn K (.ref c_Board) "__ne__" =some (some (.builtin "object.__ne__")))
    (tC_Board:PySem.W.typeIn K (.ref c_Board)=some (.type "type"))
    (ic_Board:PySem.W.isClsIn K c_Board=true)
    (alNoneType_Board:PySem.W.subIn K (.ref c_Board) (.type "NoneType")=some false)
    (albool_Board:PySem.W.subIn K (.ref c_Board) (.type "bool")=some false)
    (alint_Board:PySem.W.subIn K (.ref c_Board) (.type "int")=some false)
    (alstr_Board:PySem.W.subIn K (.ref c_Board) (.type "str")=some false)
    (allist_Board:PySem.W.subIn K (.ref c_Board) (.type "list")=some false)
    (altuple_Board:PySem.W.subIn K (.ref c_Board) (.type "tuple")=some false)
    (aldict_Board:PySem.W.subIn K (.ref c_Board) (.type "dict")=some false)
    (ne_Table:PySem.W.findIn K (.ref c_Table) "__ne__" =some (some (.builtin "object.__ne__")))
    (tC_Table:PySem.W.typeIn K (.ref c_Table)=some (.type "type"))
    (ic_Table:PySem.W.isClsIn K c_Table=true)
    (alNoneType_Table:PySem.W.subIn K (.ref c_Table) (.type "NoneType")=some false)
    (albool_Table:PySem.W.subIn K (.ref c_Table) (.type "bool")=some false)
    (alint_Table:PySem.W.subIn K (.ref c_Table) (.type "int")=some false)
    (alstr_Table:PySem.W.subIn K (.ref c_Table) (.type "str")=some false)
    (allist_Table:PySem.W.subIn K (.ref c_Table) (.type "list")=some false)
    (altuple_Table:PySem.W.subIn K (.ref c_Table) (.type "tuple")=some false)
    (aldict_Table:PySem.W.subIn K (.ref c_Table) (.type "dict")=some false)
    (apS_Board_Table:PySem.W.subIn K (.ref c_Board) (.ref c_Table)=some false)
    (apM_Table:PySem.W.subIn K (.ref c_Table) (.ref c_Table)=some true)
    (apS_Table_Board:PySem.W.subIn K (.ref c_Table) (.ref c_Board)=some false)
    (apM_Board:PySem.W.subIn K (.ref c_Board) (.ref c_Board)=some true)
    (aC_CellError:PySem.W.nsIn K mainGlobals "CellError" =some (some (.ref c_CellError)))
    (aC_LimitError:PySem.W.nsIn K mainGlobals "LimitError" =some (some (.ref c_LimitError)))
    (aC_NoSize:PySem.W.nsIn K mainGlobals "NoSize" =some (some (.ref c_NoSize)))
    (aC_NoCell:PySem.W.nsIn K mainGlobals "NoCell" =some (some (.ref c_NoCell)))
    (aC_NoCells:PySem.W.nsIn K mainGlobals "NoCells" =some (some (.ref c_NoCells)))
    (aC_NoFlip:PySem.W.nsIn K mainGlobals "NoFlip" =some (some (.ref c_NoFlip)))
    (aC_NoTable:PySem.W.nsIn K mainGlobals "NoTable" =some (some (.ref c_NoTable)))
    (aC_TooWide:PySem.W.nsIn K mainGlobals "TooWide" =some (some (.ref c_TooWide)))
    (ga_CellError:PySem.W.findIn K (.ref c_CellError) "__getattribute__" =some (some (.builtin "BaseException.__getattribute__")))
    (gg_CellError:PySem.W.findIn K (.ref c_CellError) "__getattr__" =some none)
    (eC_CellError:PySem.W.subIn K (.ref c_CellError) (.type "BaseException")=some true)
    (hd_CellError:PySem.W.hasDictIn K c_CellError=true)
    (ic_CellError:PySem.W.isClsIn K c_CellError=true)
    (tC_CellError:PySem.W.typeIn K (.ref c_CellError)=some (.type "type"))
    (ca_CellError:PySem.W.findIn K (.ref c_CellError) "__class__" =some (some (.builtin "object.__class__")))
    (ob_CellError:PySem.W.mroIn K c_CellError (.type "object")=some true)
    (me_CellError:PySem.W.subIn K (.ref c_CellError) (.ref c_CellError)=some true)
    (ga_LimitError:PySem.W.findIn K (.ref c_LimitError) "__getattribute__" =some (some (.builtin "BaseException.__getattribute__")))
    (gg_LimitError:PySem.W.findIn K (.ref c_LimitError) "__getattr__" =some none)
    (eC_LimitError:PySem.W.subIn K (.ref c_LimitError) (.type "BaseException")=some true)
    (hd_LimitError:PySem.W.hasDictIn K c_LimitError=true)
    (ic_LimitError:PySem.W.isClsIn K c_LimitError=true)
    (tC_LimitError:PySem.W.typeIn K (.ref c_LimitError)=some (.type "type"))
    (ca_LimitError:PySem.W.findIn K (.ref c_LimitError) "__class__" =some (some (.builtin "object.__class__")))
    (ob_LimitError:PySem.W.mroIn K c_LimitError (.type "object")=some true)
    (me_LimitError:PySem.W.subIn K (.ref c_LimitError) (.ref c_LimitError)=some true)
    (ga_NoSize:PySem.W.findIn K (.ref c_NoSize) "__getattribute__" =some (some (.builtin "BaseException.__getattribute__")))
    (gg_NoSize:PySem.W.findIn K (.ref c_NoSize) "__getattr__" =some none)
    (eC_NoSize:PySem.W.subIn K (.ref c_NoSize) (.type "BaseException")=some true)
    (hd_NoSize:PySem.W.hasDictIn K c_NoSize=true)
    (ic_NoSize:PySem.W.isClsIn K c_NoSize=true)
    (tC_NoSize:PySem.W.typeIn K (.ref c_NoSize)=some (.type "type"))
    (ca_NoSize:PySem.W.findIn K (.ref c_NoSize) "__class__" =some (some (.builtin "object.__class__")))
    (ob_NoSize:PySem.W.mroIn K c_NoSize (.type "object")=some true)
    (me_NoSize:PySem.W.subIn K (.ref c_NoSize) (.ref c_NoSize)=some true)
    (ga_NoCell:PySem.W.findIn K (.ref c_NoCell) "__getattribute__" =some (some (.builtin "BaseException.__getattribute__")))
    (gg_NoCell:PySem.W.findIn K (.ref c_NoCell) "__getattr__" =some none)
    (eC_NoCell:PySem.W.subIn K (.ref c_NoCell) (.type "BaseException")=some true)
    (hd_NoCell:PySem.W.hasDictIn K c_NoCell=true)
    (ic_NoCell:PySem.W.isClsIn K c_NoCell=true)
    (tC_NoCell:PySem.W.typeIn K (.ref c_NoCell)=some (.type "type"))
    (ca_NoCell:PySem.W.findIn K (.ref c_NoCell) "__class__" =some (some (.builtin "object.__class__")))
    (ob_NoCell:PySem.W.mroIn K c_NoCell (.type "object")=some true)
    (me_NoCell:PySem.W.subIn K (.ref c_NoCell) (.ref c_NoCell)=some true)
    (ga_NoCells:PySem.W.findIn K (.ref c_NoCells) "__getattribute__" =some (some (.builtin "BaseException.__getattribute__")))
    (gg_NoCells:PySem.W.findIn K (.ref c_NoCells) "__getattr__" =some none)
    (eC_NoCells:PySem.W.subIn K (.ref c_NoCells) (.type "BaseException")=some true)
    (hd_NoCells:PySem.W.hasDictIn K c_NoCells=true)
    (ic_NoCells:PySem.W.isClsIn K c_NoCells=true)
    (tC_NoCells:PySem.W.typeIn K (.ref c_NoCells)=some (.type "type"))
    (ca_NoCells:PySem.W.findIn K (.ref c_NoCells) "__class__" =some (some (.builtin "object.__class__")))
    (ob_NoCells:PySem.W.mroIn K c_NoCells (.type "object")=some true)
    (me_NoCells:PySem.W.subIn K (.ref c_NoCells) (.ref c_NoCells)=some true)
    (ga_NoFlip:PySem.W.findIn K (.ref c_NoFlip) "__getattribute__" =some (some (.builtin "BaseException.__getattribute__")))
    (gg_NoFlip:PySem.W.findIn K (.ref c_NoFlip) "__getattr__" =some none)
    (eC_NoFlip:PySem.W.subIn K (.ref c_NoFlip) (.type "BaseException")=some true)
    (hd_NoFlip:PySem.W.hasDictIn K c_NoFlip=true)
    (ic_NoFlip:PySem.W.isClsIn K c_NoFlip=true)
    (tC_NoFlip:PySem.W.typeIn K (.ref c_NoFlip)=some (.type "type"))
    (ca_NoFlip:PySem.W.findIn K (.ref c_NoFlip) "__class__" =some (some (.builtin "object.__class__")))
    (ob_NoFlip:PySem.W.mroIn K c_NoFlip (.type "object")=some true)
    (me_NoFlip:PySem.W.subIn K (.ref c_NoFlip) (.ref c_NoFlip)=some true)
    (ga_NoTable:PySem.W.findIn K (.ref c_NoTable) "__getattribute__" =some (some (.builtin "BaseException.__getattribute__")))
    (gg_NoTable:PySem.W.findIn K (.ref c_NoTable) "__getattr__" =some none)
    (eC_NoTable:PySem.W.subIn K (.ref c_NoTable) (.type "BaseException")=some true)
    (hd_NoTable:PySem.W.hasDictIn K c_NoTable=true)
    (ic_NoTable:PySem.W.isClsIn K c_NoTable=true)
    (tC_NoTable:PySem.W.typeIn K (.ref c_NoTable)=some (.type "type"))
    (ca_NoTable:PySem.W.findIn K (.ref c_NoTable) "__class__" =some (some (.builtin "object.__class__")))
    (ob_NoTable:PySem.W.mroIn K c_NoTable (.type "object")=some true)
    (me_NoTable:PySem.W.subIn K (.ref c_NoTable) (.ref c_NoTable)=some true)
    (ga_TooWide:PySem.W.findIn K (.ref c_TooWide) "__getattribute__" =some (some (.builtin "BaseException.__getattribute__")))
    (gg_TooWide:PySem.W.findIn K (.ref c_TooWide) "__getattr__" =some none)
    (eC_TooWide:PySem.W.subIn K (.ref c_TooWide) (.type "BaseException")=some true)
    (hd_TooWide:PySem.W.hasDictIn K c_TooWide=true)
    (ic_TooWide:PySem.W.isClsIn K c_TooWide=true)
    (tC_TooWide:PySem.W.typeIn K (.ref c_TooWide)=some (.type "type"))
    (ca_TooWide:PySem.W.findIn K (.ref c_TooWide) "__class__" =some (some (.builtin "object.__class__")))
    (ob_TooWide:PySem.W.mroIn K c_TooWide (.type "object")=some true)
    (me_TooWide:PySem.W.subIn K (.ref c_TooWide) (.ref c_TooWide)=some true)
    (rD_CellError:PySem.W.readsIn K c_CellError (.type "type")=true)
    (gD_CellError:PySem.W.specialIn K (.ref c_CellError) "__getattribute__" =some (some (.builtin "type.__getattribute__")))
    (iD_CellError:PySem.W.findCls K (.ref c_CellError) (.type "type") "__init__" =some (.val (.builtin "ValueError.__init__")))
    (rD_LimitError:PySem.W.readsIn K c_LimitError (.type "type")=true)
    (gD_LimitError:PySem.W.specialIn K (.ref c_LimitError) "__getattribute__" =some (some (.builtin "type.__getattribute__")))
    (iD_LimitError:PySem.W.findCls K (.ref c_LimitError) (.type "type") "__init__" =some (.val (.builtin "ArithmeticError.__init__")))
    (xL_NoSize:K.lookup c_NoSize=some (excClassObj nm_NoSize qn_NoSize c_NoSize N_NoSize bs_NoSize (.ref c_CellError:: [.type "ValueError",.type "Exception",.type "BaseException",.type "object"]) true sn_NoSize sb_NoSize ab_NoSize col_NoSize dd_NoSize m0_NoSize m1_NoSize m2_NoSize m3_NoSize m5_NoSize "ValueError.__new__"))
    (sa_NoSize:PySem.W.findIn K (.ref c_NoSize) "__setattr__" =some (some (.builtin "object.__setattr__")))
    (no_NoSize_0:PySem.W.findIn K (.ref c_NoSize) "value" =some none)
    (iI_NoSize:PySem.W.findIn K (.ref c_NoSize) "__init__" =some (some (.ref fI_NoSize)))
    (tI_NoSize:PySem.W.typeIn K (.ref fI_NoSize)=some (.type "function"))
    (lI_NoSize:K.lookup fI_NoSize=some ⟨oc_NoSize,od_NoSize,.func (PySem.W.fnOf "__init__" "NoSize.__init__" (defArgs st_NoSize) (defBody st_NoSize) (defScope st_NoSize) .none kV_NoSize dc_NoSize pm_NoSize an_NoSize cd_NoSize ct_NoSize),sl_NoSize⟩)
    (cI_NoSize:PySem.W.codeIn K cd_NoSize "NoSize.__init__" =true)
    (kC_NoSize:PySem.W.keepIn K (.ref c_NoSize)=true)
    (xL_NoCell:K.lookup c_NoCell=some (excClassObj nm_NoCell qn_NoCell c_NoCell N_NoCell bs_NoCell (.ref c_CellError:: [.type "ValueError",.type "Exception",.type "BaseException",.type "object"]) true sn_NoCell sb_NoCell ab_NoCell col_NoCell dd_NoCell m0_NoCell m1_NoCell m2_NoCell m3_NoCell m5_NoCell "ValueError.__new__"))
    (sa_NoCell:PySem.W.findIn K (.ref c_NoCell) "__setattr__" =some (some (.builtin "object.__setattr__")))
    (no_NoCell_0:PySem.W.findIn K (.ref c_NoCell) "cell" =some none)
    (iI_NoCell:PySem.W.findIn K (.ref c_NoCell) "__init__" =some (some (.ref fI_NoCell)))
    (tI_NoCell:PySem.W.typeIn K (.ref fI_NoCell)=some (.type "function"))
    (lI_NoCell:K.lookup fI_NoCell=some ⟨oc_NoCell,od_NoCell,.func (PySem.W.fnOf "__init__" "NoCell.__init__" (defArgs st_NoCell) (defBody st_NoCell) (defScope st_NoCell) .none kV_NoCell dc_NoCell pm_NoCell an_NoCell cd_NoCell ct_NoCell),sl_NoCell⟩)
    (cI_NoCell:PySem.W.codeIn K cd_NoCell "NoCell.__init__" =true)
    (kC_NoCell:PySem.W.keepIn K (.ref c_NoCell)=true)
    (xL_NoCells:K.lookup c_NoCells=some (excClassObj nm_NoCells qn_NoCells c_NoCells N_NoCells bs_NoCells (.ref c_CellError:: [.type "ValueError",.type "Exception",.type "BaseException",.type "object"]) true sn_NoCells sb_NoCells ab_NoCells col_NoCells dd_NoCells m0_NoCells m1_NoCells m2_NoCells m3_NoCells m5_NoCells "ValueError.__new__"))
    (sa_NoCells:PySem.W.findIn K (.ref c_NoCells) "__setattr__" =some (some (.builtin "object.__setattr__")))
    (no_NoCells_0:PySem.W.findIn K (.ref c_NoCells) "cells" =some none)
    (iI_NoCells:PySem.W.findIn K (.ref c_NoCells) "__init__" =some (some (.ref fI_NoCells)))
    (tI_NoCells:PySem.W.typeIn K (.ref fI_NoCells)=some (.type "function"))
    (lI_NoCells:K.lookup fI_NoCells=some ⟨oc_NoCells,od_NoCells,.func (PySem.W.fnOf "__init__" "NoCells.__init__" (defArgs st_NoCells) (defBody st_NoCells) (defScope st_NoCells) .none kV_NoCells dc_NoCells pm_NoCells an_NoCells cd_NoCells ct_NoCells),sl_NoCells⟩)
    (cI_NoCells:PySem.W.codeIn K cd_NoCells "NoCells.__init__" =true)
    (kC_NoCells:PySem.W.keepIn K (.ref c_NoCells)=true)
    (xL_NoFlip:K.lookup c_NoFlip=some (excClassObj nm_NoFlip qn_NoFlip c_NoFlip N_NoFlip bs_NoFlip (.ref c_CellError:: [.type "ValueError",.type "Exception",.type "BaseException",.type "object"]) true sn_NoFlip sb_NoFlip ab_NoFlip col_NoFlip dd_NoFlip m0_NoFlip m1_NoFlip m2_NoFlip m3_NoFlip m5_NoFlip "ValueError.__new__"))
    (sa_NoFlip:PySem.W.findIn K (.ref c_NoFlip) "__setattr__" =some (some (.builtin "object.__setattr__")))
    (no_NoFlip_0:PySem.W.findIn K (.ref c_NoFlip) "why" =some none)
    (iI_NoFlip:PySem.W.findIn K (.ref c_NoFlip) "__init__" =some (some (.ref fI_NoFlip)))
    (tI_NoFlip:PySem.W.typeIn K (.ref fI_NoFlip)=some (.type "function"))
    (lI_NoFlip:K.lookup fI_NoFlip=some ⟨oc_NoFlip,od_NoFlip,.func (PySem.W.fnOf "__init__" "NoFlip.__init__" (defArgs st_NoFlip) (defBody st_NoFlip) (defScope st_NoFlip) .none kV_NoFlip dc_NoFlip pm_NoFlip an_NoFlip cd_NoFlip ct_NoFlip),sl_NoFlip⟩)
    (cI_NoFlip:PySem.W.codeIn K cd_NoFlip "NoFlip.__init__" =true)
    (kC_NoFlip:PySem.W.keepIn K (.ref c_NoFlip)=true)
    (xL_NoTable:K.lookup c_NoTable=some (excClassObj nm_NoTable qn_NoTable c_NoTable N_NoTable bs_NoTable (.ref c_CellError:: [.type "ValueError",.type "Exception",.type "BaseException",.type "object"]) true sn_NoTable sb_NoTable ab_NoTable col_NoTable dd_NoTable m0_NoTable m1_NoTable m2_NoTable m3_NoTable m5_NoTable "ValueError.__new__"))
    (sa_NoTable:PySem.W.findIn K (.ref c_NoTable) "__setattr__" =some (some (.builtin "object.__setattr__")))
    (no_NoTable_0:PySem.W.findIn K (.ref c_NoTable) "why" =some none)
    (iI_NoTable:PySem.W.findIn K (.ref c_NoTable) "__init__" =some (some (.ref fI_NoTable)))
    (tI_NoTable:PySem.W.typeIn K (.ref fI_NoTable)=some (.type "function"))
    (lI_NoTable:K.lookup fI_NoTable=some ⟨oc_NoTable,od_NoTable,.func (PySem.W.fnOf "__init__" "NoTable.__init__" (defArgs st_NoTable) (defBody st_NoTable) (defScope st_NoTable) .none kV_NoTable dc_NoTable pm_NoTable an_NoTable cd_NoTable ct_NoTable),sl_NoTable⟩)
    (cI_NoTable:PySem.W.codeIn K cd_NoTable "NoTable.__init__" =true)
    (kC_NoTable:PySem.W.keepIn K (.ref c_NoTable)=true)
    (xL_TooWide:K.lookup c_TooWide=some (excClassObj nm_TooWide qn_TooWide c_TooWide N_TooWide bs_TooWide (.ref c_LimitError:: [.type "ArithmeticError",.type "Exception",.type "BaseException",.type "object"]) true sn_TooWide sb_TooWide ab_TooWide col_TooWide dd_TooWide m0_TooWide m1_TooWide m2_TooWide m3_TooWide m5_TooWide "ArithmeticError.__new__"))
    (sa_TooWide:PySem.W.findIn K (.ref c_TooWide) "__setattr__" =some (some (.builtin "object.__setattr__")))
    (no_TooWide_0:PySem.W.findIn K (.ref c_TooWide) "needed" =some none)
    (iI_TooWide:PySem.W.findIn K (.ref c_TooWide) "__init__" =some (some (.ref fI_TooWide)))
    (tI_TooWide:PySem.W.typeIn K (.ref fI_TooWide)=some (.type "function"))
    (lI_TooWide:K.lookup fI_TooWide=some ⟨oc_TooWide,od_TooWide,.func (PySem.W.fnOf "__init__" "TooWide.__init__" (defArgs st_TooWide) (defBody st_TooWide) (defScope st_TooWide) .none kV_TooWide dc_TooWide pm_TooWide an_TooWide cd_TooWide ct_TooWide),sl_TooWide⟩)
    (cI_TooWide:PySem.W.codeIn K cd_TooWide "TooWide.__init__" =true)
    (kC_TooWide:PySem.W.keepIn K (.ref c_TooWide)=true)
    (cq1:PySem.W.specialIn K (.builtin "object.__class__") "__get__" =some (some (.builtin "getset_descriptor.__get__")))
    (cq2:PySem.W.takesIn K (.builtin "object.__class__")=some true)
    (s_NoSize_NoCells:PySem.W.subIn K (.ref c_NoSize) (.ref c_NoCells)=some false)
    (s_NoCell_NoCells:PySem.W.subIn K (.ref c_NoCell) (.ref c_NoCells)=some false)
    (s_NoCells_NoCells:PySem.W.subIn K (.ref c_NoCells) (.ref c_NoCells)=some true)
    (s_NoFlip_NoCells:PySem.W.subIn K (.ref c_NoFlip) (.ref c_NoCells)=some false)
    (s_NoTable_NoCells:PySem.W.subIn K (.ref c_NoTable) (.ref c_NoCells)=some false)
    (s_TooWide_NoCells:PySem.W.subIn K (.ref c_TooWide) (.ref c_NoCells)=some false)
    (z_abs:PySem.W.nsIn K mainGlobals "abs" =some none)
    (z_all:PySem.W.nsIn K mainGlobals "all" =some none)
    (z_any:PySem.W.nsIn K mainGlobals "any" =some none)
    (z_bool:PySem.W.nsIn K mainGlobals "bool" =some none)
    (z_divmod:PySem.W.nsIn K mainGlobals "divmod" =some none)
    (z_enumerate:PySem.W.nsIn K mainGlobals "enumerate" =some none)
    (z_int:PySem.W.nsIn K mainGlobals "int" =some none)
    (z_isinstance:PySem.W.nsIn K mainGlobals "isinstance" =some none)
    (z_len:PySem.W.nsIn K mainGlobals "len" =some none)
    (z_list:PySem.W.nsIn K mainGlobals "list" =some none)
    (z_max:PySem.W.nsIn K mainGlobals "max" =some none)
    (z_min:PySem.W.nsIn K mainGlobals "min" =some none)
    (z_range:PySem.W.nsIn K mainGlobals "range" =some none)
    (z_repr:PySem.W.nsIn K mainGlobals "repr" =some none)
    (z_sorted:PySem.W.nsIn K mainGlobals "sorted" =some none)
    (z_sum:PySem.W.nsIn K mainGlobals "sum" =some none)
    (z_tuple:PySem.W.nsIn K mainGlobals "tuple" =some none)
    (z_zip:PySem.W.nsIn K mainGlobals "zip" =some none)
    (v_MOST_CELLS:PySem.W.nsIn K mainGlobals "MOST_CELLS" =some (some (.int 40 t_MOST_CELLS)))
    : ∃fd:FuncData,(∀(s:Shared) (v:Value),BindsTo s fd ⟨[v],[]⟩ [("_law_script",v)])∧ ∀base:Heap,K.In base→base.Ns mainGlobals mg→FnG l.prog w K mg base 9 fa fd ["_law_script"] (sp_top K):=by
  obtain rfl:f_45=fa:=by
    have e:=hfa.symm.trans (PySem.W.mg_of X G a_law)
    cases e
    rfl
  let T:Tx K mg ⟨c_CellError,c_LimitError,c_NoSize,c_NoCell,c_NoCells,c_NoFlip,c_NoTable,c_TooWide,c_Board,c_Flip,c_Elimination,c_Table,da_Board____init_0⟩:=
    { a__law_pot:=f_0
      fd__law_pot:=_
      F__law_pot:=fun_mk (st:=st__law_pot) l_law_pot c_law_pot k_law_pot
      g__law_pot:=PySem.W.mg_of X G a_law_pot
      a__law_draw:=f_1
      fd__law_draw:=_
      F__law_draw:=fun_mk (st:=st__law_draw) l_law_draw c_law_draw k_law_draw
      g__law_draw:=PySem.W.mg_of X G a_law_draw
      a__law_width:=f_2
      fd__law_width:=_
      F__law_width:=fun_mk (st:=st__law_width) l_law_width c_law_width k_law_width
      g__law_width:=PySem.W.mg_of X G a_law_width
      a__law_spots:=f_3
      fd__law_spots:=_
      F__law_spots:=fun_mk (st:=st__law_spots) l_law_spots c_law_spots k_law_spots
      g__law_spots:=PySem.W.mg_of X G a_law_spots
      a__law_pair:=f_4
      fd__law_pair:=_
      F__law_pair:=fun_mk (st:=st__law_pair) l_law_pair c_law_pair k_law_pair
      g__law_pair:=PySem.W.mg_of X G a_law_pair
      a__law_added:=f_5
      fd__law_added:=_
      F__law_added:=fun_mk (st:=st__law_added) l_law_added c_law_added k_law_added
      g__law_added:=PySem.W.mg_of X G a_law_added
      a__law_lines:=f_6
      fd__law_lines:=_
      F__law_lines:=fun_mk (st:=st__law_lines) l_law_lines c_law_lines k_law_lines
      g__law_lines:=PySem.W.mg_of X G a_law_lines
      a_Board__size:=f_7
      fd_Board__size:=_
      F_Board__size:=fun_mk (st:=st_Board__size) l_Board__size c_Board__size k_Board__size
      m_Board__size:=⟨a_Board__size,i_Board__size,k_Board__size⟩
      a_is_integer_in:=f_8
      fd_is_integer_in:=_
      F_is_integer_in:=fun_mk (st:=st_is_integer_in) l_is_integer_in c_is_integer_in k_is_integer_in
      g_is_integer_in:=PySem.W.mg_of X G a_is_integer_in
      a_require_size:=f_9
      fd_require_size:=_
      F_require_size:=fun_mk (st:=st_require_size) l_require_size c_require_size k_require_size
      g_require_size:=PySem.W.mg_of X G a_require_size
      a_mask_of_cells:=f_10
      fd_mask_of_cells:=_
      F_mask_of_cells:=fun_mk (st:=st_mask_of_cells) l_mask_of_cells c_mask_of_cells k_mask_of_cells
      g_mask_of_cells:=PySem.W.mg_of X G a_mask_of_cells
      a_is_cell:=f_11
      fd_is_cell:=_
      F_is_cell:=fun_mk (st:=st_is_cell) l_is_cell c_is_cell k_is_cell
      g_is_cell:=PySem.W.mg_of X G a_is_cell
      D_is_cell:=funD_of (st:=st_is_cell) l_is_cell c_is_cell k_is_cell (by simpa using ⟨_,kw_is_cell_0,_,rfl⟩)
      a_cell_tuple:=f_12
      fd_cell_tuple:=_
      F_cell_tuple:=fun_mk (st:=st_cell_tuple) l_cell_tuple c_cell_tuple k_cell_tuple
      g_cell_tuple:=PySem.W.mg_of X G a_cell_tuple
      D_cell_tuple:=funD_of (st:=st_cell_tuple) l_cell_tuple c_cell_tuple k_cell_tuple (by simpa using ⟨_,kw_cell_tuple_0,_,rfl⟩)
      a_cell_mask:=f_13
      fd_cell_mask:=_
      F_cell_mask:=fun_mk (st:=st_cell_mask) l_cell_mask c_cell_mask k_cell_mask
      g_cell_mask:=PySem.W.mg_of X G a_cell_mask
      a_Board____init__:=f_14
      fd_Board____init__:=_
      F_Board____init__:=fun_mk (st:=st_Board____init__) l_Board____init c_Board____init k_Board____init
      mk_Board:=⟨mk_Board,a_Board____init,i_Board____init,kC_Board⟩
      dt_Board____init___up:= .inr ⟨_,#[],_,kt_Board____init_0,rfl,rfl,Nat.zero_le _,.nil⟩
      D_Board____init__:=funD_of (st:=st_Board____init__) l_Board____init c_Board____init k_Board____init (by simpa using ⟨_,kw_Board____init_0,rfl⟩)
      a_Flip__width:=f_15
      fd_Flip__width:=_
      F_Flip__width:=fun_mk (st:=st_Flip__width) l_Flip__width c_Flip__width k_Flip__width
      m_Flip__width:=⟨a_Flip__width,i_Flip__width,k_Flip__width⟩
      a_cells_in_cells:=f_16
      fd_cells_in_cells:=_
      F_cells_in_cells:=fun_mk (st:=st_cells_in_cells) l_cells_in_cells c_cells_in_cells k_cells_in_cells
      g_cells_in_cells:=PySem.W.mg_of X G a_cells_in_cells
      a_Flip__tested:=f_17
      fd_Flip__tested:=_
      F_Flip__tested:=fun_mk (st:=st_Flip__tested) l_Flip__tested c_Flip__tested k_Flip__tested
      m_Flip__tested:=⟨a_Flip__tested,i_Flip__tested,k_Flip__tested⟩
      a_Flip__toggled:=f_18
      fd_Flip__toggled:=_
      F_Flip__toggled:=fun_mk (st:=st_Flip__toggled) l_Flip__toggled c_Flip__toggled k_Flip__toggled
      m_Flip__toggled:=⟨a_Flip__toggled,i_Flip__toggled,k_Flip__toggled⟩
      a_mask_of_sequences:=f_19
      fd_mask_of_sequences:=_
      F_mask_of_sequences:=fun_mk (st:=st_mask_of_sequences) l_mask_of_sequences c_mask_of_sequences k_mask_of_sequences
      g_mask_of_sequences:=PySem.W.mg_of X G a_mask_of_sequences
      a_row_masks:=f_20
      fd_row_masks:=_
      F_row_masks:=fun_mk (st:=st_row_masks) l_row_masks c_row_masks k_row_masks
      g_row_masks:=PySem.W.mg_of X G a_row_masks
      a_Elimination____init__:=f_21
      fd_Elimination____init__:=_
      F_Elimination____init__:=fun_mk (st:=st_Elimination____init__) l_Elimination____init c_Elimination____init k_Elimination____init
      mk_Elimination:=⟨mk_Elimination,a_Elimination____init,i_Elimination____init,kC_Elimination⟩
      a_Elimination__reduced:=f_22
      fd_Elimination__reduced:=_
      F_Elimination__reduced:=fun_mk (st:=st_Elimination__reduced) l_Elimination__reduced c_Elimination__reduced k_Elimination__reduced
      m_Elimination__reduced:=⟨a_Elimination__reduced,i_Elimination__reduced,k_Elimination__reduced⟩
      a_Elimination__take:=f_23
      fd_Elimination__take:=_
      F_Elimination__take:=fun_mk (st:=st_Elimination__take) l_Elimination__take c_Elimination__take k_Elimination__take
      m_Elimination__take:=⟨a_Elimination__take,i_Elimination__take,k_Elimination__take⟩
      a_are_invertible:=f_24
      fd_are_invertible:=_
      F_are_invertible:=fun_mk (st:=st_are_invertible) l_are_invertible c_are_invertible k_are_invertible
      g_are_invertible:=PySem.W.mg_of X G a_are_invertible
      a_Table____init__:=f_25
      fd_Table____init__:=_
      F_Table____init__:=fun_mk (st:=st_Table____init__) l_Table____init c_Table____init k_Table____init
      mk_Table:=⟨mk_Table,a_Table____init,i_Table____init,kC_Table⟩
      a_cells_in_sequences:=f_26
      fd_cells_in_sequences:=_
      F_cells_in_sequences:=fun_mk (st:=st_cells_in_sequences) l_cells_in_sequences c_cells_in_sequences k_cells_in_sequences
      g_cells_in_sequences:=PySem.W.mg_of X G a_cells_in_sequences
      a_table_of:=f_27
      fd_table_of:=_
      F_table_of:=fun_mk (st:=st_table_of) l_table_of c_table_of k_table_of
      g_table_of:=PySem.W.mg_of X G a_table_of
      a_is_odd:=f_28
      fd_is_odd:=_
      F_is_odd:=fun_mk (st:=st_is_odd) l_is_odd c_is_odd k_is_odd
      g_is_odd:=PySem.W.mg_of X G a_is_odd
      a_Flip____init__:=f_29
      fd_Flip____init__:=_
      F_Flip____init__:=fun_mk (st:=st_Flip____init__) l_Flip____init c_Flip____init k_Flip____init
      mk_Flip:=⟨mk_Flip,a_Flip____init,i_Flip____init,kC_Flip⟩
      a__law_flip_of:=f_30
      fd__law_flip_of:=_
      F__law_flip_of:=fun_mk (st:=st__law_flip_of) l_law_flip_of c_law_flip_of k_law_flip_of
      g__law_flip_of:=PySem.W.mg_of X G a_law_flip_of
      a_identity_table:=f_31
      fd_identity_table:=_
      F_identity_table:=fun_mk (st:=st_identity_table) l_identity_table c_identity_table k_identity_table
      g_identity_table:=PySem.W.mg_of X G a_identity_table
      a_cell_tuple__2:=f_32
      fd_cell_tuple__2:=_
      F_cell_tuple__2:=fun_mk (st:=st_cell_tuple__2) l_cell_tuple__2 c_cell_tuple__2 k_cell_tuple__2
      g_cell_tuple__2:=PySem.W.mg_of X G a_cell_tuple__2
      D_cell_tuple__2:=funD_of (st:=st_cell_tuple__2) l_cell_tuple__2 c_cell_tuple__2 k_cell_tuple__2 (by simpa using ⟨_,kw_cell_tuple__2_0,_,rfl⟩)
      a_row_masks__2:=f_33
      fd_row_masks__2:=_
      F_row_masks__2:=fun_mk (st:=st_row_masks__2) l_row_masks__2 c_row_masks__2 k_row_masks__2
      g_row_masks__2:=PySem.W.mg_of X G a_row_masks__2
      a_Table____init____2:=f_34
      fd_Table____init____2:=_
      F_Table____init____2:=fun_mk (st:=st_Table____init____2) l_Table____init____2 c_Table____init____2 k_Table____init____2
      mk_Table__2:=⟨mk_Table,a_Table____init____2,i_Table____init____2,kC_Table⟩
      a_Table____repr__:=f_35
      fd_Table____repr__:=_
      F_Table____repr__:=fun_mk (st:=st_Table____repr__) l_Table____repr c_Table____repr k_Table____repr
      m_Table____repr__:=⟨a_Table____repr,i_Table____repr,k_Table____repr⟩
      a_Table____len__:=f_36
      fd_Table____len__:=_
      F_Table____len__:=fun_mk (st:=st_Table____len__) l_Table____len c_Table____len k_Table____len
      m_Table____len__:=⟨a_Table____len,i_Table____len,k_Table____len⟩
      a_Table__row:=f_37
      fd_Table__row:=_
      F_Table__row:=fun_mk (st:=st_Table__row) l_Table__row c_Table__row k_Table__row
      m_Table__row:=⟨a_Table__row,i_Table__row,k_Table__row⟩
      a_Table__size:=f_38
      fd_Table__size:=_
      F_Table__size:=fun_mk (st:=st_Table__size) l_Table__size c_Table__size k_Table__size
      m_Table__size:=⟨a_Table__size,i_Table__size,k_Table__size⟩
      a__law_is_grid:=f_39
      fd__law_is_grid:=_
      F__law_is_grid:=fun_mk (st:=st__law_is_grid) l_law_is_grid c_law_is_grid k_law_is_grid
      g__law_is_grid:=PySem.W.mg_of X G a_law_is_grid
      a_Table____eq__:=f_40
      fd_Table____eq__:=_
      F_Table____eq__:=fun_mk (st:=st_Table____eq__) l_Table____eq c_Table____eq k_Table____eq
      m_Table____eq__:=⟨a_Table____eq,i_Table____eq,k_Table____eq⟩
      a_Table____eq____2:=f_41
      fd_Table____eq____2:=_
      F_Table____eq____2:=fun_mk (st:=st_Table____eq____2) l_Table____eq____2 c_Table____eq____2 k_Table____eq____2
      m_Table____eq____2:=⟨a_Table____eq____2,i_Table____eq____2,k_Table____eq____2⟩
      a_Board____eq____2:=f_42
      fd_Board____eq____2:=_
      F_Board____eq____2:=fun_mk (st:=st_Board____eq____2) l_Board____eq____2 c_Board____eq____2 k_Board____eq____2
      m_Board____eq____2:=⟨a_Board____eq____2,i_Board____eq____2,k_Board____eq____2⟩
      a__law_right:=f_43
      fd__law_right:=_
      F__law_right:=fun_mk (st:=st__law_right) l_law_right c_law_right k_law_right
      g__law_right:=PySem.W.mg_of X G a_law_right
      a__law_pairs:=f_44
      fd__law_pairs:=_
      F__law_pairs:=fun_mk (st:=st__law_pairs) l_law_pairs c_law_pairs k_law_pairs
      g__law_pairs:=PySem.W.mg_of X G a_law_pairs
      a_law:=f_45
      fd_law:=_
      F_law:=fun_mk (st:=st_law) l_law c_law k_law
      g_law:=PySem.W.mg_of X G a_law
      gc_Board:=PySem.W.mg_of X G aC_Board
      cls_Board:=⟨pg_Board,hd_Board,po_Board,sa_Board⟩
      ty_Board:=⟨ca_Board,ob_Board⟩
      no_Board_own_size:=no_Board_own_size
      no_Board_up_mask:=no_Board_up_mask
      gc_Flip:=PySem.W.mg_of X G aC_Flip
      cls_Flip:=⟨pg_Flip,hd_Flip,po_Flip,sa_Flip⟩
      ty_Flip:=⟨ca_Flip,ob_Flip⟩
      no_Flip_test_mask:=no_Flip_test_mask
      no_Flip_toggle_mask:=no_Flip_toggle_mask
      gc_Elimination:=PySem.W.mg_of X G aC_Elimination
      cls_Elimination:=⟨pg_Elimination,hd_Elimination,po_Elimination,sa_Elimination⟩
      ty_Elimination:=⟨ca_Elimination,ob_Elimination⟩
      no_Elimination_pivots:=no_Elimination_pivots
      gc_Table:=PySem.W.mg_of X G aC_Table
      cls_Table:=⟨pg_Table,hd_Table,po_Table,sa_Table⟩
      ty_Table:=⟨ca_Table,ob_Table⟩
      no_Table_masks:=no_Table_masks
      eq_Board__2:=⟨a_Board____eq____2,i_Board____eq____2,ne_Board⟩
      al_Board:=⟨alT_of alNoneType_Board albool_Board alint_Board alstr_Board allist_Board altuple_Board aldict_Board,tC_Board,ic_Board⟩
      eq_Table:=⟨a_Table____eq,i_Table____eq,ne_Table⟩
      eq_Table__2:=⟨a_Table____eq____2,i_Table____eq____2,ne_Table⟩
      al_Table:=⟨alT_of alNoneType_Table albool_Table alint_Table alstr_Table allist_Table altuple_Table aldict_Table,tC_Table,ic_Table⟩
      ap_Board_Table:=⟨apS_Board_Table,apM_Table,⟨pg_Board,hd_Board,po_Board,sa_Board⟩,⟨ca_Board,ob_Board⟩,⟨cq1,cq2⟩⟩
      ap_Table_Board:=⟨apS_Table_Board,apM_Board,⟨pg_Table,hd_Table,po_Table,sa_Table⟩,⟨ca_Table,ob_Table⟩,⟨cq1,cq2⟩⟩
      q_CellError:=⟨ga_CellError,gg_CellError,eC_CellError,hd_CellError,ic_CellError,tC_CellError,ca_CellError,ob_CellError,me_CellError⟩
      q_LimitError:=⟨ga_LimitError,gg_LimitError,eC_LimitError,hd_LimitError,ic_LimitError,tC_LimitError,ca_LimitError,ob_LimitError,me_LimitError⟩
      q_NoSize:=⟨ga_NoSize,gg_NoSize,eC_NoSize,hd_NoSize,ic_NoSize,tC_NoSize,ca_NoSize,ob_NoSize,me_NoSize⟩
      q_NoCell:=⟨ga_NoCell,gg_NoCell,eC_NoCell,hd_NoCell,ic_NoCell,tC_NoCell,ca_NoCell,ob_NoCell,me_NoCell⟩
      q_NoCells:=⟨ga_NoCells,gg_NoCells,eC_NoCells,hd_NoCells,ic_NoCells,tC_NoCells,ca_NoCells,ob_NoCells,me_NoCells⟩
      q_NoFlip:=⟨ga_NoFlip,gg_NoFlip,eC_NoFlip,hd_NoFlip,ic_NoFlip,tC_NoFlip,ca_NoFlip,ob_NoFlip,me_NoFlip⟩
      q_NoTable:=⟨ga_NoTable,gg_NoTable,eC_NoTable,hd_NoTable,ic_NoTable,tC_NoTable,ca_NoTable,ob_NoTable,me_NoTable⟩
      q_TooWide:=⟨ga_TooWide,gg_TooWide,eC_TooWide,hd_TooWide,ic_TooWide,tC_TooWide,ca_TooWide,ob_TooWide,me_TooWide⟩
      g_CellError:=PySem.W.mg_of X G aC_CellError
      g_LimitError:=PySem.W.mg_of X G aC_LimitError
      f_NoSize:=fI_NoSize
      e_NoSize:= { bb:=eb_value,gC:=PySem.W.mg_of X G aC_NoSize,gD:=PySem.W.mg_of X G aC_CellError,cls:=⟨_,_,_,_,_,_,_,_,_,_,_,_,_,_,xL_NoSize⟩,sa:=sa_NoSize,noF:=by intro y hy;rcases (by simpa using hy:y= "value") with rfl <;> first | exact no_NoSize_0,iC:=iI_NoSize,tI:=tI_NoSize,kC:=kC_NoSize,eC:=eC_NoSize,tC:=tC_NoSize,rD:=rD_CellError,gaD:=gD_CellError,iD:=iD_CellError,fn:=⟨"NoSize.__init__",_,_,_,_,_,_,_,_,_,lI_NoSize,cI_NoSize,d_NoSize⟩ }
      f_NoCell:=fI_NoCell
      e_NoCell:= { bb:=eb_value,gC:=PySem.W.mg_of X G aC_NoCell,gD:=PySem.W.mg_of X G aC_CellError,cls:=⟨_,_,_,_,_,_,_,_,_,_,_,_,_,_,xL_NoCell⟩,sa:=sa_NoCell,noF:=by intro y hy;rcases (by simpa using hy:y= "cell") with rfl <;> first | exact no_NoCell_0,iC:=iI_NoCell,tI:=tI_NoCell,kC:=kC_NoCell,eC:=eC_NoCell,tC:=tC_NoCell,rD:=rD_CellError,gaD:=gD_CellError,iD:=iD_CellError,fn:=⟨"NoCell.__init__",_,_,_,_,_,_,_,_,_,lI_NoCell,cI_NoCell,d_NoCell⟩ }
      f_NoCells:=fI_NoCells
      e_NoCells:= { bb:=eb_value,gC:=PySem.W.mg_of X G aC_NoCells,gD:=PySem.W.mg_of X G aC_CellError,cls:=⟨_,_,_,_,_,_,_,_,_,_,_,_,_,_,xL_NoCells⟩,sa:=sa_NoCells,noF:=by intro y hy;rcases (by simpa using hy:y= "cells") with rfl <;> first | exact no_NoCells_0,iC:=iI_NoCells,tI:=tI_NoCells,kC:=kC_NoCells,eC:=eC_NoCells,tC:=tC_NoCells,rD:=rD_CellError,gaD:=gD_CellError,iD:=iD_CellError,fn:=⟨"NoCells.__init__",_,_,_,_,_,_,_,_,_,lI_NoCells,cI_NoCells,d_NoCells⟩ }
      f_NoFlip:=fI_NoFlip
      e_NoFlip:= { bb:=eb_value,gC:=PySem.W.mg_of X G aC_NoFlip,gD:=PySem.W.mg_of X G aC_CellError,cls:=⟨_,_,_,_,_,_,_,_,_,_,_,_,_,_,xL_NoFlip⟩,sa:=sa_NoFlip,noF:=by intro y hy;rcases (by simpa using hy:y= "why") with rfl <;> first | exact no_NoFlip_0,iC:=iI_NoFlip,tI:=tI_NoFlip,kC:=kC_NoFlip,eC:=eC_NoFlip,tC:=tC_NoFlip,rD:=rD_CellError,gaD:=gD_CellError,iD:=iD_CellError,fn:=⟨"NoFlip.__init__",_,_,_,_,_,_,_,_,_,lI_NoFlip,cI_NoFlip,d_NoFlip⟩ }
      f_NoTable:=fI_NoTable
      e_NoTable:= { bb:=eb_value,gC:=PySem.W.mg_of X G aC_NoTable,gD:=PySem.W.mg_of X G aC_CellError,cls:=⟨_,_,_,_,_,_,_,_,_,_,_,_,_,_,xL_NoTable⟩,sa:=sa_NoTable,noF:=by intro y hy;rcases (by simpa using hy:y= "why") with rfl <;> first | exact no_NoTable_0,iC:=iI_NoTable,tI:=tI_NoTable,kC:=kC_NoTable,eC:=eC_NoTable,tC:=tC_NoTable,rD:=rD_CellError,gaD:=gD_CellError,iD:=iD_CellError,fn:=⟨"NoTable.__init__",_,_,_,_,_,_,_,_,_,lI_NoTable,cI_NoTable,d_NoTable⟩ }
      f_TooWide:=fI_TooWide
      e_TooWide:= { bb:=eb_arith,gC:=PySem.W.mg_of X G aC_TooWide,gD:=PySem.W.mg_of X G aC_LimitError,cls:=⟨_,_,_,_,_,_,_,_,_,_,_,_,_,_,xL_TooWide⟩,sa:=sa_TooWide,noF:=by intro y hy;rcases (by simpa using hy:y= "needed") with rfl <;> first | exact no_TooWide_0,iC:=iI_TooWide,tI:=tI_TooWide,kC:=kC_TooWide,eC:=eC_TooWide,tC:=tC_TooWide,rD:=rD_LimitError,gaD:=gD_LimitError,iD:=iD_LimitError,fn:=⟨"TooWide.__init__",_,_,_,_,_,_,_,_,_,lI_TooWide,cI_TooWide,d_TooWide⟩ }
      cq:=⟨cq1,cq2⟩
      s_NoSize_NoCells:=s_NoSize_NoCells
      s_NoCell_NoCells:=s_NoCell_NoCells
      s_NoCells_NoCells:=s_NoCells_NoCells
      s_NoFlip_NoCells:=s_NoFlip_NoCells
      s_NoTable_NoCells:=s_NoTable_NoCells
      s_TooWide_NoCells:=s_TooWide_NoCells
      z_abs:=PySem.W.mg_none_of X G z_abs
      z_all:=PySem.W.mg_none_of X G z_all
      z_any:=PySem.W.mg_none_of X G z_any
      z_bool:=PySem.W.mg_none_of X G z_bool
      z_divmod:=PySem.W.mg_none_of X G z_divmod
      z_enumerate:=PySem.W.mg_none_of X G z_enumerate
      z_int:=PySem.W.mg_none_of X G z_int
      z_isinstance:=PySem.W.mg_none_of X G z_isinstance
      z_len:=PySem.W.mg_none_of X G z_len
      z_list:=PySem.W.mg_none_of X G z_list
      z_max:=PySem.W.mg_none_of X G z_max
      z_min:=PySem.W.mg_none_of X G z_min
      z_range:=PySem.W.mg_none_of X G z_range
      z_repr:=PySem.W.mg_none_of X G z_repr
      z_sorted:=PySem.W.mg_none_of X G z_sorted
      z_sum:=PySem.W.mg_none_of X G z_sum
      z_tuple:=PySem.W.mg_none_of X G z_tuple
      z_zip:=PySem.W.mg_none_of X G z_zip
      t_MOST_CELLS:=t_MOST_CELLS
      c_MOST_CELLS:=PySem.W.mg_of X G v_MOST_CELLS }
  exact⟨T.fd_law,fun s v=> .of_eq rfl,fun base _ _=>(ok_law T).imp fun vs H Q E q=>law_in q (fun ns hn=>law_holds ns hn)⟩
end PX
open PySem PySem.W PyProof.Rows
set_option maxRecDepth 100000 in
set_option maxHeartbeats 0 in
theorem PySem.Challenge.cw_paritycells_k29_table_values_holds : PySem.Challenge.rw_paritycells_k29_table_values.Holds := by
  refine PX.hd_law fun said => ?_
  refine PySem.W.holds_open (q := PX.vwO PX.pO) (loose := PX.loO) (Xt := PX.xtO PX.rrO PX.pO) (XP := XL (PX.vwO PX.pO) PX.lvO) (Yf := Hook.obs (kHook PX.KK PX.KA PX.kA)) (Ya := Hook.val (kHook PX.KK PX.KA PX.kA)) (YP := Hook.says (kHook PX.KK PX.KA PX.kA)) PX.hd_left (Hook.of (kHook PX.KK PX.KA PX.kA)) (Hook.keeps (kHook PX.KK PX.KA PX.kA)) (fun s e => xl_of s (Bool.and_eq_true_iff.mp e).1) XL.keeps (by rfl) (by rfl) (by rfl) (fun s e => recFacts_of (Bool.and_eq_true_iff.mp e).2) (by rfl) said (by decide +kernel) ⟨rfl, rfl, rfl, rfl, rfl, by decide +kernel⟩ ?hw ?hc
  (case hw => w_witness2)
  k_fill
  refine PC.walkG (l := PySem.Challenge.rw_paritycells_k29_table_values) (n := 63) (k := 9) (x := "_law_script") (sp := fun w => TL.sp_top _) rfl (by decide) rfl ⟨rfl, by decide, by decide⟩ (fun w h Y => PySem.W.kIn_of Y) ?K1 (by first | rfl | decide +kernel) ?F (fun _ _ a ns hl hb h1 hS => ⟨a, ns, rfl, h1, hS, hl, fun _ => rfl⟩)
  case K1 => intro w; first | rfl | k_is | decide +kernel
  case F =>
    intro w mg fa h KX G hmg
    refine' PX.all_mk KX G hmg ?_ ?_ ?_ ?_ ?_ ?_ ?_ ?_ ?_ ?_ ?_ ?_ ?_ ?_ ?_ ?_ ?_ ?_ ?_ ?_ ?_ ?_ ?_ ?_ ?_ ?_ ?_ ?_ ?_ ?_ ?_ ?_ ?_ ?_ ?_ ?_ ?_ ?_ ?_ ?_ ?_ ?_ ?_ ?_ ?_ ?_ ?_ ?_ ?_ ?_ ?_ ?_ ?_ ?_ ?_ ?_ ?_ ?_ ?_ ?_ ?_ ?_ ?_ ?_ ?_ ?_ ?_ ?_ ?_ ?_ ?_ ?_ ?_ ?_ ?_ ?_ ?_ ?_ ?_ ?_ ?_ ?_ ?_ ?_ ?_ ?_ ?_ ?_ ?_ ?_ ?_ ?_ ?_ ?_ ?_ ?_ ?_ ?_ ?_ ?_ ?_ ?_ ?_ ?_ ?_ ?_ ?_ ?_ ?_ ?_ ?_ ?_ ?_ ?_ ?_ ?_ ?_ ?_ ?_ ?_ ?_ ?_ ?_ ?_ ?_ ?_ ?_ ?_ ?_ ?_ ?_ ?_ ?_ ?_ ?_ ?_ ?_ ?_ ?_ ?_ ?_ ?_ ?_ ?_ ?_ ?_ ?_ ?_ ?_ ?_ ?_ ?_ ?_ ?_ ?_ ?_ ?_ ?_ ?_ ?_ ?_ ?_ ?_ ?_ ?_ ?_ ?_ ?_ ?_ ?_ ?_ ?_ ?_ ?_ ?_ ?_ ?_ ?_ ?_ ?_ ?_ ?_ ?_ ?_ ?_ ?_ ?_ ?_ ?_ ?_ ?_ ?_ ?_ ?_ ?_ ?_ ?_ ?_ ?_ ?_ ?_ ?_ ?_ ?_ ?_ ?_ ?_ ?_ ?_ ?_ ?_ ?_ ?_ ?_ ?_ ?_ ?_ ?_ ?_ ?_ ?_ ?_ ?_ ?_ ?_ ?_ ?_ ?_ ?_ ?_ ?_ ?_ ?_ ?_ ?_ ?_ ?_ ?_ ?_ ?_ ?_ ?_ ?_ ?_ ?_ ?_ ?_ ?_ ?_ ?_ ?_ ?_ ?_ ?_ ?_ ?_ ?_ ?_ ?_ ?_ ?_ ?_ ?_ ?_ ?_ ?_ ?_ ?_ ?_ ?_ ?_ ?_ ?_ ?_ ?_ ?_ ?_ ?_ ?_ ?_ ?_ ?_ ?_ ?_ ?_ ?_ ?_ ?_ ?_ ?_ ?_ ?_ ?_ ?_ ?_ ?_ ?_ ?_ ?_ ?_ ?_ ?_ ?_ ?_ ?_ ?_ ?_ ?_ ?_ ?_ ?_ ?_ ?_ ?_ ?_ ?_ ?_ ?_ ?_ ?_ ?_ ?_ ?_ ?_ ?_ ?_ ?_ ?_ ?_ ?_ ?_ ?_ ?_ ?_ ?_ ?_ ?_ ?_ ?_ ?_ ?_ ?_ ?_ ?_ ?_ ?_ ?_ ?_ ?_ ?_ ?_ ?_ ?_ ?_ ?_ ?_ ?_ ?_ ?_ ?_ ?_ ?_ ?_ ?_ ?_ ?_ ?_ ?_ ?_ ?_ ?_ ?_ ?_ ?_ ?_ ?_ ?_ ?_ ?_ ?_ ?_ ?_ ?_ ?_ ?_ ?_ ?_ ?_ ?_ ?_ ?_ ?_ ?_ ?_ ?_ ?_ ?_ ?_ ?_ ?_ ?_ ?_ ?_ ?_ ?_ ?_ ?_ ?_ ?_ ?_ ?_ ?_ ?_ ?_ ?_ ?_ ?_ ?_ ?_ ?_ ?_ ?_ ?_ ?_ ?_ ?_ ?_ ?_ ?_ ?_ ?_ ?_ ?_ ?_
    all_goals try k_is
