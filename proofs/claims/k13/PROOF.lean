import PyProof.Rows.All
import Wide.All
import OpenK.AllK
import Wide.FinOn
import HandS.ForMost
import HandS.ForExc
import HandS.IsInst
import HandS.EndBits
import HandS.Wide
import HandS.Walk
import KE.KIsAll
import KE.KTryMore
import KE.KExcIs
import KE.KExcInit
import HandS.Exc
import HandS.ExcField
import HandS.ExcOwn
import HandS.CallSlots
import HandS.Defaults
import HandS.MakeKwOnly
import HandS.SortInts
import HandS.Zip
import HandS.Conv
import HandS.More
import KE.KCallOwn
import KE.KFmtOwn
import HandS.WideBits
import KE.IntBitsLaws
import KE.BitLaws
import HandS.FStr
import HandS.TryMany
import PyProof.InstNe
import PyProof.Rows.InDataRows
import HandS.EndTab
import HandS.Style
import HandS.OwnEq
import HandS.WordsDict
import PyProof.NeKinds
import KE.KDictZip
import HandS.NoneIn
import HandS.Comp
import PyProof.EqKinds
import PyProof.FactsAll.dict_1
import KE.KNest
import KE.DataCmp
import KE.SortData
import KE.SortLaws
import HandS.TupLen
import KE.GoesMore
import KE.KIntText
import HandS.RaiseFrom
import HandS.HotCalls
import HandS.ExcInitHot
import HandS.SetFor
import PySem.Challenge.RW_paritycells_k13_boards_refused
set_option Elab.async false
set_option linter.all false
set_option maxRecDepth 100000
set_option maxHeartbeats 2000000
namespace PC
open PySem PySem.Spec PyProof.Rows L2

def GOkA (K:PySem.W.Frag) (A:Around) (base:Heap):Prop:=
  ∃gs,A.guards=some gs∧ ∀id v rest kw,Code.builtin id ⟨v::rest,kw⟩∈gs→ ∃g o,v= .ref g∧base.get? g=some o∧K.lookup g=none
abbrev GOk (X:Cx):Prop:=GOkA X.K X.A X.base
theorem GOkA.nil {K:PySem.W.Frag} {A:Around} {base:Heap} (h:A.guards=some []):GOkA K A base:=⟨[],h,fun _ _ _ _ m=>nomatch m⟩
structure FnG (P:Program) (w:World) (K:PySem.W.Frag) (mg:Str→Option Value) (base:Heap)
    (k:Nat) (f:Addr) (fd:FuncData) (ps:List Str) (sp:Sp):Prop where
  len: ∀vs H Q E,sp vs H Q E→vs.length=ps.length
  run: ∀(A:Around) (outer:List Env) (s:Shared) (H:Hp) (args:Args)
      (us:List Value) (vs:List V) (Q:VK) (E:XK),
    GOkA K A base→Room k A→Env0 P w K mg base A outer s H→
    BindsTo s fd args (ps.zip us)→Vals vs us→sp vs H Q E→
    codeAny (model P w) A (.call (.ref f) args) (CR (L2.CX P w) outer P w H s Q E) s

section
variable {P : Program} {w : World} {K : PySem.W.Frag} {mg : Str → Option Value} {base : Heap}

theorem FnG.mono {j k:Nat} {f:Addr} {fd:FuncData} {ps:List Str} {sp:Sp}
    (F:FnG P w K mg base j f fd ps sp) (h:j≤k):FnG P w K mg base k f fd ps sp:=
  ⟨F.len,fun A o s H a us vs Q E g r=>F.run A o s H a us vs Q E g (r.mono h)⟩
theorem FnG.imp {k:Nat} {f:Addr} {fd:FuncData} {ps:List Str} {sp sp':Sp}
    (F:FnG P w K mg base k f fd ps sp) (h: ∀vs H Q E,sp' vs H Q E→sp vs H Q E):FnG P w K mg base k f fd ps sp':=
  ⟨fun vs H Q E q=>F.len vs H Q E (h _ _ _ _ q),
    fun A o s H a us vs Q E g r e0 b rv q=>F.run A o s H a us vs Q E g r e0 b rv (h _ _ _ _ q)⟩

abbrev cxg (P:Program) (w:World) (K:PySem.W.Frag) (mg:Str→Option Value) (base:Heap) (N:List Str) (qual:Str)
    (st:Stmt) (f:Addr) (cdv:Value) (A:Around) (outer:List Env) (s:Shared) (H:Hp) (E:XK):Cx:=
  cxOf (L2.CX P w) P w K mg base N qual (defScope st) f cdv A outer s H E

theorem FnG.okX {x qual:Str} {st:Stmt} {f:Addr} {fd:FuncData} {N ps:List Str} {k:Nat} {sp:Sp}
    (F:Fun K x qual st f fd) (S:FnScope N ps (defScope st))
    (len: ∀vs H Q E,sp vs H Q E→vs.length=ps.length)
    (body: ∀(cdv:Value) (A:Around) (outer:List Env) (s:Shared) (H:Hp) (vs:List V) (Q:VK) (E:XK),
      GOkA K A base→Room k (A.deeper (envOfC qual (defScope st) s.heap.objs.size f cdv))→sp vs H Q E→
      ∃t,PSs (cxg P w K mg base N qual st f cdv A outer s H E) (defBody st) t∧
        t { nx:=fun _ H'=>Q .non H',rt:=Q } (start N vs) H):
    FnG P w K mg base (k+1) f fd ps sp:=by
  obtain⟨oc,od,kV,doc,pm,an,cdv,ct,osl,rfl,lk,hcd⟩:=F.ex
  refine⟨len,fun A outer s H args us vs Q E hg hr e0 hb rv hsp=> ?_⟩
  have bk: ∀b o,base.get? b=some o→s.heap.get? b=some o:=fun b o e=>(e0.bs b o e).1
  have cells: ∀y∈ps.zip us,(defScope st).names.lookup y.1=some .local∨
      ((defScope st).names.lookup y.1=some .cell∧
        ((cellsFrom (s.heap.objs.size+1) (defScope st).names []).lookup y.1).isSome=true):=by
    rintro ⟨n,v⟩ hy
    rcases S.par n (List.of_mem_zip hy).1 with z | z
    · exact .inl z
    · exact .inr ⟨z,PySem.W.cellsFrom_some _ _ _ (.inl z)⟩
  refine codeAny_call_function hr.depth ((e0.mod.kin.keeps bk) _ _ lk) rfl S.co S.gen rfl
    (PySem.W.codeRec_of (e0.mod.kin.keeps bk) hcd) (hb _ _ _ _ ?_)
  refine wpAny_newFunctionEnv_cells S.kind cells fun env he s1 x=> ?_
  subst he
  refine⟨(e0.mod.nolimit.keeps bk).keeps x.toInCall.keep,codeAny_func ?_⟩
  obtain⟨t,ht,hq⟩:=body cdv A outer s H vs Q E hg (hr.deeper _) hsp
  refine wpAny_mono (ht.run [] s1 (start N vs) H _
    (inv_start S hr.hd e0 (len _ _ _ _ hsp) rv x) hq) (fun fl s' hs=> ?_) fun e s' hs=>hs
  cases fl with
  | ret u=>
    obtain⟨v,_,H',J,r,q⟩:=hs
    exact⟨v,H',J.os,J.bare,J.base,J.hok,r,q⟩
  | next=>
    obtain⟨_,H',J,q⟩:=hs
    exact⟨V.non,H',J.os,J.bare,J.base,J.hok,rfl,q⟩
  | brk=>obtain⟨_,_,_,q⟩:=hs;exact q.elim
  | cont=>obtain⟨_,_,_,q⟩:=hs;exact q.elim

theorem FnG.ok {x qual:Str} {st:Stmt} {f:Addr} {fd:FuncData} {N ps:List Str} {k:Nat} {sp:Sp}
    (F:Fun K x qual st f fd) (S:FnScope N ps (defScope st))
    (len: ∀vs H Q E,sp vs H Q E→vs.length=ps.length)
    (body: ∀(cdv:Value) (A:Around) (outer:List Env) (s:Shared) (H:Hp) (vs:List V) (Q:VK) (E:XK),
      GOkA K A base→Room k (A.deeper (envOfC qual (defScope st) s.heap.objs.size f cdv))→sp vs H Q E→
      ∃t,PSs (cxg P w K mg base N qual st f cdv A outer s H E).nox (defBody st) t∧
        t { nx:=fun _ H'=>Q .non H',rt:=Q } (start N vs) H):
    FnG P w K mg base (k+1) f fd ps sp:=
  FnG.okX F S len fun cdv A outer s H vs Q E g r h=>
    let ⟨t,ht,q⟩:=body cdv A outer s H vs Q E g r h
    ⟨t,ht.nox,q⟩
end

theorem passN {X:Cx}:Passes (L2.CX X.prog X.w) X E0:=by
  rintro pins σ H s e s' I ⟨a,B,H',cls,d,h1,h2,h3,h4,h5,h6,h7,h8⟩
  exact h8.elim

section
variable {X : Cx} {k : Nat} {f : Addr} {fd : FuncData} {ps ks : List Str} {sp : Sp} {dvs : List V} {ds : List Value} {E : XK}
theorem FnG.at (F:FnG X.prog X.w X.K X.mg X.base k f fd ps sp) (hg:GOk X) (hr:Room k X.A)
    (hb:Binds X.K fd ps ds) (hd:Vals dvs ds) (hx:Passes (L2.CX X.prog X.w) X E):
    CallR X (.ref f) (fun vs H Q=>sp (vs++dvs) H Q E):=by
  intro pins s σ H vs us Q I rv h
  have r2:Vals (vs++dvs) (us++ds):=rv.append hd
  have hl:(us++ds).length=ps.length:=by rw[← r2.length];exact F.len _ _ _ _ h
  refine wpAny_call (codeAny_mono (F.run X.A X.stack s H ⟨us,[]⟩ (us++ds) (vs++dvs) Q E hg hr I.env0
    (hb s us I.kIn hl) r2 h) fun r s' hq=> ?_)
  match r,hq with
  | .error e,hq=>exact hx pins σ H s e s' I hq
  | .ok (.ret u),hq=>exact I.after hq
  | .ok .next,hq=>exact hq.elim
  | .ok .brk,hq=>exact hq.elim
  | .ok .cont,hq=>exact hq.elim

def CallKR (X:Cx) (f:Value) (ks:List Str) (r:List V→List V→Hp→VK→Prop):Prop:=
  ∀(pins:List (Addr×Obj)) (s:Shared) (σ:L2.St) (H:Hp) (xs zs:List V) (us ws:List Value) (Q:VK),
    Inv X pins σ H s→Vals xs us→Vals zs ws→r xs zs H Q→
    wpAny (model X.prog X.w) X.A (call f us (ks.zip ws)) (EP X pins σ Q) X.xe s
variable {x : Str} {p pos : Pos} {e : Expr} {es : List Expr} {kws : List Keyword} {t tk : TA}
    {r : List V → Hp → VK → Prop} {rk : List V → List V → Hp → VK → Prop}
def tCK (r:List V→List V→Hp→VK→Prop) (t tk:TA):TE:=
  fun σ H Q=>t σ H fun vs H1=>tk σ H1 fun zs H2=>r vs zs H2 Q
end

structure ShowsG (prog:Program) (w:World) (h₀:Heap) (a:Addr) (d:PyData) (T idr:String):Prop where
  slot:SlotG T "__repr__" idr
  ty: ∀s:Shared,(∀b o,h₀.get? b=some o→s.heap.get? b=some o)→s.TypeIs (.ref a) T
  run: ∀(A:Around) (gs:List Code) (E:Value→Shared→Prop) (s:Shared) (Q:Value→Shared→Prop),A.guards=some gs→(∀b o,h₀.get? b=some o→Clear gs b)→A.units+d.depth<cLine→
    (∀b o,h₀.get? b=some o→s.heap.get? b=some o)→
    (∀h' u tk,(∀b o,s.heap.get? b=some o→h'.get? b=some o)→Q (.str d.shown u) { s with heap:=h',toks:=tk })→wpAny (model prog w) A (call (.builtin idr) [.ref a]) Q E s
theorem atMost_there {h₀:Heap} {n:Nat} {bs:List Addr} (h:ReadAtMost h₀ n bs) {b:Addr} (m:b∈bs): ∃o,h₀.get? b=some o:=by
  obtain⟨d,as,r,_⟩:=h b m
  cases r with
  | list e=>exact⟨_,e⟩
  | tuple e=>exact⟨_,e⟩
  | dict e=>exact⟨_,e⟩
section
variable {prog : Program} {w : World} {h₀ : Heap} {a : Addr} {d : PyData} {as : List Addr}
theorem showsG_of (r:Reads h₀ (.ref a) d as) (hs:d.showable=true) (ns:sysModules ∉ as) (hz:d.shown.length≤sizeLine): ∃T idr,ShowsG prog w h₀ a d T idr:=by
  have clr: ∀ {gs:List Code} {o:Obj} {bs:List Addr} {n:Nat},(∀b o,h₀.get? b=some o→Clear gs b)→h₀.get? a=some o→ReadAtMost h₀ n bs→ ∀b∈a::bs,Clear gs b:=fun hc ho hb b m=>by
    rcases List.mem_cons.mp m with e | m
    · exact hc b _ (e ▸ ho)
    · obtain⟨o',e⟩:=atMost_there hb m
      exact hc b o' e
  cases r with
  | @list _ o vs n xs bs₀ e1 e2 e3 e4=>
    have hz':(listText (PyData.shownAll xs)).length≤sizeLine:=by simpa only[PyData.shown] using hz
    obtain⟨bs,hb,hk⟩:=ReprAllK.of_readsAll (prog:=prog) (w:=w) e4 (by simpa [PyData.showable] using hs) (fun _ hm=>ns (List.mem_cons_of_mem _ hm)) (fun t ht=>Nat.le_trans (listText_mem_le ht) hz')
    have out:a ∉ bs:=not_mem_of_deeper (.list e1 e2 e3 e4) (by simp only[PyData.depth];omega) hb
    refine⟨"list","list.__repr__",F.slot_list_repr.toG,fun s k=>⟨o,k _ _ e1,e2⟩,fun A gs E s Q hg hc hu k hQ=> ?_⟩
    simp only[PyData.depth] at hu
    simp only[PyData.shown] at hQ
    obtain⟨l⟩:=vs
    match l,e3,e4,hk with
    | [],e3,e4,hk=>
      have z:ReadsAll h₀ [] xs _:=e4
      cases z
      simp only[PyData.shownAll,listText_nil] at hQ
      exact call_list_repr_empty ⟨o,k _ _ e1,e2⟩ (k _ _ e1) e3 (hQ s.heap _ _ fun _ _ e=>e)
    | x::l,e3,e4,hk=>
      exact call_list_reprK e1 e2 e3 out (by simpa using hk.length_eq) (fun i y e=>hk.item i y (by simpa using e)) hg (clr hc e1 hb) hu k hQ hz'
  | @tuple _ o vs n xs as e1 e2 e3 e4=>
    have hz':(tupleText (PyData.shownAll xs)).length≤sizeLine:=by simpa only[PyData.shown] using hz
    obtain⟨bs,hb,hk⟩:=ReprAllK.of_readsAll (prog:=prog) (w:=w) e4 (by simpa [PyData.showable] using hs) (fun _=>ns) (fun t ht=>Nat.le_trans (tupleText_mem_le ht) hz')
    have out:a ∉ bs:=not_mem_of_deeper (.tuple e1 e2 e3 e4) (by simp only[PyData.depth];omega) hb
    refine⟨"tuple","tuple.__repr__",F.slot_tuple_repr,fun s k=>⟨o,k _ _ e1,e2⟩,fun A gs E s Q hg hc hu k hQ=> ?_⟩
    simp only[PyData.depth] at hu
    simp only[PyData.shown] at hQ
    exact call_tuple_reprK e1 e2 e3 out hk hg (clr hc e1 hb) hu k hQ hz'
  | @dict _ o es n kvs as₁ bs₁ e1 e2 e3 e4 e5=>
    have hz':(dictText (PyData.shownKv kvs)).length≤sizeLine:=by simpa only[PyData.shown] using hz
    obtain⟨hs1,hs2⟩:=PyData.showableKv_split kvs (by simpa [PyData.showable] using hs)
    obtain⟨b1,hb1,k1⟩:=ReprAllK.of_readsAll (prog:=prog) (w:=w) e4 hs1 (fun _ hm=>ns (List.mem_cons_of_mem _ (List.mem_append_left _ hm))) (fun t ht=>let ⟨p,hp,hl⟩:=PyData.shownKv_key_le kvs t ht;Nat.le_trans hl (Nat.le_trans (dictText_mem_le hp) hz'))
    obtain⟨b2,hb2,k2⟩:=ReprAllK.of_readsAll (prog:=prog) (w:=w) e5 hs2 (fun _ hm=>ns (List.mem_cons_of_mem _ (List.mem_append_right _ hm))) (fun t ht=>let ⟨p,hp,hl⟩:=PyData.shownKv_val_le kvs t ht;Nat.le_trans hl (Nat.le_trans (dictText_mem_le hp) hz'))
    have hb:ReadAtMost h₀ (PyData.depthKv kvs) (b1++b2):=(hb1.mono (PyData.depthAll_keys_le kvs)).append (hb2.mono (PyData.depthAll_vals_le kvs))
    have out:a ∉ b1++b2:=not_mem_of_deeper (.dict e1 e2 e3 e4 e5) (by simp only[PyData.depth];omega) hb
    have hsys:(a == sysModules)=false:=beq_eq_false_iff_ne.mpr fun e=>ns (e ▸ List.mem_cons_self ..)
    refine⟨"dict","dict.__repr__",F.slot_dict_repr,fun s k=>⟨o,k _ _ e1,e2⟩,fun A gs E s Q hg hc hu k hQ=> ?_⟩
    simp only[PyData.depth] at hu
    simp only[PyData.shown,PyData.shownKv_eq] at hQ
    have pairs:=ReprEntriesK.of_two es.toList _ _ (k1.more_le (fun b hb=>List.mem_append_left b2 hb) (PyData.depthAll_keys_le kvs)) (k2.more_le (fun b hb=>List.mem_append_right b1 hb) (PyData.depthAll_vals_le kvs))
    exact call_dict_reprK e1 e2 e3 hsys out pairs hg (clr hc e1 hb) hu k hQ (by rw[← PyData.shownKv_eq];exact hz')
end
section
variable {X : Cx}
theorem gok_clear {pins:List (Addr×Obj)} {σ:L2.St} {H:Hp} {s:Shared} (I:Inv X pins σ H s) {gs:List Code} (hg: ∀id v rest kw,Code.builtin id ⟨v::rest,kw⟩∈gs→ ∃g o,v= .ref g∧X.base.get? g=some o∧X.K.lookup g=none)
    {b:Addr} (hb:H b=none→X.K.lookup b=none→False):Clear gs b:=fun id v rest kw m z=>by
  obtain⟨g,o,e1,e2,e3⟩:=hg id v rest kw m
  rw[z] at e1
  cases e1
  exact hb (I.bs _ _ e2).2 e3
theorem repr_ref (hg:GOk X) {pins:List (Addr×Obj)} {σ:L2.St} {H:Hp} {s:Shared} {h₀:Heap} {a:Addr} {d:PyData} {as:List Addr} {Q:VK}
    (I:Inv X pins σ H s) (k: ∀b o,h₀.get? b=some o→s.heap.get? b=some o) (nk: ∀b,H b=none→X.K.lookup b=none→h₀.get? b=none) (r:Reads h₀ (.ref a) d as) (hs:d.showable=true) (ns:sysModules ∉ as)
    (hu:X.A.units+(d.depth+1)<cLine) (hz:d.shown.length≤sizeLine) (q:Q (.str d.shown) H):
    wpAny (model X.prog X.w) X.A (call (.builtin "repr") [.ref a]) (EP X pins σ Q) X.xe s:=by
  obtain⟨T,idr,S⟩:=showsG_of (prog:=X.prog) (w:=X.w) r hs ns hz
  obtain⟨gs,hg,hgs⟩:=hg
  refine call_repr_slot (by omega) (S.ty s k) S.slot (S.run X.A.in1 gs X.xe s _ hg (fun b o e=>gok_clear I hgs fun h1 h2=>by rw[nk b h1 h2] at e;cases e) (by show X.A.units+1+d.depth<cLine;omega) k fun h' u tk kp=>⟨_,_,rfl,?_⟩)
  exact⟨.str d.shown,H,I.kept kp,⟨u,rfl⟩,q⟩
end

def One (H:Hp):Prop:= ∃o a,H sysModules=some (.frz o (.own a))
section
variable {P : Program} {w : World} {K : PySem.W.Frag} {mg mb : Str → Option Value} {k : Nat} {fa a : Addr} {fd : FuncData}
  {x : Str} {sp : Sp} {s₁ : Shared} {vs : List Value} {ns : List Int}
structure Root (K:PySem.W.Frag) (P:Program) (w:World) (a:Addr) (ns:List Int) (s₁:Shared) (H:Hp):Prop where
  only: ∀b,H b=none∨ ∃o u,H b=some (.frz o u)
  list:SqL K H a (ns.map V.int)
  hok:HOk P w H s₁.heap
  two: ∀b,H b≠none→b=sysModules∨(b=a∧K.lookup a=none)
  one:One H
theorem root_of (KX:K.In s₁.heap) (k1:K.lookup sysModules=none) (ha1:a≠sysModules) (hs: ∃o,s₁.heap.get? sysModules=some o)
    (ha:s₁.heap.get? a=some { cls:= .type "list",data:= .seq vs.toArray })
    (hi:IntsAre vs ns) (hl:ns.length≤sizeLine): ∃H,Root K P w a ns s₁ H:=by
  have rv:=vals_ints hi
  have lv:=hi.length
  obtain⟨o1,e1⟩:=hs
  cases hk:K.lookup a with
  | some o=>
    have e:=(KX a o hk).symm.trans ha
    cases e
    refine⟨fun b=>if b=sysModules then some (.frz o1 (.own 0)) else none,?_,
      .inr ⟨_,vs.toArray,_,hk,rfl,rfl,rfl,by rw[List.size_toArray,lv];exact hl,by simpa using rv⟩,?_,?_,⟨o1,0,if_pos rfl⟩⟩
    · intro b
      by_cases hb:b=sysModules
      · exact .inr ⟨o1,_,if_pos hb⟩
      · exact .inl (if_neg hb)
    · intro b u z
      by_cases hb:b=sysModules
      · have z':=(if_pos hb).symm.trans z
        cases z'
        subst hb
        exact⟨e1,⟨o1,e1⟩⟩
      · have z':=(if_neg hb).symm.trans z
        cases z'
    · intro b z
      by_cases hb:b=sysModules
      · exact .inl hb
      · exact absurd (if_neg hb) z
  | none=>
    let so:Obj:= { cls:= .type "list",data:= .seq vs.toArray }
    refine⟨fun b=>if b=sysModules then some (.frz o1 (.own 0)) else if b=a then some (.frz so (.lst (ns.map V.int))) else none,
      ?_,.inl (.inr ⟨so,(if_neg ha1).trans (if_pos rfl)⟩),?_,?_,⟨o1,0,if_pos rfl⟩⟩
    · intro b
      by_cases hb:b=sysModules
      · exact .inr ⟨o1,_,if_pos hb⟩
      · by_cases hb2:b=a
        · exact .inr ⟨so,_,(if_neg hb).trans (if_pos hb2)⟩
        · exact .inl ((if_neg hb).trans (if_neg hb2))
    · intro b u z
      by_cases hb:b=sysModules
      · have z':=(if_pos hb).symm.trans z
        cases z'
        subst hb
        exact⟨e1,⟨o1,e1⟩⟩
      · by_cases hb2:b=a
        · have z':=((if_neg hb).trans (if_pos hb2)).symm.trans z
          cases z'
          subst hb2
          exact⟨ha,by rw[List.length_map];exact hl,vs,_,rv,ha⟩
        · have z':=((if_neg hb).trans (if_neg hb2)).symm.trans z
          cases z'
    · intro b z
      by_cases hb:b=sysModules
      · exact .inl hb
      · by_cases hb2:b=a
        · exact .inr ⟨hb2,hk⟩
        · exact absurd ((if_neg hb).trans (if_neg hb2)) z
end
theorem script_at {r:PySem.W.WRecords} {cl:Str→Option Addr} {h:Heap} {a:Addr} {d:List PySem.W.WData} {as:List Addr}
    (x:PySem.W.ReadsAllW r cl h [Value.ref a] [PySem.W.WData.list d] as):a∈as:=by
  cases x with
  | cons r1 r2=>
    cases r1 with
    | list=>exact List.mem_append_left _ List.mem_cons_self
end PC

set_option Elab.async false
set_option linter.all false
set_option maxRecDepth 100000
set_option maxHeartbeats 2000000
namespace PC
open PySem PySem.Spec PyProof.Rows L2

def Pot (p:Addr) (H:Hp):Prop:= ∃a b:Int,H p=some (.lst [.int a,.int b])∧0≤a∧0≤b∧b<2147483647
structure R (p:Addr) (H H':Hp):Prop where
  keep: ∀b o,b≠p→H b=some o→H' b=some o
  frz: ∀b o u,H b=some (.frz o u)→H' b=some (.frz o u)
  occ:H p≠none→H' p≠none
  pot:Pot p H→Pot p H'
  stay: ∀b o,(∀xs,o≠ .lst xs)→(∀kvs,o≠ .dK kvs)→H b=some o→H' b=some o
theorem R.refl (p:Addr) (H:Hp):R p H H:=⟨fun _ _ _ h=>h,fun _ _ _ h=>h,fun h=>h,fun h=>h,fun _ _ _ _ h=>h⟩
theorem R.trans {p:Addr} {H H1 H2:Hp} (a:R p H H1) (b:R p H1 H2):R p H H2:=
  ⟨fun c o n h=>b.keep c o n (a.keep c o n h),fun c o u h=>b.frz c o u (a.frz c o u h),fun h=>b.occ (a.occ h),fun h=>b.pot (a.pot h),
   fun c o n m h=>b.stay c o n m (a.stay c o n m h)⟩
theorem R.of_same {p:Addr} {H H':Hp} (h:Same H H'):R p H H':=
  ⟨fun b o _ e=>h b o e,fun b o u e=>h b _ e,fun z w=>z (h.free w),fun⟨a,b,e,r⟩=>⟨a,b,h _ _ e,r⟩,fun b o _ _ e=>h b o e⟩
theorem same_new {n:Addr} {H:Hp} {o:HO} (h:H n=none):Same H (upd H n o):=fun b u e=>by
  rw[upd_ne (ne_of_none e h)];exact e
theorem R.new {p n:Addr} {H:Hp} {o:HO} (h:H n=none):R p H (upd H n o):= .of_same (same_new h)
theorem R.draw {p:Addr} {H:Hp} {a b:Int} {l:List V} (h:H p=some (.lst l)) (ho: ∀x u,(HO.lst l)≠ .frz x u) (ha:0≤a) (hb:0≤b) (hb2:b<2147483647):
    R p H (upd H p (.lst [.int a,.int b])):=by
  have far: ∀c u,(∀xs,u≠ .lst xs)→H c=some u→upd H p (.lst [.int a,.int b]) c=some u:=fun c u n e=>by
    by_cases z:c=p
    · subst z
      rw[h] at e
      exact absurd (Option.some.inj e).symm (n l)
    · rw[upd_ne z]
      exact e
  exact⟨fun c u n e=>(by rw[upd_ne n];exact e),fun c x u e=>far c _ (fun xs z=>nomatch z) e,
    fun _=>(by rw[upd_same];exact fun w=>nomatch w),fun _=>⟨a,b,upd_same,ha,hb,hb2⟩,fun c u n _=>far c u n⟩
theorem R.over {p D:Addr} {H H':Hp} {o:HO} (r:R p H H') (hD:H D=none) (hp:D≠p):R p H (upd H' D o):=
  ⟨fun b u n e=>by rw[upd_ne (ne_of_none e hD)];exact r.keep b u n e,fun b x u e=>by rw[upd_ne (ne_of_none e hD)];exact r.frz b x u e,
   fun z=>by rw[upd_ne hp.symm];exact r.occ z,fun z=>by
    obtain⟨a,b,e,q⟩:=r.pot z
    exact⟨a,b,by rw[upd_ne hp.symm];exact e,q⟩,fun b u n m e=>by rw[upd_ne (ne_of_none e hD)];exact r.stay b u n m e⟩
theorem R.one {p:Addr} {H H':Hp} (r:R p H H') (h:One H):One H':=by
  obtain⟨o,u,e⟩:=h
  exact⟨o,u,r.frz _ _ _ e⟩
theorem R.free {p a:Addr} {H H':Hp} (r:R p H H') (n:a≠p) (h:H' a=none):H a=none:=by
  cases e:H a with
  | none=>rfl
  | some o=>rw[r.keep a o n e] at h;cases h
def keyD:Key→PyData
  | .inl i=> .int i
  | .inr x=> .str x
mutual
/-- v shows the data d; none of its own objects stands at a place of Z -/
def Dat (K:PySem.W.Frag) (Z:List Addr) (H:Hp):PyData→V→Prop
  | .none,v=>v= .non
  | .bool b,v=>v= .bl b
  | .int i,v=>v= .int i
  | .str x,v=>v= .str x
  | .list ds,v=> ∃a xs,v= .ref a∧a ∉ Z∧Rd H a (.lst xs)∧DatL K Z H ds xs
  | .tuple ds,v=> ∃a xs,v= .ref a∧(a ∉ Z∨SqT K (fun _=>none) a xs)∧SqT K H a xs∧DatL K Z H ds xs
  | .dict kvs,v=> ∃a es,v= .ref a∧a ∉ Z∧H a=some (.dK es)∧DatK K Z H kvs es
def DatL (K:PySem.W.Frag) (Z:List Addr) (H:Hp):List PyData→List V→Prop
  | [],vs=>vs= []
  | d::ds,vs=> ∃v r,vs=v::r∧Dat K Z H d v∧DatL K Z H ds r
def DatK (K:PySem.W.Frag) (Z:List Addr) (H:Hp):List (PyData×PyData)→List (Key×V)→Prop
  | [],es=>es= []
  | (k,d)::r,es=> ∃kk v t,es=(kk,v)::t∧keyD kk=k∧Dat K Z H d v∧DatK K Z H r t
end
section
variable {K : PySem.W.Frag} {p : Addr} {Z Z' : List Addr} {H H' : Hp}
theorem _root_.L2.Rd.up {a:Addr} {u:HO} (r:R p H H') (n:a≠p) (h:Rd H a u):Rd H' a u:=by
  rcases h with h | ⟨o,h⟩
  · exact .inl (r.keep _ _ n h)
  · exact .inr ⟨o,r.frz _ _ _ h⟩
theorem SqL.up {a:Addr} {xs:List V} (r:R p H H') (n:a≠p) (h:SqL K H a xs):SqL K H' a xs:=by
  rcases h with h | h
  · exact .inl (Rd.up r n h)
  · exact .inr h
theorem SqT.up {a:Addr} {xs:List V} (r:R p H H') (hp:p∈Z) (n:a ∉ Z∨SqT K (fun _=>none) a xs) (h:SqT K H a xs):SqT K H' a xs:=by
  rcases h with h | h
  · rcases n with n | n
    · exact .inl (Rd.up r (fun z=>n (z ▸ hp)) h)
    · rcases n with (n | ⟨o,n⟩) | n
      · cases n
      · cases n
      · exact .inr n
  · exact .inr h
mutual
theorem Dat.up (r:R p H H') (hp:p∈Z): ∀(d:PyData) (v:V),Dat K Z H d v→Dat K Z H' d v
  | .none,v,h=>h
  | .bool _,v,h=>h
  | .int _,v,h=>h
  | .str _,v,h=>h
  | .list ds,v,h=>by
    simp only[Dat] at h ⊢
    obtain⟨a,xs,e,n,s,l⟩:=h
    exact⟨a,xs,e,n,s.up r (fun z=>n (z ▸ hp)),DatL.up r hp ds xs l⟩
  | .tuple ds,v,h=>by
    simp only[Dat] at h ⊢
    obtain⟨a,xs,e,n,s,l⟩:=h
    exact⟨a,xs,e,n,SqT.up r hp n s,DatL.up r hp ds xs l⟩
  | .dict kvs,v,h=>by
    simp only[Dat] at h ⊢
    obtain⟨a,es,e,n,s,l⟩:=h
    exact⟨a,es,e,n,r.keep _ _ (fun z=>n (z ▸ hp)) s,DatK.up r hp kvs es l⟩
theorem DatL.up (r:R p H H') (hp:p∈Z): ∀(ds:List PyData) (vs:List V),DatL K Z H ds vs→DatL K Z H' ds vs
  | [],vs,h=>h
  | d::ds,vs,h=>by
    simp only[DatL] at h ⊢
    obtain⟨v,q,e,h1,h2⟩:=h
    exact⟨v,q,e,Dat.up r hp d v h1,DatL.up r hp ds q h2⟩
theorem DatK.up (r:R p H H') (hp:p∈Z): ∀(ds:List (PyData×PyData)) (es:List (Key×V)),DatK K Z H ds es→DatK K Z H' ds es
  | [],vs,h=>h
  | (k,d)::ds,vs,h=>by
    simp only[DatK] at h ⊢
    obtain⟨kk,v,q,e,hk,h1,h2⟩:=h
    exact⟨kk,v,q,e,hk,Dat.up r hp d v h1,DatK.up r hp ds q h2⟩
end
mutual
/-- one place more -/
theorem Dat.more {D:Addr} (hD:H D=none): ∀(d:PyData) (v:V),Dat K Z H d v→Dat K (D::Z) H d v
  | .none,v,h=>h
  | .bool _,v,h=>h
  | .int _,v,h=>h
  | .str _,v,h=>h
  | .list ds,v,h=>by
    simp only[Dat] at h ⊢
    obtain⟨a,xs,e,n,s,l⟩:=h
    refine⟨a,xs,e,fun z=> ?_,s,DatL.more hD ds xs l⟩
    rcases List.mem_cons.mp z with z | z
    · subst z
      rcases s with s | ⟨o,s⟩ <;> (rw[hD] at s;cases s)
    · exact n z
  | .tuple ds,v,h=>by
    simp only[Dat] at h ⊢
    obtain⟨a,xs,e,n,s,l⟩:=h
    refine⟨a,xs,e,?_,s,DatL.more hD ds xs l⟩
    by_cases z:a=D
    · subst z
      rcases s with (s | ⟨o,s⟩) | s
      · rw[hD] at s;cases s
      · rw[hD] at s;cases s
      · exact .inr (.inr s)
    · rcases n with n | n
      · exact .inl fun q=>(List.mem_cons.mp q).elim z n
      · exact .inr n
  | .dict kvs,v,h=>by
    simp only[Dat] at h ⊢
    obtain⟨a,es,e,n,s,l⟩:=h
    refine⟨a,es,e,fun z=> ?_,s,DatK.more hD kvs es l⟩
    rcases List.mem_cons.mp z with z | z
    · subst z
      rw[hD] at s;cases s
    · exact n z
theorem DatL.more {D:Addr} (hD:H D=none): ∀(ds:List PyData) (vs:List V),DatL K Z H ds vs→DatL K (D::Z) H ds vs
  | [],vs,h=>h
  | d::ds,vs,h=>by
    simp only[DatL] at h ⊢
    obtain⟨v,q,e,h1,h2⟩:=h
    exact⟨v,q,e,Dat.more hD d v h1,DatL.more hD ds q h2⟩
theorem DatK.more {D:Addr} (hD:H D=none): ∀(ds:List (PyData×PyData)) (es:List (Key×V)),DatK K Z H ds es→DatK K (D::Z) H ds es
  | [],vs,h=>h
  | (k,d)::ds,vs,h=>by
    simp only[DatK] at h ⊢
    obtain⟨kk,v,q,e,hk,h1,h2⟩:=h
    exact⟨kk,v,q,e,hk,Dat.more hD d v h1,DatK.more hD ds q h2⟩
end
mutual
/-- fewer places -/
theorem Dat.less (hz: ∀a,a∈Z'→a∈Z): ∀(d:PyData) (v:V),Dat K Z H d v→Dat K Z' H d v
  | .none,v,h=>h
  | .bool _,v,h=>h
  | .int _,v,h=>h
  | .str _,v,h=>h
  | .list ds,v,h=>by
    simp only[Dat] at h ⊢
    obtain⟨a,xs,e,n,s,l⟩:=h
    exact⟨a,xs,e,fun z=>n (hz _ z),s,DatL.less hz ds xs l⟩
  | .tuple ds,v,h=>by
    simp only[Dat] at h ⊢
    obtain⟨a,xs,e,n,s,l⟩:=h
    exact⟨a,xs,e,n.imp (fun n z=>n (hz _ z)) id,s,DatL.less hz ds xs l⟩
  | .dict kvs,v,h=>by
    simp only[Dat] at h ⊢
    obtain⟨a,es,e,n,s,l⟩:=h
    exact⟨a,es,e,fun z=>n (hz _ z),s,DatK.less hz kvs es l⟩
theorem DatL.less (hz: ∀a,a∈Z'→a∈Z): ∀(ds:List PyData) (vs:List V),DatL K Z H ds vs→DatL K Z' H ds vs
  | [],vs,h=>h
  | d::ds,vs,h=>by
    simp only[DatL] at h ⊢
    obtain⟨v,q,e,h1,h2⟩:=h
    exact⟨v,q,e,Dat.less hz d v h1,DatL.less hz ds q h2⟩
theorem DatK.less (hz: ∀a,a∈Z'→a∈Z): ∀(ds:List (PyData×PyData)) (es:List (Key×V)),DatK K Z H ds es→DatK K Z' H ds es
  | [],vs,h=>h
  | (k,d)::ds,vs,h=>by
    simp only[DatK] at h ⊢
    obtain⟨kk,v,q,e,hk,h1,h2⟩:=h
    exact⟨kk,v,q,e,hk,Dat.less hz d v h1,DatK.less hz ds q h2⟩
end
mutual
/-- a place that is no data's, changed -/
theorem Dat.put {D:Addr} {o:HO} (hd:D∈Z): ∀(d:PyData) (v:V),Dat K Z H d v→Dat K Z (upd H D o) d v
  | .none,v,h=>h
  | .bool _,v,h=>h
  | .int _,v,h=>h
  | .str _,v,h=>h
  | .list ds,v,h=>by
    simp only[Dat] at h ⊢
    obtain⟨a,xs,e,n,s,l⟩:=h
    have nz:a≠D:=fun z=>n (z ▸ hd)
    refine⟨a,xs,e,n,?_,DatL.put hd ds xs l⟩
    rcases s with s | ⟨u,s⟩
    · exact .inl (by rw[upd_ne nz];exact s)
    · exact .inr ⟨u,by rw[upd_ne nz];exact s⟩
  | .tuple ds,v,h=>by
    simp only[Dat] at h ⊢
    obtain⟨a,xs,e,n,s,l⟩:=h
    refine⟨a,xs,e,n,?_,DatL.put hd ds xs l⟩
    rcases n with n | ((n | ⟨u,n⟩) | n)
    · have nz:a≠D:=fun z=>n (z ▸ hd)
      rcases s with (s | ⟨u,s⟩) | s
      · exact .inl (.inl (by rw[upd_ne nz];exact s))
      · exact .inl (.inr ⟨u,by rw[upd_ne nz];exact s⟩)
      · exact .inr s
    · cases n
    · cases n
    · exact .inr n
  | .dict kvs,v,h=>by
    simp only[Dat] at h ⊢
    obtain⟨a,es,e,n,s,l⟩:=h
    have nz:a≠D:=fun z=>n (z ▸ hd)
    exact⟨a,es,e,n,by rw[upd_ne nz];exact s,DatK.put hd kvs es l⟩
theorem DatL.put {D:Addr} {o:HO} (hd:D∈Z): ∀(ds:List PyData) (vs:List V),DatL K Z H ds vs→DatL K Z (upd H D o) ds vs
  | [],vs,h=>h
  | d::ds,vs,h=>by
    simp only[DatL] at h ⊢
    obtain⟨v,q,e,h1,h2⟩:=h
    exact⟨v,q,e,Dat.put hd d v h1,DatL.put hd ds q h2⟩
theorem DatK.put {D:Addr} {o:HO} (hd:D∈Z): ∀(ds:List (PyData×PyData)) (es:List (Key×V)),DatK K Z H ds es→DatK K Z (upd H D o) ds es
  | [],vs,h=>h
  | (k,d)::ds,vs,h=>by
    simp only[DatK] at h ⊢
    obtain⟨kk,v,q,e,hk,h1,h2⟩:=h
    exact⟨kk,v,q,e,hk,Dat.put hd d v h1,DatK.put hd ds q h2⟩
end
theorem Dat.lst {v:V} {ds:List PyData} (h:Dat K Z H (.list ds) v): ∃a xs,v= .ref a∧a ∉ Z∧Rd H a (.lst xs)∧DatL K Z H ds xs:=by
  simpa only[Dat] using h
theorem Dat.tup {v:V} {ds:List PyData} (h:Dat K Z H (.tuple ds) v): ∃a xs,v= .ref a∧(a ∉ Z∨SqT K (fun _=>none) a xs)∧SqT K H a xs∧DatL K Z H ds xs:=by
  simpa only[Dat] using h
theorem Dat.dct {v:V} {ds:List (PyData×PyData)} (h:Dat K Z H (.dict ds) v): ∃a es,v= .ref a∧a ∉ Z∧H a=some (.dK es)∧DatK K Z H ds es:=by
  simpa only[Dat] using h
theorem DatL.cons_inv {d:PyData} {ds:List PyData} {vs:List V} (h:DatL K Z H (d::ds) vs): ∃v r,vs=v::r∧Dat K Z H d v∧DatL K Z H ds r:=by
  simpa only[DatL] using h
theorem DatL.nil_inv {vs:List V} (h:DatL K Z H [] vs):vs= []:=by simpa only[DatL] using h
theorem datL_nil:DatL K Z H [] []:=by simp only[DatL]
theorem datL_cons {d:PyData} {ds:List PyData} {v:V} {vs:List V} (h:Dat K Z H d v) (l:DatL K Z H ds vs):DatL K Z H (d::ds) (v::vs):=by
  simp only[DatL];exact⟨v,vs,rfl,h,l⟩
theorem DatL.length: ∀ {ds:List PyData} {vs:List V},DatL K Z H ds vs→vs.length=ds.length
  | [],vs,h=>by rw[h.nil_inv];rfl
  | d::ds,vs,h=>by
    obtain⟨v,q,e,h1,h2⟩:=h.cons_inv
    rw[e,List.length_cons,List.length_cons,DatL.length h2]
theorem DatL.get: ∀ {ds:List PyData} {vs:List V} {i:Nat} {d:PyData},DatL K Z H ds vs→ds[i]?=some d→ ∃v,vs[i]?=some v∧Dat K Z H d v
  | [],_,_,_,_,e=>by simp at e
  | d::ds,vs,i,x,h,e=>by
    obtain⟨v,q,rfl,h1,h2⟩:=h.cons_inv
    cases i with
    | zero=>simp at e;subst e;exact⟨v,rfl,h1⟩
    | succ i=>exact DatL.get (i:=i) h2 (by simpa using e)
theorem DatL.append: ∀ {ds es:List PyData} {vs ws:List V},DatL K Z H ds vs→DatL K Z H es ws→DatL K Z H (ds++es) (vs++ws)
  | [],es,vs,ws,h,g=>by
    have e:=h.nil_inv
    subst e;exact g
  | d::ds,es,vs,ws,h,g=>by
    obtain⟨v,q,rfl,h1,h2⟩:=h.cons_inv
    exact datL_cons h1 (DatL.append h2 g)
theorem DatL.drop: ∀ {ds:List PyData} {vs:List V} (n:Nat),DatL K Z H ds vs→DatL K Z H (ds.drop n) (vs.drop n)
  | _,_,0,h=>h
  | [],vs,n+1,h=>by
    have e:=h.nil_inv
    subst e;exact datL_nil
  | d::ds,vs,n+1,h=>by
    obtain⟨v,q,rfl,h1,h2⟩:=h.cons_inv
    exact DatL.drop n h2
theorem DatL.take: ∀ {ds:List PyData} {vs:List V} (n:Nat),DatL K Z H ds vs→DatL K Z H (ds.take n) (vs.take n)
  | _,_,0,h=>by rw[List.take_zero,List.take_zero];exact datL_nil
  | [],vs,n+1,h=>by
    have e:=h.nil_inv
    subst e;exact datL_nil
  | d::ds,vs,n+1,h=>by
    obtain⟨v,q,rfl,h1,h2⟩:=h.cons_inv
    exact datL_cons h1 (DatL.take n h2)
theorem DatL.ints: ∀ {ns:List Int} {vs:List V},DatL K Z H (ns.map .int) vs→vs=ns.map .int
  | [],vs,h=>h.nil_inv
  | n::ns,vs,h=>by
    obtain⟨v,q,rfl,h1,h2⟩:=DatL.cons_inv (d:= .int n) (ds:=ns.map .int) h
    simp only[Dat] at h1
    rw[h1,DatL.ints h2];rfl
theorem DatL.bls: ∀ {ns:List Bool} {vs:List V},DatL K Z H (ns.map .bool) vs→vs=ns.map .bl
  | [],vs,h=>h.nil_inv
  | n::ns,vs,h=>by
    obtain⟨v,q,rfl,h1,h2⟩:=DatL.cons_inv (d:= .bool n) (ds:=ns.map .bool) h
    simp only[Dat] at h1
    rw[h1,DatL.bls h2];rfl
end

section
variable {X : Cx} {pins : List (Addr × Obj)} {σ : L2.St} {H : Hp} {s : Shared} {Z : List Addr}
theorem keyD_reads {k:Key} {u:Value} {h:Heap} (e:keyIs k u=true):Reads h u (keyD k) []:=by
  rcases keyIs_shape e with ⟨i,t,rfl,rfl⟩ | ⟨x,t,rfl,rfl⟩
  · exact .int i t
  · exact .str x t
theorem notSys {a:Addr} {xs:List V} (I:Inv X pins σ H s) (o1:One H) (h:SqL X.K H a xs):a≠sysModules:=by
  obtain⟨o,u,e⟩:=o1
  intro z
  subst z
  rcases h with (h | ⟨o',h⟩) | ⟨o',_,_,h,_⟩
  · rw[e] at h;cases h
  · rw[e] at h;cases h
  · have q:=(I.bs _ _ (I.mod.kin _ _ h)).2
    rw[e] at q;cases q
theorem sqL_tr {a:Addr} {xs:List V} (h:SqL X.K H a xs):H a≠none∨X.K.lookup a≠none:=by
  rcases h with (h | ⟨_,h⟩) | ⟨_,_,_,h,_⟩
  · exact .inl (by rw[h];exact fun z=>nomatch z)
  · exact .inl (by rw[h];exact fun z=>nomatch z)
  · exact .inr (by rw[h];exact fun z=>nomatch z)
theorem sqT_tr {a:Addr} {xs:List V} (h:SqT X.K H a xs):H a≠none∨X.K.lookup a≠none:=by
  rcases h with (h | ⟨_,h⟩) | ⟨_,_,_,h,_⟩
  · exact .inl (by rw[h];exact fun z=>nomatch z)
  · exact .inl (by rw[h];exact fun z=>nomatch z)
  · exact .inr (by rw[h];exact fun z=>nomatch z)
mutual
theorem Dat.readsIn (I:Inv X pins σ H s) (o1:One H) {hp:Heap} (hk: ∀b o,s.heap.get? b=some o→(H b≠none∨X.K.lookup b≠none)→hp.get? b=some o): ∀(d:PyData) (v:V) (u:Value),Dat X.K Z H d v→RelV v u→
    ∃as,Reads hp u d as∧sysModules ∉ as
  | .none,_,_,h,r=>by
    simp only[Dat] at h
    subst h
    cases (show _=Value.none from r)
    exact⟨_,.none,by simp⟩
  | .bool b,_,_,h,r=>by
    simp only[Dat] at h
    subst h
    cases (show _=Value.bool b from r)
    exact⟨_,.bool b,by simp⟩
  | .int i,_,_,h,r=>by
    simp only[Dat] at h
    subst h
    obtain⟨t,rfl⟩:=(show ∃t,_=Value.int i t from r)
    exact⟨_,.int i t,by simp⟩
  | .str x,_,_,h,r=>by
    simp only[Dat] at h
    subst h
    obtain⟨t,rfl⟩:=(show ∃t,_=Value.str x t from r)
    exact⟨_,.str x t,by simp⟩
  | .list ds,_,_,h,r=>by
    obtain⟨a,xs,rfl,n,hs,hl⟩:=h.lst
    cases (show _=Value.ref a from r)
    obtain⟨its,rv,⟨o,k,ho,hc,_,hd⟩,_⟩:=I.list (.inl hs)
    obtain⟨as,hr,ns⟩:=DatL.readsIn I o1 hk ds xs its hl rv
    refine⟨_,.list (hk _ _ ho (sqL_tr (.inl hs))) hc hd hr,fun z=> ?_⟩
    rcases List.mem_cons.mp z with z | z
    · exact notSys I o1 (.inl hs) z.symm
    · exact ns z
  | .tuple ds,_,_,h,r=>by
    obtain⟨a,xs,rfl,n,hs,hl⟩:=h.tup
    cases (show _=Value.ref a from r)
    obtain⟨its,rv,⟨o,ho,hc,k,hd⟩,_⟩:=I.tuple hs
    obtain⟨as,hr,ns⟩:=DatL.readsIn I o1 hk ds xs its hl rv
    exact⟨_,.tuple (hk _ _ ho (sqT_tr hs)) hc hd hr,ns⟩
  | .dict kvs,_,_,h,r=>by
    obtain⟨a,es,rfl,n,hs,hl⟩:=h.dct
    cases (show _=Value.ref a from r)
    obtain⟨_,hsys,vs,rel,o,en,ep,ho,hx,hd,_,hp,_⟩:=(show ObjOk X.prog X.w H s.heap a (.dK es) from I.hok a _ hs)
    obtain⟨as,bs,r1,r2,n1,n2⟩:=DatK.readsIn I o1 hk kvs es vs en.toList hl rel hp
    refine⟨_,.dict (hk _ _ ho (.inl (by rw[hs];exact fun z=>nomatch z))) hx.1 hd r1 r2,fun z=> ?_⟩
    rcases List.mem_append.mp z with z | z
    · rcases List.mem_cons.mp z with z | z
      · rw[← z] at hsys;simp at hsys
      · exact n1 z
    · exact n2 z
theorem DatL.readsIn (I:Inv X pins σ H s) (o1:One H) {hp:Heap} (hk: ∀b o,s.heap.get? b=some o→(H b≠none∨X.K.lookup b≠none)→hp.get? b=some o): ∀(ds:List PyData) (vs:List V) (us:List Value),DatL X.K Z H ds vs→Vals vs us→
    ∃as,ReadsAll hp us ds as∧sysModules ∉ as
  | [],vs,us,h,r=>by
    simp only[DatL] at h
    subst h
    cases r
    exact⟨_,.nil,by simp⟩
  | d::ds,vs,us,h,r=>by
    simp only[DatL] at h
    obtain⟨v,q,rfl,h1,h2⟩:=h
    cases r with
    | cons r1 r2=>
      obtain⟨as,q1,n1⟩:=Dat.readsIn I o1 hk d v _ h1 r1
      obtain⟨bs,q2,n2⟩:=DatL.readsIn I o1 hk ds q _ h2 r2
      exact⟨_,.cons q1 q2,fun z=>(List.mem_append.mp z).elim n1 n2⟩
theorem DatK.readsIn (I:Inv X pins σ H s) (o1:One H) {hp:Heap} (hk: ∀b o,s.heap.get? b=some o→(H b≠none∨X.K.lookup b≠none)→hp.get? b=some o): ∀(ds:List (PyData×PyData)) (es:List (Key×V)) (vs:List (Key×Value)) (en:List DictEntry),
    DatK X.K Z H ds es→KV es vs→Pairs (mixKind X.prog X.w) en vs→
    ∃as bs,ReadsAll hp (en.map (·.key)) (ds.map (·.1)) as∧ReadsAll hp (en.map (·.val)) (ds.map (·.2)) bs∧sysModules ∉ as∧sysModules ∉ bs
  | [],es,vs,en,h,r,pr=>by
    simp only[DatK] at h
    subst h
    cases r
    cases pr
    exact⟨_,_,.nil,.nil,by simp,by simp⟩
  | (k,d)::ds,es,vs,en,h,r,pr=>by
    simp only[DatK] at h
    obtain⟨kk,v,q,rfl,hkk,h1,h2⟩:=h
    cases r with
    | cons r1 r2=>
      obtain⟨e1,e2⟩:=r1
      cases pr with
      | cons p1 p2 p3=>
        obtain⟨as,q1,n1⟩:=Dat.readsIn I o1 hk d v _ h1 e2
        obtain⟨bs,cs,q2,q3,n2,n3⟩:=DatK.readsIn I o1 hk ds q _ _ h2 r2 p3
        have kr:Reads hp _ (keyD _) []:=keyD_reads (h:=hp) p1
        rw[show keyD _=k from (congrArg keyD e1.symm).trans hkk] at kr
        rw[← p2] at q1
        exact⟨_,_,.cons kr q2,.cons q1 q3,fun z=>n2 (by simpa using z),fun z=>(List.mem_append.mp z).elim n1 n3⟩
end
theorem Dat.reads (I:Inv X pins σ H s) (o1:One H) (d:PyData) (v:V) (u:Value) (h:Dat X.K Z H d v) (r:RelV v u): ∃as,Reads s.heap u d as∧sysModules ∉ as:=Dat.readsIn I o1 (fun _ _ e _=>e) d v u h r
theorem ground_of (X:Cx) (H:Hp) (s:Shared): ∃hp:Heap,(∀b o,s.heap.get? b=some o→(H b≠none∨X.K.lookup b≠none)→hp.get? b=some o)∧(∀b o,hp.get? b=some o→s.heap.get? b=some o)∧ ∀b,H b=none→X.K.lookup b=none→hp.get? b=none:=by
  obtain⟨G,g1,g2⟩:=restrict s.heap fun b=>(H b).isSome || (X.K.lookup b).isSome
  refine⟨G,fun b o e t=> ?_,fun b o e=> ?_,fun b h1 h2=>g2 b (by rw[h1,h2];rfl)⟩
  · rw[g1 b (by
      rcases t with t | t
      · cases q:H b with
        | none=>exact absurd q t
        | some x=>rfl
      · cases q:X.K.lookup b with
        | none=>exact absurd q t
        | some x=>simp)]
    exact e
  · cases q:((H b).isSome || (X.K.lookup b).isSome) with
    | false=>rw[g2 b q] at e;cases e
    | true=>rw[← g1 b q];exact e
end

mutual
/-- its texts are made of code points -/
def lay:PyData→Bool
  | .none=>true
  | .bool _=>true
  | .int _=>true
  | .str x=>PyData.strOk x
  | .list xs=>layL xs
  | .tuple xs=>layL xs
  | .dict kvs=>layK kvs
def layL:List PyData→Bool
  | []=>true
  | x::xs=>lay x && layL xs
def layK:List (PyData×PyData)→Bool
  | []=>true
  | (k,v)::xs=>lay k && lay v && layK xs
end
mutual
theorem canLay_of: ∀d:PyData,lay d=true→d.hasDict=false→d.canLay0=true
  | .none,_,_=>rfl
  | .bool _,_,_=>rfl
  | .int _,_,_=>rfl
  | .str x,h,_=>by simpa only[lay,PyData.canLay0] using h
  | .list xs,h,g=>by
    simp only[lay] at h
    simp only[PyData.hasDict] at g
    simp only[PyData.canLay0]
    exact canLayAll_of xs h g
  | .tuple xs,h,g=>by
    simp only[lay] at h
    simp only[PyData.hasDict] at g
    simp only[PyData.canLay0]
    exact canLayAll_of xs h g
  | .dict kvs,_,g=>by simp only[PyData.hasDict] at g;cases g
theorem canLayAll_of: ∀d:List PyData,layL d=true→PyData.hasDictAll d=false→PyData.canLayAll0 d=true
  | [],_,_=>rfl
  | x::xs,h,g=>by
    simp only[layL,Bool.and_eq_true] at h
    simp only[PyData.hasDictAll,Bool.or_eq_false_iff] at g
    simp only[PyData.canLayAll0,canLay_of x h.1 g.1,canLayAll_of xs h.2 g.2,Bool.and_self]
end
structure Tame (d:PyData) (k n:Nat):Prop where
  show_:d.showable=true
  short:d.leavesShort 300=true
  lay:lay d=true
  depth:d.depth≤k
  bulk:d.bulk≤n
structure TameL (d:List PyData) (k n:Nat):Prop where
  show_:PyData.showableAll d=true
  short:PyData.leavesShortAll 300 d=true
  lay:layL d=true
  depth:PyData.depthAll d≤k
  bulk:PyData.bulkAll d≤n
section
variable {k n j m : Nat} {d : PyData} {ds : List PyData}
theorem Tame.mono (h:Tame d k n) (a:k≤j) (l:n≤m):Tame d j m:=⟨h.1,h.2,h.3,Nat.le_trans h.4 a,Nat.le_trans h.5 l⟩
theorem TameL.mono (h:TameL ds k n) (a:k≤j) (l:n≤m):TameL ds j m:=⟨h.1,h.2,h.3,Nat.le_trans h.4 a,Nat.le_trans h.5 l⟩
theorem Tame.len (h:Tame d k n) (hn:n≤50000):d.shown.length≤sizeLine:=by
  have:=PyData.shown_le_bulk 300 (by decide) d h.short
  have:=h.bulk
  rw[sizeLine_eq]
  omega
theorem log2_small {i:Int} {k:Nat} (hk:0<k) (h:i.natAbs<2 ^ k):i.natAbs.log2<k:=by
  by_cases z:i.natAbs=0
  · rw[z];simpa using hk
  · exact (Nat.log2_lt z).mpr h
theorem tame_int {i:Int} (h:i.natAbs<2 ^ 250):Tame (.int i) 1 0:=by
  have hl:=log2_small (by decide) h
  refine⟨?_,?_,rfl,by simp[PyData.depth],by simp[PyData.bulk]⟩
  · simp only[PyData.showable,decide_eq_true_eq]
    omega
  · simp only[PyData.leavesShort,decide_eq_true_eq,PyData.shown]
    have e:=int_text_length_le (a:=i) (k:=250) (by decide) hl
    have e2:=PySem.ofString_length (toString i)
    exact decide_eq_true (by omega)
theorem tame_str {x:Str} (h:x.length≤n) (hc:PyData.strOk x=true):Tame (.str x) 1 n:=by
  refine⟨rfl,?_,by simpa only[lay] using hc,by simp[PyData.depth],by simpa only[PyData.bulk] using (show x.cps.size≤n from h)⟩
  simp only[PyData.leavesShort,List.all_eq_true,decide_eq_true_eq]
  intro c hm
  have z:c<1114112:=by
    unfold PyData.strOk at hc
    rw[← Array.all_toList,List.all_eq_true] at hc
    exact of_decide_eq_true (hc c hm)
  exact Nat.lt_trans z (by decide)
theorem tameL_nil:TameL [] 0 0:=⟨rfl,rfl,rfl,by simp[PyData.depthAll],by simp[PyData.bulkAll]⟩
theorem tameL_cons (h:Tame d k m) (l:TameL ds k n):TameL (d::ds) k (m+n+1):=by
  refine⟨?_,?_,?_,?_,?_⟩
  · simp only[PyData.showableAll,h.1,l.1,Bool.and_self]
  · simp only[PyData.leavesShortAll,h.2,l.2,Bool.and_self]
  · simp only[layL,h.3,l.3,Bool.and_self]
  · have:=h.4;have:=l.4
    simp only[PyData.depthAll]
    omega
  · have:=h.5;have:=l.5
    simp only[PyData.bulkAll]
    omega
theorem tame_lst (l:TameL ds k n):Tame (.list ds) (k+1) n:=by
  have:=l.4;have:=l.5
  refine⟨by simpa only[PyData.showable] using l.1,by simpa only[PyData.leavesShort] using l.2,by simpa only[PC.lay] using l.3,?_,?_⟩
  · simp only[PyData.depth];omega
  · simp only[PyData.bulk];omega
theorem tame_tup (l:TameL ds k n):Tame (.tuple ds) (k+1) n:=by
  have:=l.4;have:=l.5
  refine⟨by simpa only[PyData.showable] using l.1,by simpa only[PyData.leavesShort] using l.2,by simpa only[PC.lay] using l.3,?_,?_⟩
  · simp only[PyData.depth];omega
  · simp only[PyData.bulk];omega
theorem TameL.get (l:TameL ds k n) (h:d∈ds):Tame d k n:=by
  obtain⟨a,b,f,c,e⟩:=l
  induction ds with
  | nil=>cases h
  | cons x r ih=>
    simp only[PyData.showableAll,PyData.leavesShortAll,layL,Bool.and_eq_true] at a b f
    simp only[PyData.depthAll,PyData.bulkAll] at c e
    rcases List.mem_cons.mp h with z | z
    · subst z
      exact⟨a.1,b.1,f.1,by omega,by omega⟩
    · exact ih z a.2 b.2 f.2 (by omega) (by omega)
theorem Tame.shaped (t:Tame d k n) (hk:k≤64) (h:d.hasDict=false):SeqAt.shaped d=true:=by
  have:=t.depth
  unfold SeqAt.shaped
  rw[canLay_of d t.lay h,decide_eq_true (by omega)]
  rfl
theorem tameL_of: ∀ {ds:List PyData},(∀d∈ds,Tame d k m)→TameL ds k (ds.length * (m+1))
  | [],h=>tameL_nil.mono (by omega) (by omega)
  | d::ds,h=>by
    have z:=tameL_cons (h d (List.mem_cons_self ..)) (tameL_of fun x hx=>h x (List.mem_cons_of_mem _ hx))
    refine z.mono (Nat.le_refl _) ?_
    rw[List.length_cons,Nat.add_mul,Nat.one_mul]
    omega
end

section
variable {X : Cx}
def rRepr (K:PySem.W.Frag):List V→Hp→VK→Prop:=fun xs H Q=>
  ∃Z v d,xs= [v]∧One H∧Dat K Z H d v∧Tame d 40 50000∧Q (.str d.shown) H
theorem call_reprU (hg:GOk X) (hu:X.A.units+64<cLine):CallR X (.builtin "repr") (rRepr X.K):=by
  intro pins s σ H xs us Q I r h
  obtain⟨Z,v,d,rfl,o1,hd,t,q⟩:=h
  obtain⟨u,rfl,rv⟩:=vals1 r
  obtain⟨hp,k1,k2,k3⟩:=ground_of X H s
  obtain⟨as,hr',ns⟩:=Dat.readsIn I o1 k1 d v u hd rv
  have hd':=t.depth
  cases d with
  | none=>
    simp only[Dat] at hd
    subst hd
    cases (show _=Value.none from rv)
    exact P.repr_of_none ⟨.str _,H,I.tok _,⟨_,rfl⟩,q⟩
  | bool b=>
    simp only[Dat] at hd
    subst hd
    cases (show _=Value.bool b from rv)
    refine P.repr_of_bool ?_
    cases b with
    | true=>exact⟨.str _,H,I.tok _,⟨_,rfl⟩,q⟩
    | false=>exact⟨.str _,H,I.tok _,⟨_,rfl⟩,q⟩
  | int i=>
    simp only[Dat] at hd
    subst hd
    obtain⟨tk,rfl⟩:=(show ∃t,_=Value.int i t from rv)
    have sh:i.natAbs.log2<1920:=by simpa only[PyData.showable,decide_eq_true_eq] using t.show_
    exact P.repr_of_int sh ⟨.str _,H,I.tok _,⟨_,rfl⟩,q⟩
  | str x=>
    simp only[Dat] at hd
    subst hd
    obtain⟨tk,rfl⟩:=(show ∃t,_=Value.str x t from rv)
    exact P.repr_of_str ⟨.str _,H,I.tok _,⟨_,rfl⟩,q⟩ (by simpa only[PyData.shown] using t.len (by decide))
  | list ds=>
    obtain⟨a,ys,rfl,_⟩:=hd.lst
    cases (show _=Value.ref a from rv)
    exact repr_ref hg I k2 k3 hr' t.show_ ns (by omega) (t.len (by decide)) q
  | tuple ds=>
    obtain⟨a,ys,rfl,_⟩:=hd.tup
    cases (show _=Value.ref a from rv)
    exact repr_ref hg I k2 k3 hr' t.show_ ns (by omega) (t.len (by decide)) q
  | dict ds=>
    obtain⟨a,ys,rfl,_⟩:=hd.dct
    cases (show _=Value.ref a from rv)
    exact repr_ref hg I k2 k3 hr' t.show_ ns (by omega) (t.len (by decide)) q
theorem call_repr {k:Nat} (hg:GOk X) (hr:Room k X.A):CallR X (.builtin "repr") (rRepr X.K):=call_reprU hg hr.units
end
end PC

set_option Elab.async false
set_option linter.all false
set_option maxRecDepth 100000
set_option maxHeartbeats 2000000
namespace PC
open PySem PySem.Spec PyProof.Rows L2

section
variable {X : Cx}
theorem call_divmodW:CallR X (.builtin "divmod") (fun xs H Q=> ∃i j,xs= [.int i,.int j]∧CDivW i j∧
    ∀p,H p=none→Q (.ref p) (upd H p (.tup [.int (i / j),.int (i % j)]))):=by
  intro pins s σ H xs us Q I r h
  obtain⟨i,j,rfl,⟨h1,h2⟩,q⟩:=h
  obtain⟨u,w',rfl,⟨t,rfl⟩,⟨t',rfl⟩⟩:=vals2 r
  refine divmod_int (by omega) ?_ (.inl (PyProof.noPylong_of_log2 h2))
  have e1:i.fdiv j=i / j:=Int.fdiv_eq_ediv_of_nonneg i (by omega)
  have e2:i.fmod j=i % j:=Int.fmod_eq_emod_of_nonneg i (by omega)
  rw[e1,e2]
  refine⟨.ref s.heap.objs.size,_,I.laid (o:= .tup [.int (i / j),.int (i % j)]) (fun b o e=>Heap.get?_push_of_some _ e) (Nat.le_refl _)
    ⟨by rw[sizeLine_eq];simp,[.int (i / j) s.toks,.int (i % j) (s.toks+1)],.cons ⟨_,rfl⟩ (.cons ⟨_,rfl⟩ .nil),?_⟩,
    rfl,q _ (I.hok.fresh (Nat.le_refl _))⟩
  exact⟨_,Heap.get?_push_size s.heap rfl,rfl,0,rfl⟩

theorem rd_lst {pins:List (Addr×Obj)} {σ:L2.St} {H:Hp} {s:Shared} {a:Addr} {xs:List V} (I:Inv X pins σ H s) (h:Rd H a (.lst xs)):
    ∃(its:List Value) (n:Nat),Vals xs its∧xs.length≤sizeLine∧
      s.heap.get? a=some { cls:= .type "list",data:= .seq its.toArray n }:=by
  obtain⟨z,its,n,r,e⟩:=(show ObjOk X.prog X.w H s.heap a (.lst xs) from h.ok I.hok)
  exact⟨its,n,r,z,e⟩
def rCatL:R2:=fun x y H Q=> ∃l b xs zs,x= .ref l∧y= .ref b∧Rd H l (.lst xs)∧Rd H b (.lst zs)∧
  xs.length+zs.length≤sizeLine∧ ∀p,H p=none→Q (.ref p) (upd H p (.lst (xs++zs)))
theorem op_catL:OpR X (binaryOp .Add) rCatL:=by
  intro pins s σ H x y v u Q I rx ry h
  obtain⟨l,b,xs,zs,rfl,rfl,hH,hB,hz,q⟩:=h
  cases (show v=Value.ref l from rx)
  cases (show u=Value.ref b from ry)
  obtain⟨its,n,r,hl,e⟩:=rd_lst I hH
  obtain⟨its2,n2,r2,hl2,e2⟩:=rd_lst I hB
  have le1:=r.length
  have le2:=r2.length
  refine PySem.P.add_list e e2 ?_ (by rw[List.size_toArray,List.size_toArray];omega)
  have ea:its.toArray++its2.toArray=(its++its2).toArray:=by simp
  rw[ea]
  exact⟨.ref _,_,I.lnew (t':=s.toks) (r.append r2) (by rw[List.length_append];omega),rfl,q _ I.fresh⟩
def rCatT0 (K:PySem.W.Frag):R2:=fun x y H Q=> ∃a b ys,x= .ref a∧y= .ref b∧SqT K H a []∧SqT K H b ys∧Q (.ref b) H
theorem op_catT0:OpR X (binaryOp .Add) (rCatT0 X.K):=by
  intro pins s σ H x y v u Q I rx ry h
  obtain⟨a,b,ys,rfl,rfl,ha,hb,q⟩:=h
  cases (show v=Value.ref a from rx)
  cases (show u=Value.ref b from ry)
  obtain⟨its,r1,p1,_⟩:=I.tuple ha
  obtain⟨its2,r2,p2,_⟩:=I.tuple hb
  obtain⟨⟨cls,dd,data,sl⟩,ho,hc,n,hd⟩:=id p1
  obtain⟨⟨cls2,dd2,data2,sl2⟩,ho2,hc2,n2,hd2⟩:=id p2
  simp only at hc hd hc2 hd2
  subst hc hd hc2 hd2
  cases r1
  exact concat_meets ⟨_,ho,rfl⟩ ⟨_,ho2,rfl⟩ noFill_tuple_add seq_tuple_add PySem.F.slot_tuple_add PySem.F.entry_tuple_add
    (PySem.F.args_tuple_add_2 _ _) (tuple_addW0 a b _ _ n n2 dd dd2 sl sl2 rfl) ⟨ho,ho2,⟨.ref b,H,I,rfl,q⟩⟩
def rAddI:R2:=rI0 fun i j=> .int (i+j)
def rAddS:R2:=fun x y H Q=> ∃i j,x= .str i∧y= .str j∧i.length+j.length≤sizeLine∧Q (.str (i++j)) H
def rAdd (K:PySem.W.Frag):R2:=fun x y H Q=>rAddI x y H Q∨rAddS x y H Q∨rCatL x y H Q∨rCatT0 K x y H Q∨rCatT K x y H Q
theorem op_addA:OpR X (binaryOp .Add) (rAdd X.K):=OpR.or op_add (OpR.or op_add_str (OpR.or op_catL (OpR.or op_catT0 op_catT)))

theorem getItem_whole {prog:Program} {w:World} {A:Around} {E:Value→Shared→Prop} {s:Shared} {t sl:Addr} {items:Array Value} {vl vu:Value}
    {lo hi:Option Int} {Q:Value→Shared→Prop} (ht:IsTup s.heap t items) (hs:s.heap.IsSliceOf sl vl vu .none)
    (pl:IsPart vl lo) (pu:IsPart vu hi) (hw:HT.sIx items.size 0 lo=0∧HT.sIx items.size items.size hi=items.size)
    (h:Q (.ref t) s) (hsz:items.size≤sizeLine):wpAny (model prog w) A (getItem (.ref t) (.ref sl)) Q E s:=by
  obtain⟨os,hos,hcs,hds⟩:=id hs
  have hTs:s.TypeIs (.ref sl) "slice" :=⟨os,hos,hcs⟩
  unfold getItem
  try with_reducible refine wpAny_holding ?_
  first | refine wpAny_bind (wpAny_pure ?_) | skip
  refine wpAny_bind (wpAny_sequenceKey ht.typeIs (by decide) ?_)
  refine wpAny_bind (wpAny_callSpecial?_slot (name:=Str.ofString "__getitem__") ht.typeIs PyProof.Rows.slot_tuple_getitem
    (wpAny_call_entry PyProof.Rows.slot_tuple_getitem ht.typeIs entry_tuple_getitem ?_ (args_tuple_getitem _ _)))
  show wpAny _ _ (Builtin.Tuple.tupleItemsOf (.ref t) >>= _) _ _ s
  refine wpAny_bind (tupleItemsOf_ ht ?_)
  refine wpAny_bind (wpAny_typeOf hTs ?_)
  rw[if_pos (by decide)]
  refine wpAny_bind (HT.sliceApplied_gen hs pl pu ?_)
  have hyes:((((HT.sIx items.size 0 lo:Nat):Int) == 0 && (1:Int) == 1 &&
      (HT.sIx items.size items.size hi - HT.sIx items.size 0 lo) == items.size)=true):=by
    rw[hw.1,hw.2];simp
  show wpAny _ _ (if (((HT.sIx items.size 0 lo:Nat):Int) == 0 && (1:Int) == 1 &&
      (HT.sIx items.size items.size hi - HT.sIx items.size 0 lo) == items.size)=true then _ else _) _ _ s
  rw[if_pos hyes]
  show wpAny _ _ (Builtin.Tuple.tupleIsExact (.ref t) >>= _) _ _ s
  unfold Builtin.Tuple.tupleIsExact
  refine wpAny_bind (wpAny_bind (wpAny_typeOf ht.typeIs (wpAny_pure ?_)))
  rw[if_pos (by decide)]
  first
    | exact⟨_,rfl,wpAny_pure h⟩
    | exact wpAny_bind (wpAny_pure ⟨_,rfl,wpAny_pure h⟩)
    | exact wpAny_pure ⟨_,rfl,wpAny_pure h⟩
    | (wp_walk;exact⟨_,rfl,wpAny_pure h⟩)
def rSlT0 (K:PySem.W.Frag):V→Option Int→Option Int→Hp→VK→Prop:=fun x lo hi H Q=> ∃a xs,x= .ref a∧SqT K H a xs∧
  (HT.sIx xs.length 0 lo=0∧HT.sIx xs.length xs.length hi=xs.length)∧Q (.ref a) H
theorem sl_tup0:SlR X (rSlT0 X.K):=by
  intro pins s σ H x v vl vu lo hi sl Q I rx hs pl pu h
  obtain⟨a,xs,rfl,hx,hw,q⟩:=h
  cases (show v=Value.ref a from rx)
  obtain⟨its,r,ht,hz⟩:=I.tuple hx
  have hlen:its.toArray.size=xs.length:=by rw[List.size_toArray];exact r.length.symm
  exact⟨"tuple",_,PyProof.Rows.slot_tuple_getitem.lookup,ht.typeIs,
    getItem_whole ht hs pl pu (by rw[hlen];exact hw) ⟨.ref a,H,I,rfl,q⟩ (by rw[hlen];exact hz)⟩
def rSl (K:PySem.W.Frag):V→Option Int→Option Int→Hp→VK→Prop:=fun x lo hi H Q=>
  rSlL K x lo hi H Q∨rSlT0 K x lo hi H Q∨rSlT K x lo hi H Q∨rSlS x lo hi H Q
theorem sl_any:SlR X (rSl X.K):=SlR.or sl_list (SlR.or sl_tup0 (SlR.or sl_tup sl_str))

def rLen (K:PySem.W.Frag):List V→Hp→VK→Prop:=fun xs H Q=>
  (∃p ys,xs= [.ref p]∧(SqL K H p ys∨SqT K H p ys)∧Q (.int ys.length) H)∨(∃z,xs= [.str z]∧z.length≤sizeLine∧Q (.int z.length) H)
theorem call_lenA:CallR X (.builtin "len") (rLen X.K):=CallR.or call_len_seq call_len_str
def rList (K:PySem.W.Frag):List V→Hp→VK→Prop:=fun xs H Q=> ∃p ys,xs= [.ref p]∧(SqL K H p ys∨SqT K H p ys)∧ ∀l,H l=none→Q (.ref l) (upd H l (.lst ys))
theorem call_listA:CallR X (.type "list") (rList X.K):=call_list_of
def rTuple (K:PySem.W.Frag):List V→Hp→VK→Prop:=fun xs H Q=> ∃p ys,xs= [.ref p]∧
  ((SqL K H p ys∧ ∀l,H l=none→Q (.ref l) (upd H l (.tup ys)))∨(SqT K H p ys∧Q (.ref p) H))
theorem call_tupleA:CallR X (.type "tuple") (rTuple X.K):=call_tuple_of
def rEqDat (K:PySem.W.Frag):R2:=fun x y H Q=> ∃Z d e,One H∧Dat K Z H d x∧Dat K Z H e y∧SeqAt.shaped d=true∧SeqAt.shaped e=true∧Q (.bl (PyData.eqv d e)) H
theorem op_eqDatU (hu:X.A.units+64<cLine):OpR X (compareOp .Eq) (rEqDat X.K):=by
  intro pins s σ H x y v u Q I rx ry h
  obtain⟨Z,d,e,o1,hd,he,sd,se,q⟩:=h
  obtain⟨as,r1,_⟩:=Dat.reads I o1 d x v hd rx
  obtain⟨bs,r2,_⟩:=Dat.reads I o1 e y u he ry
  exact SeqAt.compareEq_shaped r1 r2 sd se hu ⟨.bl _,H,I,rfl,q⟩
def rNeDat (K:PySem.W.Frag):R2:=fun x y H Q=> ∃Z d e,One H∧Dat K Z H d x∧Dat K Z H e y∧SeqAt.shaped d=true∧SeqAt.shaped e=true∧Q (.bl (!PyData.eqv d e)) H
theorem op_neDatU (hu:X.A.units+64<cLine):OpR X (compareOp .NotEq) (rNeDat X.K):=by
  intro pins s σ H x y v u Q I rx ry h
  obtain⟨Z,d,e,o1,hd,he,sd,se,q⟩:=h
  obtain⟨as,r1,_⟩:=Dat.reads I o1 d x v hd rx
  obtain⟨bs,r2,_⟩:=Dat.reads I o1 e y u he ry
  exact SeqAt.compareNe_shaped r1 r2 sd se hu ⟨.bl _,H,I,rfl,q⟩
def rEqA (K:PySem.W.Frag):R2:=fun x y H Q=>rEq x y H Q∨rEqDat K x y H Q
def rNeA (K:PySem.W.Frag):R2:=fun x y H Q=>rNe x y H Q∨rNeDat K x y H Q
theorem op_eqAU (hu:X.A.units+64<cLine):OpR X (compareOp .Eq) (rEqA X.K):=OpR.or op_eq (op_eqDatU hu)
theorem op_eqA {k:Nat} (hr:Room k X.A):OpR X (compareOp .Eq) (rEqA X.K):=op_eqAU hr.units
theorem op_neAU (hu:X.A.units+64<cLine):OpR X (compareOp .NotEq) (rNeA X.K):=OpR.or op_ne (op_neDatU hu)
theorem op_neA {k:Nat} (hr:Room k X.A):OpR X (compareOp .NotEq) (rNeA X.K):=op_neAU hr.units
def rInC:R2:=fun x y H Q=> ∃(c:Nat) (z:Str),x= .str ⟨#[c]⟩∧y= .str z∧Q (.bl (decide (c∈z.cps.toList))) H
def rNotInC:R2:=fun x y H Q=> ∃(c:Nat) (z:Str),x= .str ⟨#[c]⟩∧y= .str z∧Q (.bl (!decide (c∈z.cps.toList))) H
def rInA (K:PySem.W.Frag):R2:=fun x y H Q=>rInC x y H Q∨rIn K false x y H Q
def rNotInA (K:PySem.W.Frag):R2:=fun x y H Q=>rNotInC x y H Q∨rIn K true x y H Q
end

section
variable {K : PySem.W.Frag} {p : Addr} {Z : List Addr} {H H' : Hp} {Q : VK} {x y : V} {d e : PyData} {ds es : List PyData}
structure Wd (p:Addr) (Z:List Addr) (H:Hp):Prop where
  one:One H
  occ: ∀b∈Z,H b≠none
  mem:p∈Z
theorem Wd.ne {n:Addr} (h:Wd p Z H) (hn:H n=none):n ∉ Z:=fun z=>h.occ n z hn
theorem Wd.up (h:Wd p Z H) (r:R p H H'):Wd p Z H':=by
  refine⟨r.one h.one,fun b hb=> ?_,h.mem⟩
  by_cases z:b=p
  · subst z
    exact r.occ (h.occ _ hb)
  · cases e:H b with
    | none=>exact absurd e (h.occ b hb)
    | some o=>
      rw[r.keep b o z e]
      exact fun w=>nomatch w
theorem Dat.to {v:V} (h:Dat K Z H d v) (w:Wd p Z H) (r:R p H H'):Dat K Z H' d v:=Dat.up r w.mem d v h
theorem DatL.to {v:List V} (h:DatL K Z H ds v) (w:Wd p Z H) (r:R p H H'):DatL K Z H' ds v:=DatL.up r w.mem ds v h
theorem s_add_int {i j:Int} (q:Q (.int (i+j)) H):rAdd K (.int i) (.int j) H Q:= .inl ⟨i,j,rfl,rfl,q⟩
def sliD (xs:List PyData) (lo hi:Option Int):List PyData:=(xs.drop (HT.sIx xs.length 0 lo)).take (HT.sIx xs.length xs.length hi - HT.sIx xs.length 0 lo)
theorem DatL.cut {vs:List V} {lo hi:Option Int} (l:DatL K Z H ds vs):DatL K Z H (sliD ds lo hi) (cutV vs lo hi):=by
  unfold sliD cutV
  rw[l.length]
  exact (l.drop _).take _
def tyD:PyData→String
  | .none=> "NoneType" | .bool _=> "bool" | .int _=> "int" | .str _=> "str" | .list _=> "list" | .tuple _=> "tuple" | .dict _=> "dict"
theorem Dat.ty (h:Dat K Z H d x):TyX K H x (.type (tyD d)):=by
  cases d with
  | none=>simp only[Dat] at h;subst h;exact .base .non
  | bool b=>simp only[Dat] at h;subst h;exact .base (.bl b)
  | int b=>simp only[Dat] at h;subst h;exact .base (.int b)
  | str b=>simp only[Dat] at h;subst h;exact .base (.str b)
  | list ds=>
    obtain⟨a,xs,rfl,_,h,_⟩:=h.lst
    rcases h with h | ⟨o,h⟩
    · exact .base (.lst h)
    · exact .base (.frz h)
  | tuple ds=>
    obtain⟨a,xs,rfl,_,h,_⟩:=h.tup
    rcases h with (h | ⟨o,h⟩) | ⟨o,_,_,h,c,_⟩
    · exact .base (.tup h)
    · exact .fTuple h
    · exact .kTuple h c
  | dict ds=>
    obtain⟨a,xs,rfl,_,h,_⟩:=h.dct
    exact .base (.dK h)
def isD (d:PyData) (T:String):Bool:=tyD d == T || (T == "int" && tyD d == "bool")
theorem kit_table: ∀a∈ ["NoneType","bool","int","str","list","tuple","dict"],∀T∈ ["int","bool","str","list","tuple","dict"],
    kitB a T=some (a == T || (T == "int" && a == "bool")):=by decide +kernel
theorem kit_isD (d:PyData) {T:String} (hT:T= "int" ∨T= "bool" ∨T= "str" ∨T= "list" ∨T= "tuple" ∨T= "dict"):kitB (tyD d) T=some (isD d T):=by
  refine kit_table _ ?_ T ?_
  · cases d <;> simp[tyD]
  · rcases hT with rfl | rfl | rfl | rfl | rfl | rfl <;> simp
theorem s_isi {T:String} (hx:Dat K Z H d x) (hT:T= "int" ∨T= "bool" ∨T= "str" ∨T= "list" ∨T= "tuple" ∨T= "dict") (q:Q (.bl (isD d T)) H):rIsi K [x,.ty T] H Q:=
  ⟨x,.ty T,_,_,isD d T,rfl,.ty T,hx.ty,kit_ty (kit_isD d hT),q⟩
theorem s_eq_int {i j:Int} (q:Q (.bl (decide (i=j))) H):rEqA K (.int i) (.int j) H Q:= .inl ⟨rfl,by
  have e:decide (V.int i=V.int j)=decide (i=j):=by simp
  rw[e];exact q⟩
theorem s_ne_int {i j:Int} (q:Q (.bl (!decide (i=j))) H):rNeA K (.int i) (.int j) H Q:= .inl ⟨rfl,by
  have e:decide (V.int i=V.int j)=decide (i=j):=by simp
  rw[e];exact q⟩
theorem s_eq_str {i j:Str} (q:Q (.bl (decide (i=j))) H):rEqA K (.str i) (.str j) H Q:= .inl ⟨rfl,by
  have e:decide (V.str i=V.str j)=decide (i=j):=by simp
  rw[e];exact q⟩
theorem s_ne_str {i j:Str} (q:Q (.bl (!decide (i=j))) H):rNeA K (.str i) (.str j) H Q:= .inl ⟨rfl,by
  have e:decide (V.str i=V.str j)=decide (i=j):=by simp
  rw[e];exact q⟩
theorem s_in_c {c:Nat} {z:Str} (q:Q (.bl (decide (c∈z.cps.toList))) H):rInA K (.str ⟨#[c]⟩) (.str z) H Q:= .inl ⟨c,z,rfl,rfl,q⟩
theorem s_notIn_c {c:Nat} {z:Str} (q:Q (.bl (!decide (c∈z.cps.toList))) H):rNotInA K (.str ⟨#[c]⟩) (.str z) H Q:= .inl ⟨c,z,rfl,rfl,q⟩
end
end PC

set_option Elab.async false
set_option linter.all false
set_option maxRecDepth 100000
set_option maxHeartbeats 2000000
namespace PC
open PySem PySem.Spec PyProof.Rows L2

def LcG (J:It) (g:TG) (tt:TT) (te:TE) (vs:List Nat) (σ:L2.St) (H1:Hp) (Q:VK):Prop:=
  ∀ D, H1 D = none → ∃ W : Nat → Nat → Hp → Prop, (∃ m, W 0 m (upd H1 D (.lst []))) ∧ ∀ i m H, W i m H →
        (J.stop i H∧Q (.ref D) H)∨(J.go i H∧ ∃Nx:Hp→Prop,(∀H',Nx H'→ ∃m',m'<m∧W (i+1) m' H')∧
          ∀x H',J.yld i H x H'→g x (wipe σ vs) H' fun σ2 H2=>wipe σ2 vs=wipe σ vs∧tt σ2 H2 fun b H3=>
            if b=true then te σ2 H3 fun y H4=> ∃acc,H4 D=some (.lst acc)∧acc.length<sizeLine∧Nx (upd H4 D (.lst (acc++ [y]))) else Nx H3)
def ForG (J:It) (g:TG) (tb:TS) (D:Ends) (σ:L2.St) (H1:Hp):Prop:= ∃W:Nat→Nat→L2.St→Hp→Prop,(∃m,W 0 m σ H1)∧ ∀i m σ H,W i m σ H→
    (J.stop i H∧D.nx σ H)∨(J.go i H∧ ∃N:L2.St→Hp→Prop,(∀σ' H',N σ' H'→ ∃m',m'<m∧W (i+1) m' σ' H')∧
      ∀x H',J.yld i H x H'→g x σ H' fun σ2 H2=>tb { D with nx:=N,ct:=N,bk:=D.nx } σ2 H2)
def NewL (xs:List V) (H:Hp) (Q:VK):Prop:=xs.length≤sizeLine∧ ∀p,H p=none→Q (.ref p) (upd H p (.lst xs))
def NewT (xs:List V) (H:Hp) (Q:VK):Prop:=xs.length≤sizeLine∧ ∀p,H p=none→Q (.ref p) (upd H p (.tup xs))
section
variable {σ : L2.St} {H : Hp} {Q : VK} {D : Ends} {v : V} {te ta tb tc : TE} {t u : TS} {tt t1 t2 : TT} {tr : TA} {QA : List V → Hp → Prop} {QT : Bool → Hp → Prop}
theorem s_var {i:Nat} (h:σ[i]?=some (some v)) (q:Q v H):tVar i σ H Q:=⟨v,h,q⟩
theorem s_c (q:Q v H):tC v σ H Q:=q
theorem s_op {r:R2} (q:ta σ H fun x H1=>tb σ H1 fun y H2=>r x y H2 Q):tOp r ta tb σ H Q:=q
theorem s_un {r:V→Hp→VK→Prop} (q:ta σ H fun x H1=>r x H1 Q):tUn r ta σ H Q:=q
theorem s_rI0 {g:Int→Int→V} {i j:Int} (q:Q (g i j) H):rI0 g (.int i) (.int j) H Q:=⟨i,j,rfl,rfl,q⟩
theorem s_rI {C:Int→Int→Prop} {g:Int→Int→V} {i j:Int} (c:C i j) (q:Q (g i j) H):rI C g (.int i) (.int j) H Q:=⟨i,j,rfl,rfl,c,q⟩
theorem s_rU {g:Int→V} {i:Int} (q:Q (g i) H):rU g (.int i) H Q:=⟨i,rfl,q⟩
theorem s_nil (q:QA [] H):tNil σ H QA:=q
theorem s_cons (q:te σ H fun x H1=>tr σ H1 fun xs H2=>QA (x::xs) H2):tCons te tr σ H QA:=q
theorem s_cb {r:List V→Hp→VK→Prop} (q:tr σ H fun vs H1=>r vs H1 Q):tCB r tr σ H Q:=q
theorem s_ck {r:List V→List V→Hp→VK→Prop} {tk:TA} (q:tr σ H fun vs H1=>tk σ H1 fun zs H2=>r vs zs H2 Q):tCK r tr tk σ H Q:=q
theorem s_if (q:tt σ H fun c H1=>if c=true then ta σ H1 Q else tb σ H1 Q):tIf tt ta tb σ H Q:=q
theorem s_andV (q:ta σ H fun x H1=> ∃c,x= .bl c∧if c=true then tb σ H1 Q else Q (.bl false) H1):tAndV ta tb σ H Q:=q
theorem s_orV (q:ta σ H fun x H1=> ∃c,x= .bl c∧if c=true then Q (.bl true) H1 else tb σ H1 Q):tOrV ta tb σ H Q:=q
theorem s_notV (q:ta σ H fun x H1=> ∃c,x= .bl c∧Q (.bl (!c)) H1):tNotV ta σ H Q:=q
theorem s_chain {r r':R2} (q:ta σ H fun x H1=>tb σ H1 fun y H2=>r x y H2 fun z H3=> ∃k,z= .bl k∧
    (if k=true then tc σ H3 fun w' H4=>r' y w' H4 Q else Q (.bl false) H3)):tChain r r' ta tb tc σ H Q:=q
theorem s_lst (q:tr σ H fun xs H1=>NewL xs H1 Q):tLst tr σ H Q:=q
theorem s_tup (q:tr σ H fun xs H1=>NewT xs H1 Q):tTup tr σ H Q:=q
theorem s_slice {r:V→Option Int→Option Int→Hp→VK→Prop} {tl th:TO} (q:te σ H fun x H1=>tl σ H1 fun l H2=>th σ H2 fun u H3=>r x l u H3 Q):tSl r te tl th σ H Q:=q
theorem s_part {Qo:Option Int→Hp→Prop} (q:te σ H fun x H1=> ∃i,x= .int i∧Qo (some i) H1):tPart te σ H Qo:=q
theorem s_noPart {Qo:Option Int→Hp→Prop} (q:Qo none H):tNoPart σ H Qo:=q
theorem s_test (q:te σ H fun x H'=> ∃k,x= .bl k∧QT k H'):tTest te σ H QT:=q
theorem s_tB (q:te σ H fun x H'=> ∃k,x= .bl k∧QT k H'):tB te σ H QT:=q
theorem s_not (q:tt σ H fun c H1=>QT (!c) H1):tNot tt σ H QT:=q
theorem s_and (q:t1 σ H fun c H1=>if c=true then t2 σ H1 QT else QT false H1):tAnd t1 t2 σ H QT:=q
theorem s_or (q:t1 σ H fun c H1=>if c=true then QT true H1 else t2 σ H1 QT):tOr t1 t2 σ H QT:=q
theorem s_seq (q:t { D with nx:=u D } σ H):tSeq t u D σ H:=q
theorem s_next (q:D.nx σ H):tNext D σ H:=q
theorem s_ret (q:te σ H D.rt):tRet te D σ H:=q
theorem s_retN (q:D.rt .non H):tRetN D σ H:=q
theorem s_drop (q:te σ H fun _ H1=>D.nx σ H1):tDrop te D σ H:=q
theorem s_ifS (q:tt σ H fun b H1=>if b=true then t D σ H1 else u D σ H1):tIfS tt t u D σ H:=q
theorem s_asg {g:TG} (q:te σ H fun x H1=>g x σ H1 D.nx):tAsg te g D σ H:=q
theorem s_par {i j:Nat} (q:tr σ H fun vs H1=> ∃v w,vs= [v,w]∧D.nx ((σ.set i (some v)).set j (some w)) H1):tPar i j tr D σ H:=q
theorem s_gname {i:Nat} {N:L2.St→Hp→Prop} (q:N (σ.set i (some v)) H):gName i v σ H N:=q
end

section
variable {J : It} {n : Nat} {G : Hp → Prop} {Y : Nat → Hp → V → Hp → Prop} {K : PySem.W.Frag} {p : Addr} {Z : List Addr}
theorem Wd.more {D:Addr} {H:Hp} (w:Wd p Z H) (hD:H D≠none):Wd p (D::Z) H:=
  ⟨w.one,fun b hb=>(List.mem_cons.mp hb).elim (fun z=>z ▸ hD) (w.occ b),List.mem_cons_of_mem _ w.mem⟩
theorem R.wd {D:Addr} {H H':Hp} (r:R p H H') (hD:H D≠none) (hp:D≠p):H' D=H D:=by
  cases e:H D with
  | none=>exact absurd e hD
  | some o=>exact r.keep D o hp e
end

theorem bt_max:bootBuiltins "max" =some (.builtin "max"):=by decide +kernel
theorem bt_min:bootBuiltins "min" =some (.builtin "min"):=by decide +kernel
theorem bt_abs:bootBuiltins "abs" =some (.builtin "abs"):=by decide +kernel
theorem bt_divmod:bootBuiltins "divmod" =some (.builtin "divmod"):=by decide +kernel
theorem bt_len:bootBuiltins "len" =some (.builtin "len"):=by decide +kernel
theorem bt_isinstance:bootBuiltins "isinstance" =some (.builtin "isinstance"):=by decide +kernel
theorem bt_repr:bootBuiltins "repr" =some (.builtin "repr"):=by decide +kernel
theorem bt_sum:bootBuiltins "sum" =some (.builtin "sum"):=by decide +kernel
theorem bt_all:bootBuiltins "all" =some (.builtin "all"):=by decide +kernel
theorem bt_sorted:bootBuiltins "sorted" =some (.builtin "sorted"):=by decide +kernel
theorem bt_int:bootBuiltins "int" =some (.type "int"):=by decide +kernel
theorem bt_bool:bootBuiltins "bool" =some (.type "bool"):=by decide +kernel
theorem bt_list:bootBuiltins "list" =some (.type "list"):=by decide +kernel
theorem bt_tuple:bootBuiltins "tuple" =some (.type "tuple"):=by decide +kernel
theorem ite_b {b:Bool} {A B:Prop} (h1:b=true→A) (h0:b=false→B):if b=true then A else B:=by
  cases b with
  | true=>exact iteT (h1 rfl)
  | false=>exact iteF (h0 rfl)
theorem ite_d {c A B:Prop} [Decidable c] (h1:c→A) (h0: ¬ c→B):if decide c=true then A else B:=
  ite_b (fun h=>h1 (of_decide_eq_true h)) (fun h=>h0 (of_decide_eq_false h))
section
variable {X : Cx}
theorem ix_any:IxR X (rIx X.K):=ix_seq
theorem op_modA:OpR X (binaryOp .Mod) (rI (fun _ j=>0<j) fun i j=> .int (i % j)):=op_mod
theorem op_fdivA:OpR X (binaryOp .FloorDiv) (rI CDivW fun i j=> .int (i / j)):=op_fdivW
end
section
variable {K : PySem.W.Frag} {σ : L2.St} {H : Hp} {N : L2.St → Hp → Prop} {Q : VK} {p : Addr} {x y v : V} {a b : Int} {Z : List Addr}
theorem s_gcons {t:TG} {u:TGs} {r:List V} (q:t v σ H fun σ' H'=>u r σ' H' N):gCons t u (v::r) σ H N:=⟨v,r,rfl,q⟩
theorem s_gnil (q:N σ H):gNil [] σ H N:=⟨rfl,q⟩
theorem s_gsub {to ti:TE} {t:TSet} (q:to σ H fun o H1=>ti σ H1 fun i H2=>t o i v H2 fun H3=>N σ H3):gSub to ti t v σ H N:=q
theorem s_gtup {n:Nat} {t:TGs} {xs:List V} (h:SqT K H p xs) (hl:xs.length=n) (q:t xs σ H N):gTup K n t (.ref p) σ H N:=⟨p,xs,rfl,h,hl,q⟩
theorem s_pot0 (e:H p=some (.lst [x,y])) (q:Q x H):rIx K (.ref p) (.int 0) H Q:= .inl ⟨p,[x,y],0,x,rfl,rfl,.inl (.inl e),atI_nat (j:=0) rfl,q⟩
theorem s_pot1 (e:H p=some (.lst [x,y])) (q:Q y H):rIx K (.ref p) (.int 1) H Q:= .inl ⟨p,[x,y],1,y,rfl,rfl,.inl (.inl e),atI_nat (j:=1) rfl,q⟩
theorem s_pset0 {N:Hp→Prop} (e:H p=some (.lst [x,y])) (q:N (upd H p (.lst [v,y]))):rSetL (.ref p) (.int 0) v H N:=⟨p,[x,y],0,0,rfl,rfl,e,rfl,q⟩
theorem s_pset1 {N:Hp→Prop} (e:H p=some (.lst [x,y])) (q:N (upd H p (.lst [x,v]))):rSetL (.ref p) (.int 1) v H N:=⟨p,[x,y],1,1,rfl,rfl,e,rfl,q⟩
theorem s_script {ns:List Int} {i:Nat} (h:SqL K H p (ns.map V.int)) (hi:i<ns.length) (q: ∀z,ns[i]?=some z→Q (.int z) H):rIx K (.ref p) (.int i) H Q:=by
  refine .inl ⟨p,_,i,.int ns[i],rfl,rfl,h,atI_nat (j:=i) (by rw[List.getElem?_map,List.getElem?_eq_getElem hi];rfl),q _ (List.getElem?_eq_getElem hi)⟩
end
section
variable {K : PySem.W.Frag} {α β : Type}
def pick (perm:List Nat) (xs:List α):List α:=perm.filterMap (xs[·]?)
def kwg (a b:Nat) (perm:List Nat) (us ws:List α):List α:=if us.length=a∧ws.length=b then pick perm (us++ws) else []
theorem pick_vals {xs:List V} {us:List Value} (r:Vals xs us): ∀perm:List Nat,Vals (pick perm xs) (pick perm us)
  | []=> .nil
  | i::perm=>by
    have ih:=pick_vals r perm
    unfold pick at ih ⊢
    rw[List.filterMap_cons,List.filterMap_cons]
    cases e:xs[i]? with
    | none=>rw[r.none_of e];exact ih
    | some x=>
      obtain⟨u,hu,ru⟩:=r.get e
      rw[hu]
      exact .cons ru ih
theorem kb_of {x qual:Str} {st:Stmt} {f:Addr} {fd:FuncData} {ps ks:List Str} {a b:Nat} {perm:List Nat} (F:Fun K x qual st f fd) (h0:ps≠ [])
    (h: ∀(kV doc pm:Value) (an:Option Addr) (cdv ct:Value) (us ws:List Value),us.length=a→ws.length=b→
      bindArgs (PySem.W.fnOf x qual (defArgs st) (defBody st) (defScope st) .none kV doc pm an cdv ct) ⟨us,ks.zip ws⟩=pure (ps.zip (pick perm (us++ws)))):
    KBinds K fd ps ks (kwg a b perm) (kwg a b perm):=by
  obtain⟨oc,od,kV,doc,pm,an,cdv,ct,osl,rfl,lk,hcd⟩:=F.ex
  refine⟨fun s us ws _ hl=> ?_,fun {vs us zs ws} r z=> ?_⟩
  · by_cases c:us.length=a∧ws.length=b
    · unfold kwg
      rw[if_pos c]
      exact .of_eq (h kV doc pm an cdv ct us ws c.1 c.2)
    · unfold kwg at hl
      rw[if_neg c] at hl
      exact absurd (List.length_eq_zero_iff.mp hl.symm) h0
  · unfold kwg
    by_cases c:us.length=a∧ws.length=b
    · rw[if_pos c,if_pos ⟨by rw[r.length];exact c.1,by rw[z.length];exact c.2⟩]
      exact pick_vals (r.append z) perm
    · rw[if_neg c,if_neg (fun q=>c ⟨by rw[← r.length];exact q.1,by rw[← z.length];exact q.2⟩)]
      exact .nil
end

theorem cmul_r {i j:Int} (h: -18446744073709551616<j) (h':j<18446744073709551616):CMul i j:= .inr ⟨h,h'⟩
theorem cmul_l {i j:Int} (h: -18446744073709551616<i) (h':i<18446744073709551616):CMul i j:= .inl ⟨h,h'⟩
theorem cdw {i j:Int} (h:0<j) (h':j<18446744073709551616):CDivW i j:=wide_div h (b:=64) (by omega) (by decide) (by decide)
theorem cpow {i j:Int} (h:0≤j) (h':j≤1000000) (h'':i.natAbs<18446744073709551616):CPow i j:=⟨h,h',h''⟩
section
variable {K : PySem.W.Frag} {H : Hp} {Q : VK}
end

section
variable {J : It} {n : Nat} {G : Hp → Prop} {Y : Nat → Hp → V → Hp → Prop} {K : PySem.W.Frag} {p : Addr} {Z : List Addr} {gi : Nat} {te : TE} {vs : List Nat} {σ : L2.St} {H1 : Hp} {Q : VK}
theorem s_yes {σ:L2.St} {H:Hp} {QT:Bool→Hp→Prop} (q:QT true H):tYes σ H QT:=q
end
section
variable {K : PySem.W.Frag} {p : Addr} {Z : List Addr} {H : Hp} {Q : VK} {x : V} {d : PyData}
theorem Dat.str {z:Str} (h:Dat K Z H (.str z) x):x= .str z:=by simpa only[Dat] using h
theorem Dat.int {z:Int} (h:Dat K Z H (.int z) x):x= .int z:=by simpa only[Dat] using h
theorem Dat.bool {z:Bool} (h:Dat K Z H (.bool z) x):x= .bl z:=by simpa only[Dat] using h
end
theorem sl_of {n:Nat} (h:n≤50000):n≤sizeLine:=by rw[sizeLine_eq];omega
theorem sl_lt {n:Nat} (h:n≤50000):n<sizeLine:=by rw[sizeLine_eq];omega

section
variable {X : Cx} {K : PySem.W.Frag} {k : Nat}
theorem kx_add (h:X.K=K):OpR X (binaryOp .Add) (rAdd K):=by subst h;exact op_addA
theorem kx_ix (h:X.K=K):IxR X (rIx K):=by subst h;exact ix_any
theorem kx_sl (h:X.K=K):SlR X (rSl K):=by subst h;exact sl_any
theorem kx_len (h:X.K=K):CallR X (.builtin "len") (rLen K):=by subst h;exact call_lenA
theorem kx_list (h:X.K=K):CallR X (.type "list") (rList K):=by subst h;exact call_listA
theorem kx_tuple (h:X.K=K):CallR X (.type "tuple") (rTuple K):=by subst h;exact call_tupleA
theorem kx_eq (h:X.K=K) (hr:Room k X.A):OpR X (compareOp .Eq) (rEqA K):=by subst h;exact op_eqA hr
theorem kx_ne (h:X.K=K) (hr:Room k X.A):OpR X (compareOp .NotEq) (rNeA K):=by subst h;exact op_neA hr
theorem kx_repr (h:X.K=K) (hg:GOk X) (hr:Room k X.A):CallR X (.builtin "repr") (rRepr K):=by subst h;exact call_repr hg hr
theorem kx_neU (h:X.K=K) (hu:X.A.units+64<cLine):OpR X (compareOp .NotEq) (rNeA K):=by subst h;exact op_neAU hu
theorem kx_isi (h:X.K=K):CallR X (.builtin "isinstance") (rIsi K):=by subst h;exact call_isi
theorem kx_isiT (h:X.K=K):CallR X (.builtin "isinstance") (rIsiT K):=by subst h;exact call_isiT
theorem kx_all (h:X.K=K) (hc:X.calm=true):CallR X (.builtin "all") (rAll K):=by subst h;exact cr_all hc
theorem kx_sum (h:X.K=K) (hc:X.calm=true):CallR X (.builtin "sum") (rSum K):=by subst h;exact cr_sum hc
end

theorem ite_nf {A B:Prop} (h:A):if (!false)=true then A else B:=iteT h
theorem ite_nt {A B:Prop} (h:B):if (!true)=true then A else B:=iteF h
section
variable {σ : L2.St} {H : Hp} {Q : VK} {D : Ends} {g : TG} {tt : TT} {te : TE} {ta : TA} {vs : List Nat} {K : PySem.W.Frag} {RI : It → Hp → Prop} {tb : TS} {wi : TI}
theorem s_tlc (q:wi σ H fun J H1=>LcG J g tt te vs σ H1 Q):tLc wi g tt te vs σ H Q:=q
theorem s_iStr (q:te σ H fun v H1=> ∃x,v= .str x∧RI (Its x) H1):iStr te σ H RI:=q
theorem s_iList (q:te σ H fun x H1=> ∃a,x= .ref a∧(∃xs,SqL K H1 a xs)∧RI (Itl K a) H1):iList K te σ H RI:=q
theorem s_iTup (q:te σ H fun x H1=> ∃a,x= .ref a∧(∃xs,SqT K H1 a xs)∧RI (Itt K a) H1):iTup K te σ H RI:=q
theorem s_iRng1 (q:ta σ H fun vs H1=> ∃j:Int,vs= [.int j]∧ -(2 ^ 62)≤j∧j<2 ^ 62∧RI (Itr 0 j.toNat) H1):iRng1 ta σ H RI:=q
theorem s_iRng2 (q:ta σ H fun vs H1=> ∃i j:Int,vs= [.int i,.int j]∧(-(2 ^ 62)≤i∧i<2 ^ 62∧ -(2 ^ 62)≤j∧j<2 ^ 62)∧RI (Itr i (j - i).toNat) H1):iRng2 ta σ H RI:=q
theorem s_for (q:wi σ H fun J H1=>ForG J g tb D σ H1):tFor wi g tb D σ H:=q
section
variable {p : Addr} {Z : List Addr} {ds : List PyData} {xs : List V}
end
end

section
variable {K : PySem.W.Frag} {p : Addr} {Z : List Addr} {H : Hp} {Q : VK} {x : V} {d : PyData} {ds : List PyData} {σ : L2.St}
theorem s_m1 {r:V→List V→Hp→VK→Prop} {to te:TE} (q:to σ H fun x H1=>(∃a,x= .str a)∧te σ H1 fun y H2=>r x [y] H2 Q):tM1 r to te σ H Q:=q
end
theorem cps_app (a b:Str):(a++b).cps.toList=a.cps.toList++b.cps.toList:=by
  show (a.cps++b.cps).toList=_
  simp
theorem ok_iff {x:Str}:PyData.strOk x=true↔ ∀c∈x.cps.toList,c<1114112:=by
  unfold PyData.strOk
  rw[← Array.all_toList,List.all_eq_true]
  constructor
  · intro h c hc;exact of_decide_eq_true (h c hc)
  · intro h c hc;exact decide_eq_true (h c hc)
theorem ok_app {a b:Str} (h:PyData.strOk a=true) (g:PyData.strOk b=true):PyData.strOk (a++b)=true:=by
  rw[ok_iff] at *
  intro c hc
  rw[cps_app] at hc
  exact (List.mem_append.mp hc).elim (h c) (g c)
theorem char_lt (c:Char):c.toNat<1114112:=by
  have h:=c.valid
  show c.val.toNat<1114112
  rcases h with h | ⟨_,h⟩
  · have:c.val.toNat<0xd800:=h
    omega
  · exact h
theorem ok_ofString (s:String):PyData.strOk (Str.ofString s)=true:=by
  rw[ok_iff,signs_ofString]
  intro c hc
  obtain⟨ch,_,rfl⟩:=List.mem_map.mp hc
  exact char_lt ch
theorem reprChar_lt {q c x:Nat} (hq:c<1114112) (h:x∈Builtin.Str.reprChar q c):x<1114112:=by
  have hx: ∀w:Nat,x∈List.replicate (w - ((Nat.toDigits 16 c).map Char.toNat).length) 48++(Nat.toDigits 16 c).map Char.toNat→x<1114112:=by
    intro w h
    rcases List.mem_append.mp h with h | h
    · rw[List.eq_of_mem_replicate h];decide
    · obtain⟨ch,_,rfl⟩:=List.mem_map.mp h
      exact char_lt ch
  unfold Builtin.Str.reprChar at h
  simp only at h
  repeat' split at h
  all_goals first
    | (simp only[List.mem_cons,List.not_mem_nil,or_false] at h;omega)
    | (rcases List.mem_append.mp h with h | h
       · simp only[List.mem_cons,List.not_mem_nil,or_false] at h;omega
       · exact hx _ h)
theorem mem_fold (f:Nat→List Nat) (x:Nat): ∀(l:List Nat) (acc:Array Nat),x∈(l.foldl (fun out c=>out++(f c).toArray) acc).toList→x∈acc.toList∨ ∃c∈l,x∈f c
  | [],acc,h=> .inl h
  | c::l,acc,h=>by
    rcases mem_fold f x l _ h with h | ⟨d,hd,h⟩
    · have h':x∈acc.toList++f c:=by simpa using h
      rcases List.mem_append.mp h' with h | h
      · exact .inl h
      · exact .inr ⟨c,by simp,h⟩
    · exact .inr ⟨d,List.mem_cons_of_mem _ hd,h⟩
theorem quote_lt (x:Str):reprQuote x<1114112:=by
  unfold reprQuote
  split <;> decide
theorem ok_reprText {x:Str} (h:PyData.strOk x=true):PyData.strOk (reprText x)=true:=by
  rw[ok_iff] at *
  intro c hc
  unfold reprText at hc
  rw[Array.toList_push] at hc
  rcases List.mem_append.mp hc with hc | hc
  · rw[← Array.foldl_toList] at hc
    rcases mem_fold (Builtin.Str.reprChar (reprQuote x)) c _ _ hc with hc | ⟨d,hd,hc⟩
    · have:c=reprQuote x:=by simpa using hc
      rw[this];exact quote_lt x
    · exact reprChar_lt (h d hd) hc
  · rw[List.mem_singleton.mp hc];exact quote_lt x
theorem ok_sjoin (sep:Str) (hs:PyData.strOk sep=true) (ts:List Str) (h: ∀t∈ts,PyData.strOk t=true):PyData.strOk (Str.join sep ts)=true:=by
  rw[ok_iff]
  intro c hc
  rcases (mem_join sep c ts).mp hc with ⟨t,ht,hc⟩ | ⟨_,hc⟩
  · exact ok_iff.mp (h t ht) c hc
  · exact ok_iff.mp hs c hc
theorem ok_textFrom: ∀(ts:List Str) (k:Nat) (acc:Str),PyData.strOk acc=true→(∀t∈ts,PyData.strOk t=true)→PyData.strOk (textFrom k acc ts)=true
  | [],k,acc,h,_=>h
  | t::r,k,acc,h,g=>by
    show PyData.strOk (textFrom (k+1) _ r)=true
    exact ok_textFrom r (k+1) _ (ok_app (ok_app h (ok_ofString _)) (g t (by simp))) fun u hu=>g u (List.mem_cons_of_mem _ hu)
mutual
theorem ok_shown: ∀d:PyData,lay d=true→PyData.strOk d.shown=true
  | .none,_=>ok_ofString _
  | .bool b,_=>by cases b <;> exact ok_ofString _
  | .int i,_=>ok_ofString _
  | .str x,h=>by
    simp only[PyData.shown]
    exact ok_reprText (by simpa only[lay] using h)
  | .list xs,h=>by
    simp only[PyData.shown]
    exact ok_app (ok_textFrom _ _ _ (ok_ofString _) (ok_shownAll xs (by simpa only[lay] using h))) (ok_ofString _)
  | .tuple xs,h=>by
    simp only[PyData.shown]
    exact ok_app (ok_app (ok_ofString _) (ok_sjoin _ (ok_ofString _) _ (ok_shownAll xs (by simpa only[lay] using h)))) (ok_ofString _)
  | .dict kvs,h=>by
    simp only[PyData.shown]
    exact ok_app (ok_app (ok_ofString _) (ok_sjoin _ (ok_ofString _) _ (ok_shownKv kvs (by simpa only[lay] using h)))) (ok_ofString _)
theorem ok_shownAll: ∀xs:List PyData,layL xs=true→ ∀t∈PyData.shownAll xs,PyData.strOk t=true
  | [],_,t,ht=>by simp[PyData.shownAll] at ht
  | x::xs,h,t,ht=>by
    simp only[layL,Bool.and_eq_true] at h
    simp only[PyData.shownAll,List.mem_cons] at ht
    rcases ht with rfl | ht
    · exact ok_shown x h.1
    · exact ok_shownAll xs h.2 t ht
theorem ok_shownKv: ∀xs:List (PyData×PyData),layK xs=true→ ∀t∈PyData.shownKv xs,PyData.strOk t=true
  | [],_,t,ht=>by simp[PyData.shownKv] at ht
  | (k,v)::xs,h,t,ht=>by
    simp only[layK,Bool.and_eq_true] at h
    simp only[PyData.shownKv,List.mem_cons] at ht
    rcases ht with rfl | ht
    · exact ok_app (ok_app (ok_shown k h.1.1) (ok_ofString _)) (ok_shown v h.1.2)
    · exact ok_shownKv xs h.2 t ht
end
theorem Tame.text {d:PyData} {k n:Nat} (t:Tame d k n):Tame (.str d.shown) 1 (302 * n+300):=by
  have:=PyData.shown_le_bulk 300 (by decide) d t.short
  have:=t.bulk
  exact tame_str (by omega) (ok_shown d t.lay)
end PC

set_option Elab.async false
set_option linter.all false
set_option maxRecDepth 100000
set_option maxHeartbeats 2000000
namespace PC
open PySem PySem.Spec PySem.W PySem.Calls PyProof.Rows L2
open Builtin Builtin.ObjectAttr

structure ErrBase (B newId initId:String) (tl:List Value):Prop where
  f:ExcBaseFacts B newId initId tl
  pass: ∀x,refuseLoop x "__setattr__" tl=pure ()
  obj:tl.contains (.type "object")=true
  hand:handedIn (.builtin initId)=true
theorem eb_value:ErrBase "ValueError" "ValueError.__new__" "ValueError.__init__" [.type "ValueError",.type "Exception",.type "BaseException",.type "object"]:=
  ⟨F.excBase_ValueError,F.store_ValueError.passes,by decide +kernel,by first | rfl | decide +kernel⟩
theorem mro_has {C D:Addr} {tl:List Value} (T:String):(Value.ref C:: .ref D::tl).contains (.type T)=tl.contains (.type T):=by
  rw[List.contains_cons,List.contains_cons]
  rfl
theorem mro_has1 {D:Addr} {tl:List Value} (T:String):(Value.ref D::tl).contains (.type T)=tl.contains (.type T):=by
  rw[List.contains_cons]
  rfl

section
variable {prog : Program} {w : World} {A : Around} {R : Result → Shared → Prop}
  {u : Heap} {g : Array GenState} {dr : Drawn} {n : Nat} {os : OsState}
  {B newId initId : String} {tl : List Value}
theorem err_set {K:W.Frag} {f:Str} {tk:Tok} {v:Value} {x C D:Addr} {ox:Obj} {od:Option Obj} {cd:ClassData}
    (BB:ErrBase B newId initId tl) (X:K.In u) (J:W.InstAt u x ox C od)
    (hcd:W.clsIn K C=some cd) (hm:cd.mro= .ref C:: .ref D::tl) (hf:W.findIn K (.ref C) f=some none)
    (hq:wpAny (model prog w) A.in1 (storeInOwnDict (.ref x) (.ref C) (.str f tk) f v false)
      (fun fin s'=>match fin with
        | .done y=>R (.ok y) s'
        | .again c'=>c'.quiet=true∧codeAny (model prog w) A c' R s') (fun e s'=>R (.error e) s') ⟨u,g,dr,n,os⟩):
    codeAny (model prog w) A (.call (.builtin "object.__setattr__") ⟨[.ref x,.str f tk,v],[]⟩) R ⟨u,g,dr,n,os⟩:=by
  have S:=F.store_object
  have h1:cd.mro.contains (.type "object")=true:=by
    rw[hm,mro_has]
    exact BB.obj
  have h2:W.mroIn K C (.type "object")=some true:=by
    unfold W.mroIn
    rw[hcd,Option.bind_some,h1,hm]
    rfl
  have h3:W.Looks (model prog w) u (isInstance (.ref x) (.type "object")) true:=J.type.andThen (W.looks_mroIn X h2)
  have h4:W.Looks (model prog w) u (mroOf (.ref C)) cd.mro:=(W.looks_clsIn X hcd).andThen .now
  have h5:W.Looks (model prog w) u (storeTaker? none) none:= .now
  have h6:refuseLoop (.ref x) "__setattr__" cd.mro=pure ():=by
    rw[hm,refuseLoop_ref,refuseLoop_ref]
    exact BB.pass _
  refine codeAny_call_builtin S.slot.plain S.entry
    (@W.check_slot (model prog w) _ _ ⟨u,g,dr,n,os⟩ "object.__setattr__" "object" "__setattr__" (.ref x) [.str f tk,v] [] _
      S.kind S.split h3 (S.args (.ref x) (.str f tk) v) ?_)
  rw[W.osa_eq,refuse_eq]
  refine wpAny_bind (wpAny_bind (J.type.at (wpAny_bind (h4.at ?_))))
  rw[h6]
  exact wpAny_pure (wpAny_bind (J.type.at (wpAny_bind ((W.looks_findIn X hf).at (wpAny_bind (h5.at hq))))))
theorem err_set0 {K:W.Frag} {f:Str} {tk:Tok} {v:Value} {x C D:Addr} {fv:Array Value} {cd:ClassData}
    (BB:ErrBase B newId initId tl) (X:K.In u) (hx:u.get? x=some { cls:= .ref C,data:= .fields fv })
    (hcd:W.clsIn K C=some cd) (hm:cd.mro= .ref C:: .ref D::tl) (hd:cd.hasDict=true) (hf:W.findIn K (.ref C) f=some none)
    (hq: ∀u' n' dx,(∀b o,b≠x→u.get? b=some o→u'.get? b=some o)→u.objs.size≤dx→dx≠x→
      u'.get? x=some { cls:= .ref C,dict:=some dx,data:= .fields fv }→
      u'.Ns1 dx (fun y=>if y=f then some v else none)→R (.ok (.ret .none)) ⟨u',g,dr,n',os⟩):
    codeAny (model prog w) A (.call (.builtin "object.__setattr__") ⟨[.ref x,.str f tk,v],[]⟩) R ⟨u,g,dr,n,os⟩:=by
  have J:W.InstAt u x { cls:= .ref C,data:= .fields fv } C none:=⟨hx,rfl,rfl,trivial⟩
  have lt:x≠u.objs.size:=Nat.ne_of_lt (Heap.lt_size hx)
  refine err_set BB X J hcd hm hf ?_
  have hc:W.Looks (model prog w) u (classData C) cd:=W.looks_clsIn X hcd
  obtain⟨c1,c2,c3,c4,c5,c6,c7,c8,c9,c10,c11⟩:=cd
  dsimp only at hd
  subst hd
  unfold storeInOwnDict ownDictForStores
  repeat (first
    | with_reducible refine HandSPX.store_in_new ?_ ?_
    | with_reducible refine wpAny_loadPart_at hx ?_
    | with_reducible refine hc.at ?_
    | wp_step)
  · exact⟨_,#[],_,(Heap.get?_update_ne _ _ _ _ lt.symm).trans (Heap.get?_push_at rfl rfl),rfl,
      fun e he=>absurd he (by simp),fun _=>rfl⟩
  · intro u' n' hn hs
    have hx':(u.push { cls:= .type "dict",data:= .dict #[] }).get? x=some { cls:= .ref C,data:= .fields fv }:=
      Heap.get?_push_of_some _ hx
    refine hq u' n' u.objs.size (fun b o hb ho=> ?_) (Nat.le_refl _) lt.symm ?_ hn
    · exact (hs.2 b (Nat.ne_of_lt (Heap.lt_size ho))).trans
        ((Heap.get?_update_ne _ _ _ _ hb).trans (Heap.get?_push_of_some _ ho))
    · exact (hs.2 x lt).trans (Heap.get?_update_self _ hx' rfl)
theorem put_in {M:Model} {A:Around} {E:Value→Shared→Prop} {dx:Addr} {f:Str} {tk:Tok} {v:Value}
    {m0:Str→Option Value} {ns:List Str} {Q:Fin→Shared→Prop} (hn:u.Ns1 dx m0) (hw:Within m0 ns) (hz:ns.length≤1000)
    (hq: ∀u' n',u'.Ns1 dx (fun y=>if y=f then some v else m0 y)→Heap.SameBut dx u u'→Q (.done (.ret .none)) ⟨u',g,dr,n',os⟩):
    wpAny M A (storeInDict dx (.str f tk) f v) Q E ⟨u,g,dr,n,os⟩:=by
  unfold storeInDict newKeyGuard
  refine wpAny_bind (wpAny_pure (wpAny_bind (wpAny_nsSet1 hn fun u' hn' hs=> ?_)))
  obtain⟨o1,e1,p1,ho1,hd1,hc1⟩:=hn'.count (Within.cons f v hw)
  have few:e1.size≤sizeLine:=by
    refine Nat.le_trans hc1 ?_
    rw[List.length_cons,sizeLine_eq]
    omega
  refine wpAny_bind (wpAny_lookBehind ho1 (by rw[hd1];exact pastItsLine_dict (Nat.le_succ_of_le few)) ?_)
  wp_walk
  exact hq u' _ hn' hs
theorem err_set1 {K:W.Frag} {f:Str} {tk:Tok} {v:Value} {x C D dx:Addr} {fv:Array Value} {cd:ClassData}
    {m0:Str→Option Value} {ns:List Str}
    (BB:ErrBase B newId initId tl) (X:K.In u) (hx:u.get? x=some { cls:= .ref C,dict:=some dx,data:= .fields fv })
    (hn:u.Ns1 dx m0) (hw:Within m0 ns) (hz:ns.length≤1000)
    (hcd:W.clsIn K C=some cd) (hm:cd.mro= .ref C:: .ref D::tl) (hd:cd.hasDict=true) (hf:W.findIn K (.ref C) f=some none)
    (hq: ∀u' n',(∀b o,b≠dx→u.get? b=some o→u'.get? b=some o)→
      u'.Ns1 dx (fun y=>if y=f then some v else m0 y)→R (.ok (.ret .none)) ⟨u',g,dr,n',os⟩):
    codeAny (model prog w) A (.call (.builtin "object.__setattr__") ⟨[.ref x,.str f tk,v],[]⟩) R ⟨u,g,dr,n,os⟩:=by
  obtain⟨o1,e1,p1,ho1,hd1,hc1⟩:=hn.count hw
  have J:W.InstAt u x { cls:= .ref C,dict:=some dx,data:= .fields fv } C (some o1):=⟨hx,rfl,rfl,ho1⟩
  refine err_set BB X J hcd hm hf ?_
  have hc:W.Looks (model prog w) u (classData C) cd:=W.looks_clsIn X hcd
  obtain⟨c1,c2,c3,c4,c5,c6,c7,c8,c9,c10,c11⟩:=cd
  dsimp only at hd
  subst hd
  unfold storeInOwnDict ownDictForStores
  repeat (first
    | with_reducible refine put_in hn hw hz ?_
    | with_reducible refine wpAny_loadPart_at hx ?_
    | with_reducible refine hc.at ?_
    | wp_step)
  intro u' n' hn' hs
  exact hq u' n' (fun b o hb ho=>(hs.2 b hb).trans ho) hn'
end

abbrev P4:=Pos×Pos×Pos×Pos
def erSt (f:Str) (p:P4):Stmt:= .Assign [.Attribute (.Name "self" p.1) f p.2.1] (.Name f p.2.2.1) p.2.2.2
structure ErDef (st:Stmt) (qual base:Str) (f:Str) (fs:List Str):Prop where
  bind: ∀(kV doc pm:Value) (an:Option Addr) (cdv ct:Value) (us:List Value),us.length=(f::fs).length+1→
    bindArgs (fnOf "__init__" qual (defArgs st) (defBody st) (defScope st) .none kV doc pm an cdv ct) ⟨us,[]⟩=pure ((("self" :Str)::f::fs).zip us)
  co:(defScope st).isCoroutine=false
  gen:(defScope st).isGenerator=false
  kind:(defScope st).kind= .function
  loc: ∀y∈(("self" :Str)::f::fs),(defScope st).names.lookup y=some .local
  glo:(defScope st).names.lookup base=some .globalImplicit
  nd:(("self" :Str)::f::fs).Nodup
  few:fs.length≤100
  ndb:((f == ("__debug__" :Str))=false)∧(∀y∈fs,(y == ("__debug__" :Str))=false)∧(base == ("__debug__" :Str))=false
  hi: ∀(L a:Addr) (cd:Value),interactive (envOfC qual (defScope st) L a cd)=false
  body: ∃(text:Str) (j:Nat) (q1 q2 q3 q4 q5 q6:Pos) (r:P4) (rs:List P4) (pl:Addr→Addr→Value→Sem Bool),rs.length=fs.length∧
    (∀(L a:Addr) (cd:Value),eval (.Call (.Attribute (.Name base q1) "__init__" q2) [.Name "self" q3,.Constant (.str text) j q4] [] q5) (envOfC qual (defScope st) L a cd)=(do
      let ov ← eval (.Name base q1) (envOfC qual (defScope st) L a cd)
      standAt q2.atName
      let (m,first) ← holding [ov] (getMethod ov "__init__" (pl L a cd))
      callWith q5 m first (backTo q5 (starEach [.Name "self" q3,.Constant (.str text) j q4] (envOfC qual (defScope st) L a cd)))
        (backToKw q5 (keywordEach [] (envOfC qual (defScope st) L a cd)))))∧
    defBody st= .Expr (.Call (.Attribute (.Name base q1) "__init__" q2) [.Name "self" q3,.Constant (.str text) j q4] [] q5) q6::
      erSt f r::(fs.zip rs).map fun y=>erSt y.1 y.2
structure ErrT (K:Frag) (mg:Str→Option Value) (nm base:Str) (B newId initId:String) (tl:List Value) (f:Str) (fs:List Str)
    (C D fI:Addr) (st:Stmt):Prop where
  bb:ErrBase B newId initId tl
  gC:mg nm=some (.ref C)
  gD:mg base=some (.ref D)
  cls: ∃n1 q N bs sn sub ab col dd k0 k1 k2 k3 k5,
    K.lookup C=some (excClassObj n1 q C N bs (.ref D::tl) true sn sub ab col dd k0 k1 k2 k3 k5 newId)
  sa:findIn K (.ref C) "__setattr__" =some (some (.builtin "object.__setattr__"))
  noF: ∀y∈f::fs,findIn K (.ref C) y=some none
  iC:findIn K (.ref C) "__init__" =some (some (.ref fI))
  tI:typeIn K (.ref fI)=some (.type "function")
  kC:keepIn K (.ref C)=true
  eC:subIn K (.ref C) (.type "BaseException")=some true
  tC:typeIn K (.ref C)=some (.type "type")
  rD:readsIn K D (.type "type")=true
  gaD:specialIn K (.ref D) "__getattribute__" =some (some (.builtin "type.__getattribute__"))
  iD:findCls K (.ref D) (.type "type") "__init__" =some (.val (.builtin initId))
  fn: ∃(qual:Str) (oc:Value) (od:Option Addr) (kV doc pm:Value) (an:Option Addr) (cdv ct:Value) (osl:Array (Option Value)),
    K.lookup fI=some ⟨oc,od,.func (fnOf "__init__" qual (defArgs st) (defBody st) (defScope st) .none kV doc pm an cdv ct),osl⟩∧
    codeIn K cdv qual=true∧ErDef st qual base f fs

theorem bindL_get {k:Str→Option NameKind}: ∀(r:List (Str×Value)) (m:Str→Option Value),(∀y∈r,k y.1=some .local)→
    (r.map (·.1)).Nodup→ ∀n,(n ∉ r.map (·.1)→bindL k r m n=m n)∧ ∀v,(n,v)∈r→bindL k r m n=some v:=by
  intro r
  induction r with
  | nil=>exact fun m _ _ n=>⟨fun _=>rfl,fun v h=>by cases h⟩
  | cons y r ih=>
    obtain⟨x,u⟩:=y
    intro m hk hn n
    rw[List.map_cons,List.nodup_cons] at hn
    have hx:k x=some .local:=hk (x,u) List.mem_cons_self
    obtain⟨i1,i2⟩:=ih (fun y=>if y=x then some u else m y) (fun y hy=>hk y (List.mem_cons_of_mem _ hy)) hn.2 n
    have e:bindL k ((x,u)::r) m=bindL k r (fun y=>if y=x then some u else m y):=by
      show bindL k r (if k x=some .local then _ else m)=_
      rw[if_pos hx]
    rw[e]
    refine⟨fun h=> ?_,fun v h=> ?_⟩
    · rw[List.map_cons,List.mem_cons,not_or] at h
      rw[i1 h.2,if_neg h.1]
    · rcases List.mem_cons.mp h with q | q
      · cases q
        rw[i1 hn.1,if_pos rfl]
      · exact i2 v q
theorem ns1_put {u:Heap} {dx:Addr} {f:Str} {v:Value} {acc:List (Str×Value)}
    (h:u.Ns1 dx (fun y=>if y=f then some v else acc.lookup y)):u.Ns1 dx fun y=>((f,v)::acc).lookup y:=by
  have e:(fun y=>((f,v)::acc).lookup y)=fun y=>if y=f then some v else acc.lookup y:=by
    funext y
    by_cases c:y=f
    · subst c
      simp[List.lookup]
    · have c':(y == f)=false:=by simpa using c
      rw[if_neg c]
      simp[List.lookup,c']
  rw[e]
  exact h
theorem within_lk {acc:List (Str×Value)}:Within (fun y=>acc.lookup y) (acc.map (·.1)):=by
  intro y h
  induction acc with
  | nil=>exact absurd rfl h
  | cons p r ih=>
    obtain⟨f,v⟩:=p
    by_cases c:y=f
    · subst c
      exact List.mem_cons_self
    · have c':(y == f)=false:=by simpa using c
      refine List.mem_cons_of_mem _ (ih ?_)
      have e:((f,v)::r).lookup y=r.lookup y:=by simp[List.lookup,c']
      exact fun z=>h (e.trans z)
theorem zip3 {α β γ δ:Type} (g:α×β→δ): ∀(fs:List α) (rs:List β) (vs:List γ),rs.length=fs.length→vs.length=fs.length→
    (fs.zip rs).map g=((fs.zip rs).zip vs).map (fun y=>g y.1)∧((fs.zip rs).zip vs).map (fun y=>(y.1.1,y.2))=fs.zip vs∧
    ∀y∈(fs.zip rs).zip vs,y.1.1∈fs∧(y.1.1,y.2)∈fs.zip vs
  | [],_,_,_,_=>⟨rfl,rfl,fun _ h=>by cases h⟩
  | a::fs,b::rs,c::vs,h1,h2=>by
    obtain⟨i1,i2,i3⟩:=zip3 g fs rs vs (Nat.succ.inj h1) (Nat.succ.inj h2)
    refine⟨?_,?_,fun y hy=> ?_⟩
    · show g (a,b)::(fs.zip rs).map g=g (a,b)::((fs.zip rs).zip vs).map (fun y=>g y.1)
      rw[i1]
    · show (a,c)::((fs.zip rs).zip vs).map (fun y=>(y.1.1,y.2))=(a,c)::fs.zip vs
      rw[i2]
    · rcases List.mem_cons.mp (show y∈((a,b),c)::(fs.zip rs).zip vs from hy) with e | e
      · subst e
        exact⟨List.mem_cons_self,List.mem_cons_self⟩
      · exact⟨List.mem_cons_of_mem _ (i3 y e).1,List.mem_cons_of_mem _ (i3 y e).2⟩
theorem kin_but {K:Frag} {u u':Heap} {x:Addr} (X:K.In u) (hx:K.lookup x=none)
    (k: ∀b o,b≠x→u.get? b=some o→u'.get? b=some o):K.In u':=fun b o e=>
  k b o (fun z=>by rw[z,hx] at e;cases e) (X b o e)
theorem ns_but {u u':Heap} {x L:Addr} {m:Str→Option Value} (h:u.Ns L m) (hx:L≠x)
    (k: ∀b o,b≠x→u.get? b=some o→u'.get? b=some o):u'.Ns L m:=h.at fun o e=>k L o hx e

section
variable {prog : Program} {w : World} {A : Around} {E : Value → Shared → Prop} {s : Shared} {K : Frag} {mg : Str → Option Value}
  {nm base : Str} {B newId initId : String} {tl : List Value} {f : Str} {fs : List Str} {C D fI : Addr} {st : Stmt}
theorem ld_l {M:Model} {env:Env} {m:Str→Option Value} {x:Str} {pos:Pos} {v:Value} {Q:Value→Shared→Prop}
    (hn:s.heap.Ns env.locals m) (hv:m x=some v) (hk:env.scope.kind= .function) (hl:env.kindOf x=some .local)
    (hd:(x == ("__debug__" :Str))=false) (h:Q v s):wpAny M A (eval (.Name x pos) env) Q E s:=
  wpAny_Name (wpAny_loadName_local hk hl hn hv h) hd
structure ErMade (h h':Heap) (e C d:Addr) (acc:List (Str×Value)):Prop where
  keep: ∀b o,h.get? b=some o→h'.get? b=some o
  new:h.objs.size≤e
  obj: ∃t,h'.get? e=some { cls:= .ref C,dict:=some d,data:= .fields #[.ref t,.none,.none,.none,.bool false,.none] }
  dbig:h.objs.size≤d
  dne:d≠e
  ns:h'.Ns1 d fun y=>acc.lookup y
theorem er_stores (T:ErrT K mg nm base B newId initId tl f fs C D fI st) {env:Env} {x dx:Addr} {m:Str→Option Value} {fv:Array Value}
    (hkd:env.scope.kind= .function) (hs:m "self" =some (.ref x)) (hks:env.kindOf "self" =some .local)
    (hLx:env.locals≠dx) (hKd:K.lookup dx=none) (hxd:x≠dx):
    ∀(ys:List ((Str×P4)×Value)) (acc:List (Str×Value)) (s:Shared) (Q:Flow→Shared→Prop),
      K.In s.heap→s.heap.Ns env.locals m→(∀y∈ys,m y.1.1=some y.2∧env.kindOf y.1.1=some .local∧
        findIn K (.ref C) y.1.1=some none∧(y.1.1 == ("__debug__" :Str))=false)→
      s.heap.get? x=some { cls:= .ref C,dict:=some dx,data:= .fields fv }→(s.heap.Ns1 dx fun y=>acc.lookup y)→
      acc.length+ys.length≤1000→
      (∀h' tk,(∀b o,b≠dx→s.heap.get? b=some o→h'.get? b=some o)→
        (h'.Ns1 dx fun y=>((ys.map fun y=>(y.1.1,y.2)).reverse++acc).lookup y)→Q .next { s with heap:=h',toks:=tk })→
      wpAny (model prog w) A (execs (ys.map fun y=>erSt y.1.1 y.1.2) env) Q E s
  | [],acc,s,Q,X,hn,hy,hx,h1,hz,hq=>wpAny_execs_nil (hq s.heap s.toks (fun _ _ _ e=>e) (by simpa using h1))
  | y::ys,acc,s,Q,X,hn,hy,hx,h1,hz,hq=>by
    obtain⟨n1,q,N,bs,sn,sub,ab,col,dd,k0,k1,k2,k3,k5,hC⟩:=T.cls
    have hcl:clsIn K C=some { name:=n1,bases:=bs,mro:= .ref C:: .ref D::tl,ns:=N,qualname:=q,hasDict:=true,slotNames:=sn,subclasses:=sub,abstract:=ab,collection:=col,hasDel:=false }:=by
      unfold clsIn
      rw[hC] <;> rfl
    obtain⟨y1,y2,y3,y4⟩:=hy y List.mem_cons_self
    obtain⟨o1,e1,p1,ho1,_,_⟩:=h1.count within_lk
    show wpAny _ _ (execs (erSt y.1.1 y.1.2::_) env) _ _ _
    refine wpAny_execs_cons (plainObj_wpAny_Assign_Attribute ?_ (by rfl))
    refine ld_l hn y1 hkd y2 y4 (ld_l hn hs hkd hks (by decide) ?_)
    refine set_plain X (ox:= { cls:= .ref C,dict:=some dx,data:= .fields fv }) (od:=some o1) ⟨hx,rfl,rfl,ho1⟩ T.sa ?_
    refine err_set1 T.bb X hx h1 within_lk (by rw[List.length_map];omega) hcl rfl rfl y3 (fun u' n' k hn'=> ?_)
    show wpAny _ _ (execs _ _) _ _ _
    refine er_stores T hkd hs hks hLx hKd hxd ys ((y.1.1,y.2)::acc) { s with heap:=u',toks:=n' } Q (kin_but X hKd k)
      (ns_but hn hLx k) (fun z hz=>hy z (List.mem_cons_of_mem _ hz)) (k _ _ hxd hx) (ns1_put hn')
      (by rw[List.length_cons] at hz ⊢;omega) (fun h' tk k' hn2=> ?_)
    refine hq h' tk (fun b o hb e=>k' b o hb (k b o hb e)) ?_
    have e:((y::ys).map fun y=>(y.1.1,y.2)).reverse++acc=((ys.map fun y=>(y.1.1,y.2)).reverse)++(y.1.1,y.2)::acc:=by
      rw[List.map_cons,List.reverse_cons,List.append_assoc]
      rfl
    rw[e]
    exact hn2
theorem er_init (T:ErrT K mg nm base B newId initId tl f fs C D fI st) {R:Result→Shared→Prop} {x t0:Addr} {v:Value} {vs:List Value}
    (X:K.In s.heap) (hg:s.heap.Ns mainGlobals mg) (hgx:mainGlobals≠x) (hlim:s.heap.NoLimit) (hx:s.heap.get? x=some (HandSPX.excO C t0))
    (hnx:K.lookup x=none) (hroom:A.depth<recursionLimit) (hl:vs.length=fs.length)
    (hq: ∀h' tk dx t1,(∀b o,b≠x→s.heap.get? b=some o→h'.get? b=some o)→
      h'.get? x=some { cls:= .ref C,dict:=some dx,data:= .fields #[.ref t1,.none,.none,.none,.bool false,.none] }→
      s.heap.objs.size≤dx→dx≠x→(h'.Ns1 dx fun y=>((fs.zip vs).reverse++ [(f,v)]).lookup y)→R (.ok (.ret .none)) { s with heap:=h',toks:=tk }):
    codeAny (model prog w) A (.call (.ref fI) ⟨.ref x::v::vs,[]⟩) R s:=by
  obtain⟨qual,oc,od,kV,doc,pm,an,cdv,ct,osl,ho,hcd,df⟩:=T.fn
  obtain⟨n1,q,N,bs,sn,sub,ab,col,dd,k0,k1,k2,k3,k5,hC⟩:=T.cls
  have hcl:clsIn K C=some { name:=n1,bases:=bs,mro:= .ref C:: .ref D::tl,ns:=N,qualname:=q,hasDict:=true,slotNames:=sn,subclasses:=sub,abstract:=ab,collection:=col,hasDel:=false }:=by
    unfold clsIn
    rw[hC] <;> rfl
  obtain⟨text,j,q1,q2,q3,q4,q5,q6,r,rs,pl,hrs,hev,hbd⟩:=df.body
  have hzl:(("self" :Str)::f::fs).length=(Value.ref x::v::vs).length:=by simp[hl]
  have all: ∀y∈(("self" :Str)::f::fs).zip (Value.ref x::v::vs),(defScope st).names.lookup y.1=some .local:=by
    rintro ⟨y1,y2⟩ hy
    exact df.loc y1 (List.of_mem_zip hy).1
  refine Att.call_fn (binds:=(("self" :Str)::f::fs).zip (.ref x::v::vs)) X hlim ho hcd hroom
    (BindsTo.of_eq (df.bind _ _ _ _ _ _ _ (by simp[hl]))) (List.all_eq_true.mpr fun y hy=> ?_) (fun s₁ IC=> ?_) df.co df.gen df.kind
  · rw[all y hy]
    rfl
  obtain⟨h₁,tk₁,rfl⟩:=IC.toInCall.same
  have k: ∀b o,s.heap.get? b=some o→h₁.get? b=some o:=IC.toInCall.keep
  have hn:=IC.toInCall.ns
  have hxL:s.heap.objs.size≠x:=Nat.ne_of_gt (Heap.lt_size hx)
  have X₁:K.In h₁:=X.keeps k
  have hx₁:=k _ _ hx
  have hg₁:h₁.Ns mainGlobals mg:=hg.keeps k
  have hmk:((("self" :Str)::f::fs).zip (Value.ref x::v::vs)).map (·.1)=("self" :Str)::f::fs:=List.map_fst_zip (Nat.le_of_eq hzl)
  have get: ∀n u,(n,u)∈(("self" :Str)::f::fs).zip (Value.ref x::v::vs)→bindL (envOfC qual (defScope st) s.heap.objs.size fI cdv).kindOf
      ((("self" :Str)::f::fs).zip (Value.ref x::v::vs)) (fun _=>none) n=some u:=fun n u h=>
    (bindL_get _ _ all (by rw[hmk];exact df.nd) n).2 u h
  have hself:=get "self" (.ref x) List.mem_cons_self
  have hf:=get f v (List.mem_cons_of_mem _ List.mem_cons_self)
  have kl: ∀y∈(("self" :Str)::f::fs),(envOfC qual (defScope st) s.heap.objs.size fI cdv).kindOf y=some .local:=df.loc
  rw[hbd]
  show wpAny _ _ (execs _ _) _ _ _
  -- Base.__init__(self,text)
  refine wpAny_execs_cons (wpAny_Expr_any (methodCall_KW ?_ (hev _ _ _)) (df.hi _ _ _) (by rfl))
  refine Name_function_global (env:=envOfC qual (defScope st) s.heap.objs.size fI cdv) df.kind df.glo
    (loadGlobal_global (s:= { s with heap:=h₁,toks:=tk₁ }) (env:=envOfC qual (defScope st) s.heap.objs.size fI cdv) hg₁ T.gD ?_) df.ndb.2.2
  refine method_cls X₁ T.gaD (cls_value X₁ T.rD T.iD T.bb.hand ?_)
  refine callWith_method1 (spliced_more (ld_l hn hself df.kind (kl _ List.mem_cons_self) (by decide) (spliced_more (Constant_str (spliced_none ?_))))) (by rfl) (by rfl)
  refine wpAny_call (HandSPX.init_base T.bb.f (fun Y=>mro_has1 Y) (X₁ _ _ hC) hx₁ ?_ fun h₂ t2 k2 hx₂=> ?_)
  · rw[sizeLine_eq]
    exact (by decide:1≤16777216)
  have X₂:K.In h₂:=kin_but X₁ hnx k2
  have hn₂:=ns_but hn hxL k2
  -- the first field
  show wpAny _ _ (execs (erSt f r::_) _) _ _ _
  refine wpAny_execs_cons (plainObj_wpAny_Assign_Attribute ?_ (by rfl))
  refine ld_l hn₂ hf df.kind (kl _ (List.mem_cons_of_mem _ List.mem_cons_self)) df.ndb.1 (ld_l hn₂ hself df.kind (kl _ List.mem_cons_self) (by decide) ?_)
  refine set_plain X₂ (ox:=HandSPX.excO C t2) (od:=none) ⟨hx₂,rfl,rfl,trivial⟩ T.sa ?_
  refine err_set0 T.bb X₂ hx₂ hcl rfl rfl (T.noF f List.mem_cons_self) (fun h₃ tk₃ dx k₃ dn dne hx₃ hn₃=> ?_)
  show wpAny _ _ (execs _ _) _ _ _
  have keep2: ∀b o,b≠x→s.heap.get? b=some o→h₂.get? b=some o:=fun b o hb e=>k2 b o hb (k b o e)
  have L2:s.heap.objs.size<h₂.objs.size:=hn₂.lt
  have big:s.heap.objs.size≤dx:=Nat.le_trans (Nat.le_of_lt L2) dn
  have hKd:K.lookup dx=none:=by
    cases e:K.lookup dx with
    | none=>rfl
    | some o=>exact absurd (Heap.lt_size (X _ _ e)) (Nat.not_lt.mpr big)
  obtain⟨eqs,eqn,eqm⟩:=zip3 (fun y:Str×P4=>erSt y.1 y.2) fs rs vs hrs hl
  rw[eqs]
  refine er_stores T (x:=x) (dx:=dx) df.kind hself (kl _ List.mem_cons_self) (Nat.ne_of_lt (Nat.lt_of_lt_of_le L2 dn)) hKd (Ne.symm dne) _ [(f,v)] _ _ (kin_but X₂ hnx k₃) (ns_but hn₂ hxL k₃)
    (fun y hy=> ?_) hx₃ (ns1_put hn₃) (by have:=df.few;simp[List.length_zip];omega) (fun h' tk k4 hn4=> ?_)
  · obtain⟨m1,m2⟩:=eqm y hy
    exact⟨get _ _ (List.mem_cons_of_mem _ (List.mem_cons_of_mem _ m2)),kl _ (List.mem_cons_of_mem _ (List.mem_cons_of_mem _ m1)),
      T.noF _ (List.mem_cons_of_mem _ m1),df.ndb.2.1 _ m1⟩
  · refine hq h' tk dx t2 (fun b o hb e=>k4 b o ?_ (k₃ b o hb (keep2 b o hb e))) (k4 _ _ (Ne.symm dne) hx₃) big dne ?_
    · exact Nat.ne_of_lt (Nat.lt_of_lt_of_le (Heap.lt_size e) big)
    · rw[← eqn]
      exact hn4
end
section
variable {prog : Program} {w : World} {A : Around} {E : Value → Shared → Prop} {s : Shared} {K : Frag} {mg : Str → Option Value}
  {nm base : Str} {B newId initId : String} {tl : List Value} {f : Str} {fs : List Str} {C D fI : Addr} {st : Stmt}
theorem er_made (T:ErrT K mg nm base B newId initId tl f fs C D fI st) {R:Result→Shared→Prop} {v:Value} {vs:List Value}
    (X:K.In s.heap) (hg:s.heap.Ns mainGlobals mg) (hlim:s.heap.NoLimit) (hroom:A.depth+1<recursionLimit) (hl:vs.length=fs.length)
    (hq: ∀h' tk e d,ErMade s.heap h' e C d ((fs.zip vs).reverse++ [(f,v)])→R (.ok (.ret (.ref e))) { s with heap:=h',toks:=tk }):
    codeAny (model prog w) A (.call (.ref C) ⟨v::vs,[]⟩) R s:=by
  obtain⟨n1,q,N,bs,sn,sub,ab,col,dd,k0,k1,k2,k3,k5,hC⟩:=T.cls
  obtain⟨_,_,_,_,_,_,_,_,_,_,_,_,df⟩:=T.fn
  obtain⟨u,g,dr,tk,os⟩:=s
  have old: ∀b o,u.get? b=some o→((u.push (kdv_tup (v::vs))).push (HandSPX.excO C u.objs.size)).get? b=some o:=
    fun b o e=>Heap.get?_push_of_some _ (Heap.get?_push_of_some _ e)
  have hget:((u.push (kdv_tup (v::vs))).push (HandSPX.excO C u.objs.size)).get? (u.objs.size+1)=some (HandSPX.excO C u.objs.size):=by
    heap_get
  have fresh: ∀ {b:Addr} {o:Obj},u.get? b=some o→b≠u.objs.size+1:=fun e=>
    Nat.ne_of_lt (Nat.lt_succ_of_lt (Heap.lt_size e))
  have hnx:K.lookup (u.objs.size+1)=none:=by
    cases e:K.lookup (u.objs.size+1) with
    | none=>rfl
    | some o=>exact absurd rfl (fresh (X _ _ e))
  have few:(v::vs).length≤sizeLine:=by
    have:=df.few
    rw[List.length_cons,hl,sizeLine_eq]
    omega
  refine HandSPX.call_own T.bb.f (fun Y=>mro_has1 Y) (X _ _ hC) (looks_findIn X T.iC) (fun self=>bind_fn X self T.tI) few ?_
  refine er_init (s:=⟨(u.push (kdv_tup (v::vs))).push (HandSPX.excO C u.objs.size),g,dr,tk,os⟩) T (X.keeps old) (hg.keeps old) ?_
    (hlim.keeps old) hget hnx ?_ hl fun h' tk' dx t1 k' hx dn dne hns=> ?_
  · obtain⟨o,_,_,e,_⟩:=hg
    exact fresh e
  · show A.depth+1<recursionLimit
    exact hroom
  · have z:u.objs.size+1+1≤dx:=by
      have q:=dn
      simp only[Heap.size_push] at q
      exact q
    exact⟨rfl,hq h' tk' (u.objs.size+1) dx ⟨fun b o e=>k' b o (fresh e) (old b o e),Nat.le_succ _,⟨t1,hx⟩,Nat.le_of_succ_le (Nat.le_of_succ_le z),dne,hns⟩⟩
end

theorem rel_nil (y:Str):RelO (([]:List (Str×V)).lookup y) (([]:List (Str×Value)).lookup y):=trivial
theorem rel_cons {a:List (Str×V)} {b:List (Str×Value)} {f:Str} {v:V} {u:Value} (r:RelV v u)
    (h: ∀y,RelO (a.lookup y) (b.lookup y)) (y:Str):RelO (((f,v)::a).lookup y) (((f,u)::b).lookup y):=by
  by_cases c:y=f
  · subst c
    have e1:((y,v)::a).lookup y=some v:=by simp[List.lookup]
    have e2:((y,u)::b).lookup y=some u:=by simp[List.lookup]
    rw[e1,e2]
    exact r
  · have c':(y == f)=false:=by simpa using c
    have q:=h y
    simpa [List.lookup,c'] using q
def ErRel (f:Str) (fs:List Str):Prop:= ∀(v:V) (u:Value) (ws:List V) (us:List Value),RelV v u→Vals ws us→ws.length=fs.length→
  ∀y,RelO (((fs.zip ws).reverse++ [(f,v)]).lookup y) (((fs.zip us).reverse++ [(f,u)]).lookup y)
theorem er_rel1 {f:Str}:ErRel f []:=fun v u ws us r _ _=>rel_cons r rel_nil
def tErr (C:Addr) (f:Str) (fs:List Str) (ta:TA):L2.St→Hp→XK→Prop:=fun σ H Q=>ta σ H fun vs H1=>
  ∃v ws,vs=v::ws∧ws.length=fs.length∧ ∀d,H1 d=none→Q (.ref C) (some d) (upd H1 d (.xd ((fs.zip ws).reverse++ [(f,v)])))
section
variable {X : Cx} {nm base : Str} {B newId initId : String} {tl : List Value} {f : Str} {fs : List Str} {C D fI : Addr} {st : Stmt}
theorem pmk_err {e:Expr} {es:List Expr} {ta:TA} {p pos:Pos} {k:Nat} (T:ErrT X.K X.mg nm base B newId initId tl f fs C D fI st)
    (rel:ErRel f fs) (hr:Room (k+1) X.A) (ha:PA X (e::es) ta) (hg:Gl X nm) (hdb:(nm == ("__debug__" :Str))=false:=by decide)
    (he:starEach (e::es) X.env=(false,eval e X.env)::starEach es X.env:=by rfl)
    (hpl:(backTo pos (starEach es X.env)).any (·.1)=false:=by rfl):
    PMk X (.Call (.Name nm p) (e::es) [] pos) (tErr C f fs ta):=by
  intro pins s σ H Q I h
  refine wpAny_Call_Name_kw (ld_glob I hg T.gC ?_ hdb)
  refine callWith_K (h₀:=X.base) I.ok.mod.kin T.kC (thn (ha.run pos pins s σ H _ I h) fun us s1 hh=> ?_) he hpl
  obtain⟨vs,H1,I1,r1,v,ws,ev,hl,q1⟩:=hh
  subst ev
  refine⟨I1.kIn,?_⟩
  cases r1 with
  | @cons _ u0 _ ur rv rw=>
    have hlu:ur.length=fs.length:=(Paired.length rw).symm.trans hl
    have hlim:=I1.nolimit
    have hgl:s1.heap.Ns mainGlobals X.mg:=I1.mod.glob.keeps I1.bk
    obtain⟨u,g,dr,tk,os⟩:=s1
    refine wpAny_call (er_made T I1.kIn hgl hlim (by have:=hr.dp;omega) hlu fun h' tk' a d M=> ?_)
    show MkP X pins σ Q (.ref a) ⟨h',g,dr,tk',os⟩
    obtain⟨t1,hoe⟩:=M.obj
    obtain⟨G,g1,g2⟩:=restrict h' fun b=>decide (b≠a)
    have ga: ∀b,b≠a→G.get? b=h'.get? b:=fun b hb=>g1 b (decide_eq_true hb)
    have gn:G.get? a=none:=g2 a (by simp)
    have old: ∀b o,u.get? b=some o→G.get? b=some o:=fun b o z=>
      (ga b (Nat.ne_of_lt (Nat.lt_of_lt_of_le (Heap.lt_size z) M.new))).trans (M.keep b o z)
    have ob:ObjOk X.prog X.w (upd H1 d (.xd ((fs.zip ws).reverse++ [(f,v)]))) G d (.xd ((fs.zip ws).reverse++ [(f,v)])):=
      ⟨_,M.ns.at (fun o z=>(ga d M.dne).trans z),rel v u0 ws ur rv rw hl⟩
    have J:Inv X pins σ (upd H1 d (.xd ((fs.zip ws).reverse++ [(f,v)]))) ⟨G,g,dr,tk',os⟩:=I1.laid (t':=tk') old M.dbig ob
    refine⟨a,_,_,⟨G,g,dr,tk',os⟩,_,.ref C,some d,rfl,J,fun b o z=> ?_,gn,hoe,⟨rfl,rfl⟩,rfl,rfl,?_,rfl,I1.bare,
      raises_own T.eC T.tC,q1 d (I1.hok.fresh M.dbig)⟩
    · by_cases hb:b=a
      · subst hb
        have z':G.get? b=some o:=z
        rw[gn] at z'
        cases z'
      · exact (ga b hb).symm.trans z
    · rw[upd_ne (Ne.symm M.dne)]
      exact I1.hok.fresh M.new
theorem ps_err {e:Expr} {es:List Expr} {ta:TA} {W:WX} {p pos pos2:Pos} {k:Nat} (hc:X.calm=true)
    (T:ErrT X.K X.mg nm base B newId initId tl f fs C D fI st) (rel:ErRel f fs) (hr:Room (k+1) X.A) (tk:Takes X W)
    (ha:PA X (e::es) ta) (hg:Gl X nm) (hdb:(nm == ("__debug__" :Str))=false:=by decide)
    (he:starEach (e::es) X.env=(false,eval e X.env)::starEach es X.env:=by rfl)
    (hpl:(backTo pos (starEach es X.env)).any (·.1)=false:=by rfl):
    PS X (.Raise (some (.Call (.Name nm p) (e::es) [] pos)) none pos2) (fun _ σ H=>tErr C f fs ta σ H fun cls d H'=>W cls d σ H'):=
  ps_raise hc tk (pmk_err T rel hr ha hg hdb he hpl)
end

structure ErrQ (K:Frag) (C:Addr):Prop where
  ga:findIn K (.ref C) "__getattribute__" =some (some (.builtin "BaseException.__getattribute__"))
  gg:findIn K (.ref C) "__getattr__" =some none
  eC:subIn K (.ref C) (.type "BaseException")=some true
  hd:hasDictIn K C=true
  ic:isClsIn K C=true
  tC:typeIn K (.ref C)=some (.type "type")
  ca:findIn K (.ref C) "__class__" =some (some (.builtin "object.__class__"))
  ob:mroIn K C (.type "object")=some true
  me:subIn K (.ref C) (.ref C)=some true
structure ClsQ (K:Frag):Prop where
  get:specialIn K (.builtin "object.__class__") "__get__" =some (some (.builtin "getset_descriptor.__get__"))
  tk:takesIn K (.builtin "object.__class__")=some true
theorem ErrQ.xf {K:Frag} {C:Addr} (q:ErrQ K C):XfC K C:=⟨q.ga,q.gg,q.eC,q.hd⟩
theorem ErrQ.exm {K:Frag} {C C':Addr} {b:Bool} (q:ErrQ K C') (h:subIn K (.ref C) (.ref C')=some b):exmOne K (.ref C) (.ref C')=some b:=by
  have e1:(subIn K (.ref C') (.type "BaseException") == some true)=true:=by rw[q.eC] <;> rfl
  have ic:(clsIn K C').isSome=true:=q.ic
  have e2:((clsIn K C').isSome && typeIn K (.ref C') == some (.type "type"))=true:=by rw[ic,q.tC] <;> rfl
  show (if _ then (if _ then subIn K (.ref C) (.ref C') else none) else none)=some b
  rw[if_pos e1,if_pos e2]
  exact h
theorem ErrQ.kit {K:Frag} {C C':Addr} {b:Bool} (q:ErrQ K C') (h:subIn K (.ref C) (.ref C')=some b):kitOne K (.ref C) (.ref C')=some b:=by
  have ic:(clsIn K C').isSome=true:=q.ic
  have e2:((clsIn K C').isSome && typeIn K (.ref C') == some (.type "type"))=true:=by rw[ic,q.tC] <;> rfl
  unfold kitOne
  by_cases c:((Value.ref C == Value.ref C')=true)
  · have e:C=C':=Value.ref.inj (beq_iff_eq.mp c)
    subst e
    rw[q.me] at h
    rw[if_pos c]
    exact h
  · rw[if_neg c]
    show (if _ then subIn K (.ref C) (.ref C') else none)=some b
    rw[if_pos e2]
    exact h
theorem kit_bt {K:Frag} {C:Addr} {T:String} {b:Bool} (hm:kitMeta T=true) (h:subIn K (.ref C) (.type T)=some b):kitOne K (.ref C) (.type T)=some b:=by
  unfold kitOne
  rw[if_neg (by simp)]
  show (if _ then subIn K (.ref C) (.type T) else none)=some b
  rw[if_pos hm]
  exact h
def rIsErr (K:Frag) (a:Addr) (cls:Value) (d:Option Addr):List V→Hp→VK→Prop:=fun xs H Q=> ∃(C:Addr) (c:V) (b:Bool) (dd:Addr) (fs:List (Str×V)),
  xs= [.ref a,c]∧cls= .ref C∧d=some dd∧H dd=some (.xd fs)∧ErrQ K C∧ClsQ K∧
  ((∃u,ClsV c u∧kitOne K (.ref C) u=some b)∨ ∃tp cs us,c= .ref tp∧H tp=some (.tup cs)∧Paired ClsV cs us∧kitAny K (.ref C) us=some b)∧Q (.bl b) H
section
variable {X : Cx} {a : Addr} {oe : Obj} {cls : Value} {d : Option Addr} {pn : List (Addr × Obj)}
end
theorem bt_ValueError:bootBuiltins "ValueError" =some (.type "ValueError"):=by decide +kernel
theorem km_ValueError:kitMeta "ValueError" =true:=by decide +kernel
theorem kita_nil {K:Frag} {t:Value}:kitAny K t []=some false:=rfl
theorem kita_no {K:Frag} {t c:Value} {cs:List Value} {b:Bool} (h:kitOne K t c=some false) (hr:kitAny K t cs=some b):kitAny K t (c::cs)=some b:=by
  unfold kitAny
  rw[h]
  exact hr
theorem kita_yes {K:Frag} {t c:Value} {cs:List Value} (h:kitOne K t c=some true):kitAny K t (c::cs)=some true:=by
  unfold kitAny
  rw[h]

def CallS (X:Cx) (f:Value) (r:L2.St→List V→Hp→VK→Prop):Prop:=
  ∀(pins:List (Addr×Obj)) (s:Shared) (σ:L2.St) (H:Hp) (vs:List V) (us:List Value) (Q:VK),
    Inv X pins σ H s→Vals vs us→r σ vs H Q→wpAny (model X.prog X.w) X.A (call f us) (EP X pins σ Q) X.xe s
def CallKS (X:Cx) (f:Value) (ks:List Str) (r:L2.St→List V→List V→Hp→VK→Prop):Prop:=
  ∀(pins:List (Addr×Obj)) (s:Shared) (σ:L2.St) (H:Hp) (xs zs:List V) (us ws:List Value) (Q:VK),
    Inv X pins σ H s→Vals xs us→Vals zs ws→r σ xs zs H Q→
    wpAny (model X.prog X.w) X.A (call f us (ks.zip ws)) (EP X pins σ Q) X.xe s
def tCS (r:L2.St→List V→Hp→VK→Prop) (t:TA):TE:=fun σ H Q=>t σ H fun vs H1=>r σ vs H1 Q
def tCKS (r:L2.St→List V→List V→Hp→VK→Prop) (t tk:TA):TE:=fun σ H Q=>t σ H fun vs H1=>tk σ H1 fun zs H2=>r σ vs zs H2 Q
section
variable {X : Cx} {k : Nat} {f : Addr} {fd : FuncData} {ps ks : List Str} {sp : Sp} {dvs : List V} {ds : List Value} {W : WX}
theorem FnG.atS (F:FnG X.prog X.w X.K X.mg X.base k f fd ps sp) (hg:GOk X) (hr:Room k X.A)
    (hb:Binds X.K fd ps ds) (hd:Vals dvs ds) (tk:Takes X W):
    CallS X (.ref f) (fun σ vs H Q=>sp (vs++dvs) H Q (fun cls d H=>W cls d σ H)):=by
  intro pins s σ H vs us Q I rv h
  have r2:Vals (vs++dvs) (us++ds):=rv.append hd
  have hl:(us++ds).length=ps.length:=by rw[← r2.length];exact F.len _ _ _ _ h
  refine wpAny_call (codeAny_mono (F.run X.A X.stack s H ⟨us,[]⟩ (us++ds) (vs++dvs) Q _ hg hr I.env0
    (hb s us I.kIn hl) r2 h) fun r s' hq=> ?_)
  match r,hq with
  | .error e,hq=>exact tk e s' (XE.of_call I (fun _ _ _ h=>h) hq)
  | .ok (.ret u),hq=>exact I.after hq
  | .ok .next,hq=>exact hq.elim
  | .ok .brk,hq=>exact hq.elim
  | .ok .cont,hq=>exact hq.elim
theorem FnG.atKS {g:List Value→List Value→List Value} {gV:List V→List V→List V}
    (F:FnG X.prog X.w X.K X.mg X.base k f fd ps sp) (hg:GOk X) (hr:Room k X.A)
    (hb:KBinds X.K fd ps ks g gV) (tk:Takes X W):
    CallKS X (.ref f) ks (fun σ vs zs H Q=>sp (gV vs zs) H Q (fun cls d H=>W cls d σ H)):=by
  intro pins s σ H vs zs us ws Q I rv rz h
  have r2:=hb.rel rv rz
  have hl:(g us ws).length=ps.length:=by rw[← r2.length];exact F.len _ _ _ _ h
  refine wpAny_call (codeAny_mono (F.run X.A X.stack s H ⟨us,ks.zip ws⟩ (g us ws) (gV vs zs) Q _ hg hr I.env0
    (hb.to s us ws I.kIn hl) r2 h) fun r s' hq=> ?_)
  match r,hq with
  | .error e,hq=>exact tk e s' (XE.of_call I (fun _ _ _ h=>h) hq)
  | .ok (.ret u),hq=>exact I.after hq
  | .ok .next,hq=>exact hq.elim
  | .ok .brk,hq=>exact hq.elim
  | .ok .cont,hq=>exact hq.elim
variable {x : Str} {p pos : Pos} {e : Expr} {es : List Expr} {kws : List Keyword} {t tk : TA}
    {r : L2.St → List V → Hp → VK → Prop} {rk : L2.St → List V → List V → Hp → VK → Prop}
theorem pe_fnS (c:CallS X (.ref f) r) (hg:Gl X x) (hm:X.mg x=some (.ref f)) (hk:keepIn X.K (.ref f)=true)
    (ha:PA X (e::es) t) (hdb:(x == ("__debug__" :Str))=false:=by decide)
    (he:starEach (e::es) X.env=(false,eval e X.env)::starEach es X.env:=by rfl)
    (hpl:(backTo pos (starEach es X.env)).any (·.1)=false:=by rfl):PE X (.Call (.Name x p) (e::es) [] pos) (tCS r t):=by
  refine⟨fun pins s σ H Q I h=>wpAny_Call_Name_kw (ld_glob I hg hm ?_ hdb)⟩
  refine callWith_K (h₀:=X.base) I.ok.mod.kin hk (thn (ha.run pos pins s σ H _ I h) fun us s1 hh=> ?_) he hpl
  obtain⟨vs,H1,I1,rv,q⟩:=hh
  exact⟨I1.kIn,c pins s1 σ H1 vs us Q I1 rv q⟩
theorem pe_fnKS (c:CallKS X (.ref f) ks rk) (hg:Gl X x) (hm:X.mg x=some (.ref f)) (hk:keepIn X.K (.ref f)=true)
    (ha:PA X (e::es) t) (hkw:PK X kws tk) (hall:(backToKw pos (keywordEach kws X.env)).all (·.1.isSome)=true:=by rfl)
    (hks:(backToKw pos (keywordEach kws X.env)).filterMap (·.1)=ks:=by rfl) (hdb:(x == ("__debug__" :Str))=false:=by decide)
    (he:starEach (e::es) X.env=(false,eval e X.env)::starEach es X.env:=by rfl)
    (hpl:((backTo pos (starEach (e::es) X.env)).any (·.1) || (backToKw pos (keywordEach kws X.env)).any (·.1.isNone))=false:=by rfl):
    PE X (.Call (.Name x p) (e::es) kws pos) (tCKS rk t tk):=by
  refine⟨fun pins s σ H Q I h=>wpAny_Call_Name_kw (ld_glob I hg hm ?_ hdb)⟩
  refine callWith_KW (h₀:=X.base) I.ok.mod.kin hk hall (thn (ha.run pos pins s σ H _ I h) fun us s1 hh=> ?_) hpl he
  obtain⟨vs,H1,I1,rv,q⟩:=hh
  refine thn (hkw.run pos pins s1 σ H1 _ I1 q) fun ws s2 hh2=> ?_
  obtain⟨zs,H2,I2,rz,q2⟩:=hh2
  refine⟨I2.kIn,?_⟩
  rw[hks]
  exact c pins s2 σ H2 vs zs us ws Q I2 rv rz q2
end
section
variable {σ : L2.St} {H : Hp} {Q : VK} {tr tk : TA}
theorem s_cs {r:L2.St→List V→Hp→VK→Prop} (q:tr σ H fun vs H1=>r σ vs H1 Q):tCS r tr σ H Q:=q
theorem s_cks {r:L2.St→List V→List V→Hp→VK→Prop} (q:tr σ H fun vs H1=>tk σ H1 fun zs H2=>r σ vs zs H2 Q):tCKS r tr tk σ H Q:=q
end

theorem funD_of {K:Frag} {x qual:Str} {st:Stmt} {f D:Addr} {oc:Value} {od an:Option Addr} {osl:Array (Option Value)} {doc pm cdv ct:Value} {kws:List (Str×V)}
    (l:K.lookup f=some ⟨oc,od,.func (fnOf x qual (defArgs st) (defBody st) (defScope st) .none (.ref D) doc pm an cdv ct),osl⟩)
    (c:codeIn K cdv qual=true) (k:keepIn K (.ref f)=true) (hk: ∀q∈kws,∃u,nsIn K D q.1=some (some u)∧RelV q.2 u):
    FunD K x qual (defArgs st) (defBody st) (defScope st) [] kws f (fnOf x qual (defArgs st) (defBody st) (defScope st) .none (.ref D) doc pm an cdv ct):=
  ⟨⟨oc,od,.none,.ref D,doc,pm,an,cdv,ct,osl,rfl,l,c,.inl ⟨rfl,rfl⟩,.inr ⟨D,rfl,hk⟩⟩,k⟩
end PC

set_option Elab.async false
set_option linter.all false
set_option maxRecDepth 100000
set_option maxHeartbeats 2000000
namespace PC
open PySem PySem.Spec PyProof.Rows L2

section
variable {prog : Program} {w : World} {A : Around} {E : Value → Shared → Prop} {s : Shared}
theorem collect_tup {l:Addr} {vs:List Value} {Q:List Value→Shared→Prop} (ht:s.heap.IsTuple l vs.toArray) (few:vs.length≤sizeLine)
    (q:Q vs { s with heap:=(s.heap.push (seqObj "list" #[] 0)).update s.heap.objs.size (Obj.mapSeq (· ++vs.toArray)) }):
    wpAny (model prog w) A (collect (.ref l)) Q E s:=by
  obtain⟨o,ho,hc,n,hd⟩:=id ht
  unfold collect
  refine wpAny_bind (wpAny_runValue (codeAny_builtin entry_proto_collect' ?_))
  show wpAny _ _ (do again (.builtin "list.__iadd__" ⟨[← newList [],.ref l],[]⟩)) _ _ s
  refine wpAny_bind (wpAny_newList
    (wpAny_pure ⟨Code.quiet_builtin _ (by decide +kernel),codeAny_builtin entry_list_iadd' ?_⟩))
  show wpAny _ _ (Builtin.List.listExtendWith _ _ _) _ _ { s with heap:=s.heap.push (seqObj "list" #[] 0) }
  unfold Builtin.List.listExtendWith
  have ho2:(s.heap.push (seqObj "list" #[] 0)).get? l=some o:=Heap.get?_push_of_some _ ho
  refine wpAny_bind (wpAny_typeOf (T:= "tuple") ⟨o,ho2,hc⟩ ?_)
  have yes:(Value.type "tuple" == Value.type "tuple")=true:=by rfl
  rw[if_pos (by rw[yes];simp)]
  refine wpAny_bind (listItems_at ho2 hd ?_)
  refine wpAny_bind (listItems_at (n:=0) (xs:= #[]) (Heap.get?_push_size _ rfl) rfl ?_)
  rw[if_neg (by simp)]
  have few2:((#[]:Array Value)++vs.toArray).size≤sizeLine+1:=by
    simp only[Array.size_append,List.size_toArray,List.length_nil]
    omega
  refine wpAny_bind (listUpdate_at (n:=0) (xs:= #[]) (Heap.get?_push_size _ rfl) rfl ?_ (Nat.zero_le _) few2)
  refine wpAny_pure ?_
  refine wpAny_bind (wpAny_load (get?_update_seq (Heap.get?_push_size _ rfl) _) ?_)
  show wpAny _ _ (pure ((#[]:Array Value)++vs.toArray).toList) Q E _
  rw[show ((#[]:Array Value)++vs.toArray).toList=vs by simp]
  exact wpAny_pure q
theorem sorted_tup {l:Addr} {vs:List Value} {ltv:Value→Value→Bool} {Q:Value→Shared→Prop} (O:SrtO.Swo ltv)
    (ht:s.heap.IsTuple l vs.toArray) (few:vs.length≤sizeLine)
    (hS:2≤vs.length→ ∀(u:Heap) (a:Addr),SrtO.SortableO prog w A.in1.in1 { s with heap:=u } a vs ltv)
    (q: ∀out:List Value,SrtO.Srtd ltv out→SrtO.Stb ltv out vs→
      Q (.ref (s.heap.objs.size+1)) { s with heap:=sortedAll s.heap vs out.toArray }):
    wpAny (model prog w) A (call (.builtin "sorted") [.ref l]) Q E s:=by
  refine Calls.call_function_entry kind_sorted plain_sorted entry_sorted (args_sorted1 _) ?_
  unfold Builtin.«sorted»
  refine wpAny_bind (m:=checkCount "sorted" 1 1 _) (wpAny_pure ?_)
  refine wpAny_bind (collect_tup ht few (wpAny_bind (wpAny_newList ?_ few)))
  have one:((s.heap.push (seqObj "list" #[] 0)).update s.heap.objs.size (Obj.mapSeq (· ++vs.toArray))).objs.size=s.heap.objs.size+1:=by
    rw[Heap.size_update]
    exact Heap.size_push ..
  have new:(((s.heap.push (seqObj "list" #[] 0)).update s.heap.objs.size (Obj.mapSeq (· ++vs.toArray))).push
      (seqObj "list" vs.toArray 0)).get? (s.heap.objs.size+1)=some (seqObj "list" vs.toArray 0):=by
    rw[← one]
    exact Heap.get?_push_size _ rfl
  show wpAny _ _ _ _ _ { s with heap:=((s.heap.push (seqObj "list" #[] 0)).update s.heap.objs.size
    (Obj.mapSeq (· ++vs.toArray))).push (seqObj "list" vs.toArray 0) }
  rw[one]
  refine wpAny_bind (wpAny_holding (wpAny_call_entry slot_list_sort ⟨_,new,rfl⟩ entry_list_sort
    (SrtO.list_sort_ord O new few (fun h2=>hS h2 _ _) fun out hs hb=>⟨_,rfl,wpAny_pure ⟨_,rfl,q out hs hb⟩⟩) (args_list_sort _)))
end
def rSorted (K:PySem.W.Frag):List V→Hp→VK→Prop:=fun vs H Q=> ∃(a:Addr) (ns:List Int),vs= [V.ref a]∧
  (SqL K H a (ns.map V.int)∨SqT K H a (ns.map V.int))∧
  ∀(ms:List Int) (p:Addr),ms.Perm ns→ms.Pairwise (· ≤ ·)→H p=none→Q (.ref p) (upd H p (.lst (ms.map V.int)))
section
variable {X : Cx} {K : PySem.W.Frag}
theorem cr_sortedT {pins:List (Addr×Obj)} {σ:L2.St} {H:Hp} {s:Shared} {a:Addr} {ns:List Int} {Q:VK} (I:Inv X pins σ H s)
    (hs:SqT X.K H a (ns.map V.int))
    (q: ∀(ms:List Int) (p:Addr),ms.Perm ns→ms.Pairwise (· ≤ ·)→H p=none→Q (.ref p) (upd H p (.lst (ms.map V.int)))):
    wpAny (model X.prog X.w) X.A (call (.builtin "sorted") [.ref a]) (EP X pins σ Q) X.xe s:=by
  obtain⟨its,rv,hl,hz⟩:=I.tuple hs
  have hi:=rv.ints
  refine sorted_tup SrtO.swo_int (show s.heap.IsTuple a its.toArray from hl) (by rw[← rv.length];exact hz)
    (fun h2 u b=>SrtO.ints_sortable hi h2) fun out h1 h2=> ?_
  obtain⟨k1,k2,k3⟩:=SrtO.ints_out hi h1 h2
  obtain⟨ep,e⟩:=sortedAll_at s.heap its out.toArray
  have few:((out.map SrtO.iv).map V.int).length≤sizeLine:=by
    rw[List.length_map,k2.length_eq]
    simpa using hz
  have big:s.heap.objs.size≤s.heap.objs.size+1:=Nat.le_succ _
  exact⟨.ref _,upd H (s.heap.objs.size+1) (.lst ((out.map SrtO.iv).map V.int)),
    I.laid (t':=s.toks) (fun _ _=>sortedAll_old) big ⟨few,out,ep,vals_of_ints k1,e⟩,rfl,q _ _ k2 k3 (I.hok.fresh big)⟩
theorem call_sortedA:CallR X (.builtin "sorted") (rSorted X.K):=by
  intro pins s σ H vs us Q I r h
  obtain⟨a,ns,rfl,hs | hs,q⟩:=h
  · exact cr_sortedI pins s σ H _ us Q I r ⟨a,ns,rfl,hs,q⟩
  · rw[Vals.ref1 r]
    exact cr_sortedT I hs q
theorem kx_sorted (h:X.K=K):CallR X (.builtin "sorted") (rSorted K):=by subst h;exact call_sortedA
end

theorem Draws.tup {prog:Program} {w:World} {A:Around} (hh:A.handled=none) (it l:Addr) (hne:l≠it) (xs:Array Value):
    Draws prog w A it [it,l] xs.size (fun i v=>xs[i]?=some v) (fun i h=>h.IsTupleIter it l i∧h.IsTuple l xs) where
  live:=fun _ _ st=>let ⟨o,ho,_⟩:=st.1;⟨o,ho⟩
  frame:=fun _ _ _ st hk=>⟨st.1.at fun o e=>hk it (by simp) o e,let ⟨o,e,q⟩:=st.2;⟨o,hk l (by simp) o e,q⟩⟩
  item:=fun i s Q E hi st hQ=>by
    refine RZ.nextOf_tuple_item st.1 st.2 (x:=xs[i]) (by simp[hi]) fun h' hit hs=> ?_
    obtain⟨o,e,q⟩:=st.2
    exact hQ _ h' s.toks (by simp[hi]) ⟨hit,o,(hs.2 l hne).trans e,q⟩ hs
  done:=fun s Q E st hE=>RZ.nextOf_tuple_end hh st.1 st.2 (by simp) hE
abbrev enumO (i:Addr):Obj:= { cls:= .type "enumerate",data:= .fields #[.none,.bool false,.ref i,rawInt 0,.none,.none] }
section
open AutoSeq1 (wpAny_loadPart')
theorem meets_enum_tup (l:Addr) (xs:Array Value) (n:Nat) (dct:Option Addr) (sl:Array (Option Value)):
    Meets (Builtin.«enumerate.__new__» ⟨[.type "enumerate",.ref l],[]⟩) (fun _ R s=>
      s.heap.get? l=some { cls:= .type "tuple",dict:=dct,data:= .seq xs n,slots:=sl }∧
      R (.ok (.ret (.ref (s.heap.push { cls:= .type "tuple_iterator",data:= .fields #[.ref l,.int 0 0] }).objs.size)))
        { s with heap:=(s.heap.push { cls:= .type "tuple_iterator",data:= .fields #[.ref l,.int 0 0] }).push (enumO s.heap.objs.size) }):=
  .of_wp fun prog w A R s h=>by
    obtain⟨u,g,d,tk,os⟩:=s
    obtain⟨hl,h⟩:=h
    have hsub:=sub_enumerate
    have hL:Heap.IsTuple (Shared.heap ⟨u,g,d,tk,os⟩) l xs:=⟨_,hl,rfl,n,rfl⟩
    wp_walk using wpAny_loadPart' hl
    refine wpAny_stack_any fun st=>wpAny_pure ?_
    split
    · rename_i c _ _ _ _ _
      cases (c == Value.type "enumerate") <;>
        (wp_walk using wpAny_loadPart' hl,wpAny_pyIter_tuple hL;exact⟨_,rfl,h⟩)
    · (wp_walk using wpAny_loadPart' hl,wpAny_pyIter_tuple hL);exact⟨_,rfl,h⟩
end
section
variable {prog : Program} {w : World} {A : Around} {E : Value → Shared → Prop} {s : Shared}
theorem call_enum_tup {l:Addr} {xs:Array Value} {Q:Value→Shared→Prop} (ht:s.heap.IsTuple l xs)
    (h: ∀h',IsEnum h' (s.heap.objs.size+1) s.heap.objs.size 0 .none→h'.IsTupleIter s.heap.objs.size l 0→
      (∀b o,s.heap.get? b=some o→h'.get? b=some o)→Q (.ref (s.heap.objs.size+1)) { s with heap:=h' }):
    wpAny (model prog w) A (call (.type "enumerate") [.ref l]) Q E s:=by
  obtain⟨⟨c,dct,dt,sl⟩,hl,hc,n,hd⟩:=ht
  replace hc:c= .type "tuple" :=hc
  replace hd:dt= .seq xs n:=hd
  subst hc hd
  refine callType_new F.called_enumerate (by decide) (F.typeCall_enumerate_1 _) (F.newCall_enumerate_1 _)
    (fun obj=>F.args_object_init_2 obj _) F.entry_enumerate_new (meets_enum_tup l xs n dct sl) ⟨hl,?_⟩
  have one:(s.heap.push { cls:= .type "tuple_iterator",data:= .fields #[.ref l,.int 0 0] }).objs.size=s.heap.objs.size+1:=Heap.size_push ..
  show _∧_
  rw[one]
  have he:IsEnum ((s.heap.push { cls:= .type "tuple_iterator",data:= .fields #[.ref l,.int 0 0] }).push (enumO s.heap.objs.size))
      (s.heap.objs.size+1) s.heap.objs.size 0 .none:=by
    have q:=Heap.get?_push_size (s.heap.push { cls:= .type "tuple_iterator",data:= .fields #[.ref l,.int 0 0] })
      (o:=enumO s.heap.objs.size) rfl
    rw[one] at q
    exact q
  exact⟨⟨_,he,rfl⟩,h _ he ⟨_,Heap.get?_push_of_some _ (Heap.get?_push_size _ rfl),rfl,rfl⟩
    fun b o x=>Heap.get?_push_of_some _ (Heap.get?_push_of_some _ x)⟩
end
section
variable {prog : Program} {w : World} {A : Around} {E : Value → Shared → Prop} {s : Shared}
theorem enum_tup_end {e it l:Addr} {xs:Array Value} {i:Nat} {k:Int} {old:Value} {Q:Option Value→Shared→Prop} (hh:A.handled=none)
    (he:IsEnum s.heap e it k old) (hit:s.heap.IsTupleIter it l i) (hl:s.heap.IsTuple l xs) (hx:xs[i]?=none)
    (q: ∀h',Heap.ExtBut it s.heap h'→Q none { s with heap:=h' }):wpAny (model prog w) A (pyNext (.ref e)) Q E s:=by
  have ty:s.TypeIs (.ref e) "enumerate" :=⟨_,he,rfl⟩
  unfold pyNext
  refine wpAny_bind (wpAny_attempt (wpAny_callSpecial?_slot (name:=Str.ofString "__next__") ty F.slot_enumerate_next
    (wpAny_call_entry F.slot_enumerate_next ty F.entry_enumerate_next ?_ (F.args_enumerate_next_1 _))))
  show wpAny (model prog w) _ (field (.ref e) 2 >>= _) _ _ s
  refine wpAny_bind (wpAny_field he rfl (x:= .ref it) rfl ?_)
  refine wpAny_bind (RZ.nextOf_tuple_end hh hit hl hx fun h' x hb hx=> ?_)
  obtain⟨o,ho,hc⟩:=hx
  refine wpAny_bind (wpAny_isInstance (T:= "StopIteration") (b:=true) ⟨o,ho,hc⟩ isSubtype_stop ?_)
  exact wpAny_pure (q _ hb)
end
def IteT (K:PySem.W.Frag) (a:Addr):It:=
  ⟨fun i H=> ∃(xs:List V) (x:V),SqT K H a xs∧xs[i]?=some x,
   fun i H v H'=> ∃T x,v= .ref T∧H T=none∧H'=upd H T (.tup [.int (i:Nat),x])∧ ∀xs,SqT K H a xs→xs[i]?=some x,
   fun i H=> ∃xs:List V,SqT K H a xs∧xs.length≤i⟩
theorem turn_enumT {P:Program} {w:World} {K:PySem.W.Frag} {elts:List Expr} {kk:Nat} {tpos:Pos} (a e it:Addr) (hai:a≠it) (hae:e≠a):
    Turn P w K (.Tuple elts kk tpos) (IteT K a) [e,it] e
      (fun i h=>(∃old,IsEnum h e it ((i:Nat):Int) old)∧h.IsTupleIter it a i∧e≠it) where
  mem:=by simp
  obj:=fun i h st b hb=>by
    obtain⟨⟨old,he⟩,⟨o,ho,hc,hd⟩,_⟩:=st
    rcases (show b=e∨b=it by simpa using hb) with z | z
    · subst z
      exact⟨_,he,fun v q=>nomatch q⟩
    · subst z
      exact⟨o,ho,fun v q=>by rw[hd] at q;cases q⟩
  keep:=fun i h h' st k=>
    let ⟨⟨old,he⟩,hi,hne⟩:=st
    ⟨⟨old,k e (by simp) _ he⟩,hi.at fun o q=>k it (by simp) o q,hne⟩
  item:=by
    intro X hP hw hK hc i pins s σ H E I hf st hg
    subst hP hw hK
    obtain⟨⟨old,he⟩,hit,hne⟩:=st
    obtain⟨xs,x,hq,hx⟩:=hg
    obtain⟨its,rv,p,hz⟩:=I.tuple hq
    obtain⟨u,hu,ru⟩:=rv.get hx
    have le:e<s.heap.objs.size:=Heap.lt_size he
    have li:it<s.heap.objs.size:=by
      obtain⟨_,q,_⟩:=hit
      exact Heap.lt_size q
    have lt:i<its.toArray.size:=by
      have q:=(List.getElem?_eq_some_iff.mp hu).1
      simpa using q
    refine wpAny_pyNext_enum_itemD (Draws.tup (A:=X.A.in1) (I.ok.hd hc) it a hai its.toArray) he ⟨hit,p⟩ lt hne (by simp[hne,hae])
      fun y h' tk hy ho st' hT hsz hk=> ?_
    obtain rfl:y=u:=by
      have q:its.toArray[i]?=some y:=hy
      have q2:its.toArray[i]?=some u:=by simpa using hu
      exact Option.some.inj (q.symm.trans q2)
    refine⟨_,rfl,wpAny_letOwnedTupleGo_enum (s:= { s with heap:=h',toks:=tk+1 }) ho fun h'' he' sb=> ?_⟩
    have hT2:h''.get? s.heap.objs.size=some { cls:= .type "tuple",data:= .seq #[.int i tk,y] }:=
      (sb.2 _ (Nat.ne_of_gt le)).trans hT
    have new:ObjOk X.prog X.w (upd H s.heap.objs.size (.tup [.int (i:Nat),x])) h'' s.heap.objs.size (.tup [.int (i:Nat),x]):=
      ⟨by show 2≤sizeLine;decide,[.int i tk,y],.cons ⟨_,rfl⟩ (.cons ru .nil),⟨_,hT2,rfl,_,rfl⟩⟩
    have I1:Inv X pins σ (upd H s.heap.objs.size (.tup [.int (i:Nat),x])) { s with heap:=h'',toks:=tk+1 }:=
      I.turnedNew (ch:= [e,it]) (fun b ob hb q=>(sb.2 b (fun z=>hb (by simp[z]))).trans
        (hk b ob (fun z=>hb (by simp[z])) (fun z=>hb (by simp[z])) q)) hf (Nat.le_refl _) new
    refine⟨.ref s.heap.objs.size,_,I1,rfl,⟨_,x,rfl,I.hok.fresh (Nat.le_refl _),rfl,fun ys hy=> ?_⟩,
      ⟨⟨y,?_⟩,st'.1.at fun o q=>(sb.2 it (Ne.symm hne)).trans q,hne⟩,fun b hb=> ?_⟩
    · rw[I.tuple_inj hy hq]
      exact hx
    · have e1:((i+1:Nat):Int)=(i:Int)+1:=by omega
      rw[e1]
      exact he'
    · have lb:b<s.heap.objs.size:=by
        rcases (show b=e∨b=it by simpa using hb) with z | z
        · rw[z];exact le
        · rw[z];exact li
      rw[upd_ne (Nat.ne_of_lt lb)]
      exact (hf b hb).1
  done:=by
    intro X hP hw hK hc i pins s σ H E I hf st hg
    subst hP hw hK
    obtain⟨⟨old,he⟩,hit,hne⟩:=st
    obtain⟨xs,hq,hx⟩:=hg
    obtain⟨its,rv,p,hz⟩:=I.tuple hq
    obtain⟨f0,f1,f2,f3,f4,f5⟩:=hf it (by simp)
    have hl:=rv.length
    exact enum_tup_end (I.ok.hd hc) he hit p (by simp;omega) fun h' eb=>⟨rfl,I.turned (t':=s.toks) (fun b o hb q=>eb b o hb q) f0 f1 f3 f4 f5⟩
  self:=fun A i s Q E st h=>let ⟨⟨_,he⟩,_⟩:=st;wpAny_pyIter_enum he h

def iEnumA (K:PySem.W.Frag) (ta:TA):TI:=fun σ H R=>ta σ H fun vs H1=> ∃a xs,vs= [.ref a]∧((SqL K H1 a xs∧R (Ite K a) H1)∨(SqT K H1 a xs∧R (IteT K a) H1))
theorem pi_enumA {X:Cx} {K:PySem.W.Frag} (hK:X.K=K) {e:Expr} {ta:TA} {p pos tpos:Pos} {elts:List Expr} {kk:Nat} (hg:Gl X "enumerate") (hm:X.mg "enumerate" =none)
    (ha:PA X [e] ta) (hs:starEach [e] X.env= [(false,eval e X.env)]:=by rfl):
    PI X (.Tuple elts kk tpos) (.Call (.Name "enumerate" p) [e] [] pos) (iEnumA K ta):=by
  subst hK
  refine⟨fun pins s σ H R I h=> ?_⟩
  refine Call_ (ld_blt I hg hm boot_enumerate (callWith_type1 (thn (ha.run pos pins s σ H _ I h) fun us s1 hh=> ?_) hs rfl))
  obtain⟨vs,H1,I1,r1,a,xs,ex,hq⟩:=hh
  subst ex
  cases r1 with
  | cons r rr=>
    cases rr
    cases r
    have fp: ∀b∈ [s1.heap.objs.size+1,s1.heap.objs.size],FpOk X pins H1 b:=fun b hb=>by
      have le:s1.heap.objs.size≤b:=by
        rcases (show b=s1.heap.objs.size+1∨b=s1.heap.objs.size by simpa using hb) with z | z
        · rw[z];exact Nat.le_succ _
        · rw[z];exact Nat.le_refl _
      exact I1.fpOk le (I1.hok.fresh le)
    rcases hq with ⟨hq,q⟩ | ⟨hq,q⟩
    · obtain⟨its,rv,p',hz⟩:=I1.list hq
      refine call_enumerate_list p'.isList fun h' he hit hsz hk=>wpAny_pyIter_enum he ?_
      exact⟨s1.heap.objs.size+1,[s1.heap.objs.size+1,s1.heap.objs.size],_,_,H1,rfl,I1.kept (t':=s1.toks) hk,
        turn_enum a (s1.heap.objs.size+1) s1.heap.objs.size,⟨⟨.none,he⟩,hit,Nat.succ_ne_self _⟩,fp,q⟩
    · obtain⟨its,rv,p',hz⟩:=I1.tuple hq
      obtain⟨o,ho,_⟩:=id p'
      have la:a<s1.heap.objs.size:=Heap.lt_size ho
      refine call_enum_tup (show s1.heap.IsTuple a its.toArray from p') fun h' he hit hk=>wpAny_pyIter_enum he ?_
      exact⟨s1.heap.objs.size+1,[s1.heap.objs.size+1,s1.heap.objs.size],_,_,H1,rfl,I1.kept (t':=s1.toks) hk,
        turn_enumT a (s1.heap.objs.size+1) s1.heap.objs.size (Nat.ne_of_lt la) (Nat.ne_of_gt (Nat.lt_succ_of_lt la)),⟨⟨.none,he⟩,hit,Nat.succ_ne_self _⟩,fp,q⟩
section
variable {K : PySem.W.Frag} {a b : Addr} {xs ys : List V}
theorem walk_enumT:Walk (IteT K a) xs.length (fun H=>SqT K H a xs) (YPair (fun i=>some (.int (i:Nat))) (fun i=>xs[i]?)):=by
  refine⟨fun i _ hi q=>⟨xs,xs[i],q,by simp[hi]⟩,fun _ q=>⟨xs,q,Nat.le_refl _⟩,fun i H v H' _ q y=> ?_⟩
  obtain⟨T,x,h1,h2,h3,h4⟩:=y
  exact⟨T,.int (i:Nat),x,h1,h2,h3,rfl,h4 xs q⟩
end
def iOr (w1 w2:TI):TI:=fun σ H R=>w1 σ H R∨w2 σ H R
theorem PI.or {X:Cx} {tg e:Expr} {w1 w2:TI} (h1:PI X tg e w1) (h2:PI X tg e w2):PI X tg e (iOr w1 w2):=
  ⟨fun pins s σ H R I h=>h.elim (h1.run pins s σ H R I) (h2.run pins s σ H R I)⟩
theorem pi_seq {X:Cx} {K:PySem.W.Frag} {tg e:Expr} {te:TE} (hK:X.K=K) (he:PE X e te):PI X tg e (iOr (iList K te) (iTup K te)):=by
  subst hK
  exact PI.or (pi_list he) (pi_tup he)
theorem pi_tupK {X:Cx} {K:PySem.W.Frag} {tg e:Expr} {te:TE} (hK:X.K=K) (he:PE X e te):PI X tg e (iTup K te):=by subst hK;exact pi_tup he
theorem pi_zipK {X:Cx} {K:PySem.W.Frag} {e e2:Expr} {ta:TA} {p pos tpos:Pos} {elts:List Expr} {kk:Nat} (hK:X.K=K) (hg:Gl X "zip") (hm:X.mg "zip" =none) (ha:PA X [e,e2] ta)
    (hs:starEach [e,e2] X.env=(false,eval e X.env)::starEach [e2] X.env:=by rfl) (hpl:(backTo pos (starEach [e2] X.env)).any (·.1)=false:=by rfl):
    PI X (.Tuple elts kk tpos) (.Call (.Name "zip" p) [e,e2] [] pos) (RZ.iZipA K ta):=by
  subst hK
  exact RZ.pi_zipA hg hm ha hs hpl
theorem pg_tupK {X:Cx} {K:PySem.W.Frag} {pos:Pos} {es:List Expr} {k:Nat} {t:TGs} {n:Nat} (hK:X.K=K) (hc:X.calm=true) (h:PGs X es t)
    (hn:(assignEach es X.env).length=n:=by rfl) (hst:(assignEach es X.env).findIdx? (·.1)=none:=by rfl):PG X (.Tuple es k pos) (gTup K n t):=by
  subst hK
  exact pg_tup hc h hn hst
end PC

set_option Elab.async false
set_option linter.all false
set_option maxRecDepth 100000
set_option maxHeartbeats 2000000
namespace PC
open PySem PySem.Spec PyProof.Rows L2

section
variable {X : Cx} {K : PySem.W.Frag} {o e : Expr} {es : List Expr} {to : TE} {t : TA} {name : Str} {apos cpos : Pos} {T id : String} {r : V → List V → Hp → VK → Prop}
theorem pe_bmK (hK:X.K=K) (pa:PlainAttrs T) (slot:Slot T name id) (hty:typeOf (.builtin id)=pure (.type "method_descriptor")) (hm:MtR X id r)
    (ho:PE X o to) (ha:PA X (e::es) t) (hbase:attributeBase o name X.env (eval o X.env)=eval o X.env:=by rfl)
    (hfew:((backTo cpos (starEach (e::es) X.env)).all (fun x=> !x.1) && (backToKw cpos (keywordEach [] X.env)).all (fun x=>x.1.isSome) &&
      decide ((e::es).length+([]:List Keyword).length+(if ([]:List Keyword).isEmpty then 0 else 1)<30))=true:=by rfl)
    (hline:(apos.endLine == cpos.line)=true:=by rfl) (hs:starEach (e::es) X.env=(false,eval e X.env)::starEach es X.env:=by rfl)
    (hplain:(backTo cpos (starEach es X.env)).any (·.1)=false:=by rfl):
    PE X (.Call (.Attribute o name apos) (e::es) [] cpos) (tBM K T r to t):=by
  subst hK
  exact pe_bm pa slot hty hm ho ha hbase hfew hline hs hplain
end
section
variable {σ : L2.St} {H : Hp} {Q : VK} {D : Ends} {K : PySem.W.Frag} {p a : Addr} {Z : List Addr} {x v : V} {d : PyData} {xs : List V} {to te : TE} {t : TA} {T : String} {r : V → List V → Hp → VK → Prop}
theorem s_bm (q:to σ H fun x H1=>tyV K T x H1∧t σ H1 fun xs H2=>r x xs H2 Q):tBM K T r to t σ H Q:=q
theorem s_bm0 (q:to σ H fun x H1=>tyV K T x H1∧r x [] H1 Q):tBM0 K T r to σ H Q:=q
theorem ty_lst (h:H a=some (.lst xs)):tyV K "list" (.ref a) H:= .inl ⟨rfl,xs,.inl (.inl h)⟩
theorem s_append {y:V} (h:H a=some (.lst xs)) (hz:xs.length<sizeLine) (q:Q .non (upd H a (.lst (xs++ [y])))):rAppend (.ref a) [y] H Q:=⟨a,xs,y,rfl,rfl,h,hz,q⟩
theorem s_popAt {i:Nat} (h:H a=some (.lst xs)) (hi:i<xs.length) (hb:i<2 ^ 62) (q: ∀y,xs[i]?=some y→Q y (upd H a (.lst (xs.eraseIdx i)))):rPopAt (.ref a) [.int i] H Q:=by
  refine⟨a,xs,i,i,xs[i],rfl,rfl,h,by omega,by omega,?_,List.getElem?_eq_getElem hi,q _ (List.getElem?_eq_getElem hi)⟩
  have e:ixN xs.length (i:Int)=some i:=by
    unfold ixN
    rw[if_pos (by omega),if_pos (by omega)]
    rfl
  exact (ixN_seq e).1
theorem s_isiLT (hx:Dat K Z H d x) (hT:H a=some (.tup [.ty "list",.ty "tuple"])) (q:Q (.bl (isD d "list" || isD d "tuple")) H):rIsiT K [x,.ref a] H Q:=by
  refine⟨x,a,_,_,[.type "list",.type "tuple"],_,rfl,hT,.cons (.ty _) (.cons (.ty _) .nil),hx.ty,?_,q⟩
  have k1:=kit_ty (K:=K) (kit_isD d (T:= "list") (by simp))
  have k2:=kit_ty (K:=K) (kit_isD d (T:= "tuple") (by simp))
  unfold PySem.W.kitAny
  rw[k1]
  cases isD d "list" with
  | true=>rfl
  | false=>
    show PySem.W.kitAny K _ _=_
    unfold PySem.W.kitAny
    rw[k2]
    cases isD d "tuple" <;> rfl
theorem s_iZip {ta:TA} {RI:It→Hp→Prop} (q:ta σ H fun vs H1=> ∃a b xs ys,vs= [.ref a,.ref b]∧((SqL K H1 a xs∧SqL K H1 b ys∧RI (Itz K a b) H1)∨(SqT K H1 a xs∧SqT K H1 b ys∧RI (RZ.ItzT K a b) H1))):RZ.iZipA K ta σ H RI:=q
theorem s_lstRg {tr:L2.St→Hp→(Int→Int→Hp→Prop)→Prop} (q:tr σ H fun a b H1=>RgOk a b∧ ∀q,H1 q=none→Q (.ref q) (upd H1 q (.lst (rgV a b)))):tLstRg tr σ H Q:=q
theorem s_rg1 {ta:TE} {QR:Int→Int→Hp→Prop} (q:ta σ H fun x H1=> ∃n,x= .int n∧QR 0 n H1):tRg1 ta σ H QR:=q
theorem s_rg2 {ta tb:TE} {QR:Int→Int→Hp→Prop} (q:ta σ H fun x H1=>tb σ H1 fun y H2=> ∃i j,x= .int i∧y= .int j∧QR i j H2):tRg2 ta tb σ H QR:=q
theorem s_raise {C:Addr} {f:Str} {fs:List Str} {ta:TA} {QX:XK} (q:ta σ H fun vs H1=> ∃v ws,vs=v::ws∧ws.length=fs.length∧
    ∀d,H1 d=none→QX (.ref C) (some d) (upd H1 d (.xd ((fs.zip ws).reverse++ [(f,v)])))):tErr C f fs ta σ H QX:=q
theorem s_xf {cls:Value} {dd:Option Addr} {C:Addr} {f:Str} (q:te σ H fun x H1=>x= .ref a∧cls= .ref C∧
    ∃(b:Addr) (fs:List (Str×V)) (v:V),dd=some b∧H1 b=some (.xd fs)∧fs.lookup f=some v∧Q v H1):tXf a cls dd C f te σ H Q:=q
end

def seqD:PyData→Option (List PyData)
  | .list ds=>some ds
  | .tuple ds=>some ds
  | _=>none
section
variable {σ : L2.St} {H : Hp} {Q : VK} {K : PySem.W.Frag} {p a : Addr} {Z : List Addr} {x v : V} {d : PyData} {ds : List PyData} {xs : List V} {RI : It → Hp → Prop}
theorem Dat.seq (h:Dat K Z H d x) (hs:seqD d=some ds): ∃a xs,x= .ref a∧DatL K Z H ds xs∧
    ((SqL K H a xs∧ ∀p H',p∈Z→R p H H'→SqL K H' a xs)∨(SqT K H a xs∧ ∀p H',p∈Z→R p H H'→SqT K H' a xs)):=by
  cases d with
  | list es=>
    cases hs
    simp only[Dat] at h
    obtain⟨a,xs,e,n,s,l⟩:=h
    exact⟨a,xs,e,l,.inl ⟨.inl s,fun p H' hp r=>SqL.up r (fun z=>n (z ▸ hp)) (.inl s)⟩⟩
  | tuple es=>
    cases hs
    simp only[Dat] at h
    obtain⟨a,xs,e,n,s,l⟩:=h
    exact⟨a,xs,e,l,.inr ⟨s,fun p H' hp r=>SqT.up r hp n s⟩⟩
  | _=>cases hs
end

section
variable {J : It} {n : Nat} {G : Hp → Prop} {Y : Nat → Hp → V → Hp → Prop} {K : PySem.W.Frag} {p : Addr} {Z : List Addr} {H : Hp} {Q : VK}
end
structure Mix (p L D:Addr) (xs:List V) (H H':Hp) (i:Nat):Prop where
  step:R p H H'
  ex: ∃left acc,H' L=some (.lst left)∧H' D=some (.lst acc)∧acc.length=i∧left.length+i=xs.length∧(acc++left).Perm xs
end PC

set_option Elab.async false
set_option linter.all false
set_option maxRecDepth 100000
set_option maxHeartbeats 2000000
namespace PC
open PySem PySem.Spec PyProof.Rows L2

theorem under_guards {K:PySem.W.Frag} {base:Heap} {A:Around} {C:Addr} {us:List Value} {kw:List (Str×Value)} (hg:GOkA K A base):
    GOkA K (A.under (.builtin "type.__call__" ⟨.ref C::us,kw⟩)) base:=by
  obtain⟨gs,e,h⟩:=hg
  refine⟨gs,?_,h⟩
  first
  | exact e
  | simp[Around.under,Code.weight,Code.isCreation,Code.isGuard,Code.isCaller,Code.frames,Code.isFrame,guardIds,e]

section
variable {X : Cx} {k : Nat} {f C : Addr} {fd : FuncData} {ps ks : List Str} {sp : Sp} {dvs : List V} {ds : List Value} {W : WX}
def OutP (X:Cx) (pins:List (Addr×Obj)) (σ:L2.St) (Q:VK):Result→Shared→Prop
  | .ok (.ret v),s'=>EP X pins σ Q v s'
  | .ok _,_=>False
  | .error e,s'=>X.xe e s'
theorem out_of {pins:List (Addr×Obj)} {σ:L2.St} {H:Hp} {s:Shared} {Q:VK} (I:Inv X pins σ H s) (tk:Takes X W) {r:Result} {s':Shared}
    (hq:CR (L2.CX X.prog X.w) X.stack X.prog X.w H s Q (fun cls d H=>W cls d σ H) r s'):
    OutP X pins σ Q r s':=by
  match r,hq with
  | .error e,hq=>exact tk e s' (XE.of_call I (fun _ _ _ h=>h) hq)
  | .ok (.ret u),hq=>exact I.after hq
  | .ok .next,hq=>exact hq.elim
  | .ok .brk,hq=>exact hq.elim
  | .ok .cont,hq=>exact hq.elim
def mkSp (C:Addr) (sp:Sp) (dvs:List V) (W:WX):L2.St→List V→Hp→VK→Prop:=fun σ vs H Q=> ∀x dx,H x=none→H dx=none→dx≠x→
  sp (.ref x::(vs++dvs)) (upd (upd H dx (.own x)) x (.ins C dx [])) (fun v H2=>v= .non∧Q (.ref x) H2) (fun cls d H=>W cls d σ H)
theorem FnG.make (F:FnG X.prog X.w X.K X.mg X.base k f fd ps sp) (M:Mk X.K C f) (hg:GOk X) (hr:Room (k+1) X.A)
    (hb:Binds X.K fd ps ds) (hd:Vals dvs ds) (tk:Takes X W):CallS X (.ref C) (mkSp C sp dvs W):=by
  intro pins s σ H vs us Q I r h
  have hq:=h (s.heap.objs.size+1) s.heap.objs.size (I.hok.fresh (Nat.le_succ _)) (I.hok.fresh (Nat.le_refl _)) (Nat.ne_of_lt (Nat.lt_succ_self _))
  have I2:=Inv.made (C:=C) I
  have r2:Vals (V.ref (s.heap.objs.size+1)::(vs++dvs)) (Value.ref (s.heap.objs.size+1)::(us++ds)):= .cons rfl (r.append hd)
  have hl:(Value.ref (s.heap.objs.size+1)::us++ds).length=ps.length:=by
    have e:=r2.length
    rw[F.len _ _ _ _ hq] at e
    exact e.symm
  refine wpAny_call (make_map (f:=f) I.kIn M.makes M.init (beq_iff_eq.mp M.fn) (codeAny_mono
    (F.run _ X.stack _ _ ⟨Value.ref (s.heap.objs.size+1)::us,[]⟩ _ _ _ _ (under_guards hg) (hr.make C us []) (I2.env0.make C us [])
      (hb _ (Value.ref (s.heap.objs.size+1)::us) I2.kIn hl) r2 hq) fun r s' hq'=> ?_))
  have o:=out_of I2 tk hq'
  clear hq'
  match r,o with
  | .error e,o=>exact o
  | .ok (.ret u),o=>
    obtain⟨v,H',I3,rv,ev,q3⟩:=o
    subst ev
    exact⟨rv,⟨V.ref (s.heap.objs.size+1),H',I3,rfl,q3⟩⟩
  | .ok .next,o=>exact o.elim
  | .ok .brk,o=>exact o.elim
  | .ok .cont,o=>exact o.elim
def mkSpK (C:Addr) (sp:Sp) (gV:List V→List V→List V) (W:WX):L2.St→List V→List V→Hp→VK→Prop:=fun σ vs zs H Q=> ∀x dx,H x=none→H dx=none→dx≠x→
  sp (gV (.ref x::vs) zs) (upd (upd H dx (.own x)) x (.ins C dx [])) (fun v H2=>v= .non∧Q (.ref x) H2) (fun cls d H=>W cls d σ H)
theorem FnG.makeK {g:List Value→List Value→List Value} {gV:List V→List V→List V}
    (F:FnG X.prog X.w X.K X.mg X.base k f fd ps sp) (M:Mk X.K C f) (hg:GOk X) (hr:Room (k+1) X.A)
    (hb:KBinds X.K fd ps ks g gV) (tk:Takes X W):CallKS X (.ref C) ks (mkSpK C sp gV W):=by
  intro pins s σ H vs zs us ws Q I r rz h
  have hq:=h (s.heap.objs.size+1) s.heap.objs.size (I.hok.fresh (Nat.le_succ _)) (I.hok.fresh (Nat.le_refl _)) (Nat.ne_of_lt (Nat.lt_succ_self _))
  have I2:=Inv.made (C:=C) I
  have r2:=hb.rel (vs:= .ref (s.heap.objs.size+1)::vs) (us:= .ref (s.heap.objs.size+1)::us) (.cons rfl r) rz
  have hl:(g (Value.ref (s.heap.objs.size+1)::us) ws).length=ps.length:=by
    rw[← r2.length]
    exact F.len _ _ _ _ hq
  refine wpAny_call (make_map (f:=f) I.kIn M.makes M.init (beq_iff_eq.mp M.fn) (codeAny_mono
    (F.run _ X.stack _ _ ⟨Value.ref (s.heap.objs.size+1)::us,ks.zip ws⟩ _ _ _ _ (under_guards hg) (hr.make C us (ks.zip ws))
      (I2.env0.make C us (ks.zip ws)) (hb.to _ (Value.ref (s.heap.objs.size+1)::us) ws I2.kIn hl) r2 hq) fun r s' hq'=> ?_))
  have o:=out_of I2 tk hq'
  clear hq'
  match r,o with
  | .error e,o=>exact o
  | .ok (.ret u),o=>
    obtain⟨v,H',I3,rv,ev,q3⟩:=o
    subst ev
    exact⟨rv,⟨V.ref (s.heap.objs.size+1),H',I3,rfl,q3⟩⟩
  | .ok .next,o=>exact o.elim
  | .ok .brk,o=>exact o.elim
  | .ok .cont,o=>exact o.elim
variable {x m : Str} {p pos apos : Pos} {o e : Expr} {es : List Expr} {kws : List Keyword} {to : TE} {t tk : TA}
    {r : L2.St → List V → Hp → VK → Prop} {rk : L2.St → List V → List V → Hp → VK → Prop} {pl : Sem Bool}
def tMS (m:Str) (C:Addr) (r:L2.St→List V→Hp→VK→Prop) (to:TE) (t:TA):TE:=fun σ H Q=>to σ H fun x H1=>
  ∃a dx fs,x= .ref a∧H1 a=some (.ins C dx fs)∧fs.lookup m=none∧t σ H1 fun vs H2=>r σ (x::vs) H2 Q
def tMKS (m:Str) (C:Addr) (r:L2.St→List V→List V→Hp→VK→Prop) (to:TE) (t tk:TA):TE:=fun σ H Q=>to σ H fun x H1=>
  ∃a dx fs,x= .ref a∧H1 a=some (.ins C dx fs)∧fs.lookup m=none∧t σ H1 fun vs H2=>tk σ H2 fun zs H3=>r σ (x::vs) zs H3 Q
theorem pe_mS (c:CallS X (.ref f) r) (cl:Cls X.K C) (hm:Meth X.K C m f) (ho:PE X o to) (ha:PA X (e::es) t)
    (hst:starEach (e::es) X.env=(false,eval e X.env)::starEach es X.env:=by rfl) (hpl:(backTo pos (starEach es X.env)).any (·.1)=false:=by rfl)
    (ht:eval (.Call (.Attribute o m apos) (e::es) [] pos) X.env=(do
      let ov ← eval o X.env
      standAt apos.atName
      let (f,first) ← holding [ov] (getMethod ov m pl)
      callWith pos f first (backTo pos (starEach (e::es) X.env)) (backToKw pos (keywordEach [] X.env))):=by rfl):
    PE X (.Call (.Attribute o m apos) (e::es) [] pos) (tMS m C r to t):=by
  refine⟨fun pins s σ H Q I h=>PySem.W.methodCall_KW (pl:=pl) (thn (ho.run pins s σ H _ I h) fun u s1 hh=> ?_) ht⟩
  obtain⟨x,H1,I1,rx,a,dx,fs,ex,ea,l,q⟩:=hh
  subst ex
  obtain rfl:u=Value.ref a:=rx
  refine getmeth_ok I1 ea cl hm l ?_
  refine PySem.W.callWith_K (first:= [.ref a]) (h₀:=X.base) I.ok.mod.kin hm.kp (thn (ha.run pos pins s1 σ H1 _ I1 q) fun us s2 hh2=> ?_) hst hpl
  obtain⟨vs,H2,I2,rv,q2⟩:=hh2
  exact⟨I2.kIn,c pins s2 σ H2 (.ref a::vs) (.ref a::us) Q I2 (.cons rfl rv) q2⟩
theorem pe_mS0 (c:CallS X (.ref f) r) (cl:Cls X.K C) (hm:Meth X.K C m f) (ho:PE X o to)
    (ht:eval (.Call (.Attribute o m apos) [] [] pos) X.env=(do
      let ov ← eval o X.env
      standAt apos.atName
      let (f,first) ← holding [ov] (getMethod ov m pl)
      callWith pos f first (backTo pos (starEach [] X.env)) (backToKw pos (keywordEach [] X.env))):=by rfl):
    PE X (.Call (.Attribute o m apos) [] [] pos) (tMS m C r to tNil):=by
  refine⟨fun pins s σ H Q I h=>PySem.W.methodCall_KW (pl:=pl) (thn (ho.run pins s σ H _ I h) fun u s1 hh=> ?_) ht⟩
  obtain⟨x,H1,I1,rx,a,dx,fs,ex,ea,l,q⟩:=hh
  subst ex
  obtain rfl:u=Value.ref a:=rx
  refine getmeth_ok I1 ea cl hm l ?_
  exact PySem.W.callWith_K0 (first:= [.ref a]) I1.kIn hm.kp (c pins s1 σ H1 [.ref a] [.ref a] Q I1 (.cons rfl .nil) q)
end

section
variable {X : Cx} {k : Nat} {f C : Addr} {fd : FuncData} {ps : List Str} {sp : Sp}
theorem FnG.own (F:FnG X.prog X.w X.K X.mg X.base k f fd ps sp) (hg:GOk X) {A:Around} (hgA:GOkA X.K A X.base) (hr:Room k A)
    (hb:Binds X.K fd ps []) {pins:List (Addr×Obj)} {σ:L2.St} {H:Hp} {s:Shared} {a:Addr} {Q:VK} (I:Inv X pins σ H s)
    (he:Env0 X.prog X.w X.K X.mg X.base A X.stack s H) (h:sp [.ref a] H Q E0):
    wpAny (model X.prog X.w) A (call (.ref f) [.ref a]) (EP X pins σ Q) X.xe s:=by
  have hl:([Value.ref a]++ []).length=ps.length:=by
    rw[F.len _ _ _ _ h |>.symm]
    rfl
  refine wpAny_call (codeAny_mono (F.run A X.stack s H ⟨[.ref a],[]⟩ [.ref a] [.ref a] Q E0 hgA hr he (hb s [.ref a] I.kIn hl) (.cons rfl .nil) h) fun r s' hq=> ?_)
  match r,hq with
  | .error e,hq=>exact passN pins σ H s e s' I hq
  | .ok (.ret u),hq=>exact I.after hq
  | .ok .next,hq=>exact hq.elim
  | .ok .brk,hq=>exact hq.elim
  | .ok .cont,hq=>exact hq.elim
end

section
variable {X : Cx} {K : PySem.W.Frag} {f : Value} {ks : List Str}
theorem CallR.S {r:List V→Hp→VK→Prop} (c:CallR X f r):CallS X f (fun _=>r):=fun pins s σ H vs us Q I rv h=>c pins s σ H vs us Q I rv h
theorem CallKR.S {r:List V→List V→Hp→VK→Prop} (c:CallKR X f ks r):CallKS X f ks (fun _=>r):=
  fun pins s σ H vs zs us ws Q I rv rz h=>c pins s σ H vs zs us ws Q I rv rz h
variable {o e value : Expr} {g : Str} {pos pos' : Pos} {ta tv : TE}
theorem pe_fldK (hK:X.K=K) (he:PE X e ta) (hb:attributeBase e g X.env (eval e X.env)=eval e X.env:=by rfl):PE X (.Attribute e g pos) (tFld K ta g):=by
  subst hK
  exact pe_fld he hb
theorem ps_fldK (hK:X.K=K) (ha:PE X o ta) (hv:PE X value tv) (hs:swapsWith value (some (.Attribute o g pos')) pos.line X.env=pure false:=by rfl):
    PS X (.Assign [.Attribute o g pos'] value pos) (sFld K ta tv g):=by
  subst hK
  exact ps_fld ha hv hs
end
section
variable {σ : L2.St} {H : Hp} {Q : VK} {D : Ends} {K : PySem.W.Frag} {a C dx : Addr} {fs : List (Str × V)} {v : V} {m f : Str} {to te ta tv : TE} {t tk : TA}
theorem s_ms {r:L2.St→List V→Hp→VK→Prop} (q:to σ H fun x H1=> ∃a dx fs,x= .ref a∧H1 a=some (.ins C dx fs)∧fs.lookup m=none∧t σ H1 fun vs H2=>r σ (x::vs) H2 Q):
    tMS m C r to t σ H Q:=q
theorem s_mks {r:L2.St→List V→List V→Hp→VK→Prop} (q:to σ H fun x H1=> ∃a dx fs,x= .ref a∧H1 a=some (.ins C dx fs)∧fs.lookup m=none∧
    t σ H1 fun vs H2=>tk σ H2 fun zs H3=>r σ (x::vs) zs H3 Q):tMKS m C r to t tk σ H Q:=q
theorem s_fld (q:ta σ H fun x H1=> ∃a C dx fs v,x= .ref a∧H1 a=some (.ins C dx fs)∧Cls K C∧NoAttr K C f∧fs.lookup f=some v∧Q v H1):tFld K ta f σ H Q:=q
theorem s_sfld (q:tv σ H fun y H1=>ta σ H1 fun x H2=> ∃a C dx fs,x= .ref a∧H2 a=some (.ins C dx fs)∧Cls K C∧NoAttr K C f∧fs.length<1000∧D.nx σ (upd H2 a (.ins C dx (putF f y fs)))):
    sFld K ta tv f D σ H:=q
end
end PC

set_option Elab.async false
set_option linter.all false
set_option maxRecDepth 100000
set_option maxHeartbeats 2000000
namespace PC
open PySem PySem.Spec PyProof.Rows L2

section
variable {K : PySem.W.Frag} {p a D : Addr} {Z : List Addr} {H H1 H' : Hp} {d : PyData} {v : V} {xs : List V}
theorem Dat.lift (r:R p H H') (m:p∈Z) (h:Dat K Z H d v):Dat K Z H' d v:=Dat.up r m d v h
theorem R.ins {C dx:Addr} {fs:List (Str×V)} (r:R p H H') (e:H a=some (.ins C dx fs)):H' a=some (.ins C dx fs):=
  r.stay a _ (fun _ z=>nomatch z) (fun _ z=>nomatch z) e
theorem R.xd {fs:List (Str×V)} (r:R p H H') (e:H a=some (.xd fs)):H' a=some (.xd fs):=
  r.stay a _ (fun _ z=>nomatch z) (fun _ z=>nomatch z) e
theorem R.tup (r:R p H H') (e:H a=some (.tup xs)):H' a=some (.tup xs):=
  r.stay a _ (fun _ z=>nomatch z) (fun _ z=>nomatch z) e
theorem R.lst (r:R p H H') (n:a≠p) (e:H a=some (.lst xs)):H' a=some (.lst xs):=r.keep a _ n e
theorem Wd.neq (w:Wd p Z H) (h:H a=none):a≠p:=fun z=>w.occ p w.mem (z ▸ h)
theorem Wd.old (w:Wd p Z H) (r:R p H H') (h:H' a=none):H a=none:=R.free r ((w.up r).neq h) h
end
section
variable {K : PySem.W.Frag} {p a b : Addr} {Z : List Addr} {H : Hp} {d : PyData} {v : V} {xs ys : List V}
theorem put_ne (h:H a=some (.lst xs)) {o:HO} (e:H b=some o) (n: ∀zs,o≠ .lst zs) {o':HO}:upd H a o' b=some o:=by
  by_cases z:b=a
  · subst z
    rw[h] at e
    exact absurd (Option.some.inj e).symm (n xs)
  · rw[upd_ne z]
    exact e
theorem Wd.put (w:Wd p Z H) (h:H a=some (.lst xs)):Wd p Z (upd H a (.lst ys)):=by
  refine⟨?_,fun c hc=> ?_,w.mem⟩
  · obtain⟨o,u,e⟩:=w.one
    exact⟨o,u,put_ne h e fun _ z=>nomatch z⟩
  · by_cases z:c=a
    · subst z
      rw[upd_same]
      exact fun z=>nomatch z
    · rw[upd_ne z]
      exact w.occ c hc
theorem Pot.put (h:Pot p H) (n:a≠p) {o':HO}:Pot p (upd H a o'):=by
  obtain⟨x,y,e,q⟩:=h
  exact⟨x,y,by rw[upd_ne n.symm];exact e,q⟩
end
section
variable {J : It} {n : Nat} {G : Hp → Prop} {K : PySem.W.Frag} {p : Addr} {Z : List Addr} {Q : VK} {fx fy : Nat → Option V} {gi gj : Nat} {te : TE} {tt : TT} {vs : List Nat} {σ : L2.St} {H1 : Hp}
end
section
variable {X : Cx} {c a b e : Expr} {pos : Pos} {tA : TT} {ta tb te : TE} {st : Stmt} {rest : List Stmt} {t u : TS} {σ : L2.St} {H : Hp} {Q : VK} {D : Ends}
end
section
variable {X : Cx} {σ : L2.St} {H : Hp} {Q : VK} {te : TE} {ts : List TE} {acc : Str}
end
end PC

set_option Elab.async false
set_option linter.all false
set_option maxRecDepth 100000
set_option maxHeartbeats 2000000
namespace PC
open PySem PySem.Spec PyProof.Rows L2

abbrev Clause:=Value×Nat×(Addr→Value→Option Addr→TS)
abbrev goneE (i:Nat) (D:Ends):Ends:=⟨fun τ G=>D.nx (τ.set i none) G,D.rt,fun τ G=>D.bk (τ.set i none) G,fun τ G=>D.ct (τ.set i none) G⟩
def wCl (K:PySem.W.Frag) (W:WX) (D:Ends):List Clause→WX
  | []=>W
  | (c,i,t)::r=>fun k d σ H=> ∃b,PySem.W.exmOne K k c=some b∧
      (b=true→ ∀a,H a=none→t a k d (goneE i D) (σ.set i (some (.ref a))) H)∧(b=false→wCl K W D r k d σ H)
inductive ClOk (X:Cx):List ExceptHandler→List Clause→Prop
  | nil:ClOk X [] []
  | cons {x n:Str} {c:Value} {i:Nat} {t:Addr→Value→Option Addr→TS} {s1:Stmt} {ss:List Stmt} {p q:Pos} {hs:List ExceptHandler} {l:List Clause}
      (hi:X.N[i]?=some n) (hl:X.env.kindOf n=some .local) (hc:Names X x c)
      (body: ∀(a:Addr) (o:Obj) (k:Value) (d:Option Addr) (pn:List (Addr×Obj)),Zc k d o→(∃vs,o.data= .fields vs)→PSs (X.suite a ((a,o)::pn)) (s1::ss) (t a k d))
      (rest:ClOk X hs l):ClOk X (.ExceptHandler (some (.Name x p)) (some n) (s1::ss) q::hs) ((c,i,t)::l)
section
variable {X : Cx} {W : WX} {D : Ends}
theorem far_of {B:Heap} {h:Heap} {st:List Env} {a:Addr} {o:Obj} {vs:Array Value} (ff:h.FunFrames B st) (e:h.get? a=some o) (dd:o.data= .fields vs):a ∉ frs st:=by
  intro m
  obtain⟨_,o2,e2,bad⟩:=ff.mem m
  rw[e] at e2
  cases e2
  exact bad _ dd
theorem clauses_run (hst:X.stack=X.env::X.outer) (hfr:X.env.frame=some X.env.locals) (nd:X.N.Nodup) (out:Takes X W)
    {B:Heap} {s0 s1:Shared} {pins:List (Addr×Obj)} {σ:L2.St} {H:Hp} {a:Addr} {k:Value} {d:Option Addr} (ok:X.Ok) (I:Inv X pins σ H s0)
    (nb: ∀b o,s0.heap.get? b=some o→b ∉ frs X.stack→B.get? b=some o) (fl:HandSPX.FlyingZ B (X.env::X.outer) a (Zc k d) s1.heap) (up:s0.heap.UpToSlots s1.heap)
    (na:H a=none) (os:s1.os=s0.os) (ag:AllBare s1.gens):
    ∀ {hs:List ExceptHandler} {l:List Clause},ClOk X hs l→wCl X.K W D l k d σ H→wpAny (model X.prog X.w) X.A (handleBy (.ref a) X.env hs) (SP X pins D) X.xe s1:=by
  have J:Inv X pins σ H s1:=I.landed nb fl.1 up os ag
  obtain⟨o1,_,e1,z1,dd1⟩:=fl.there
  have apart:=far_of fl.2.2.1 e1 dd1
  have a1:a≠X.env.locals:=fun z=>apart (List.mem_filterMap.mpr ⟨_,List.mem_cons_self,z ▸ hfr⟩)
  have a2:a ∉ X.fs:=fun m=>by
    obtain⟨y,hy,ey⟩:=List.mem_filterMap.mp m
    exact apart (List.mem_filterMap.mpr ⟨y,.tail _ hy,ey⟩)
  intro hs l ck
  induction ck with
  | nil=>
    intro wish
    obtain⟨_,_,_,o2,us,T,_,_,e2,_,dd2,u1,_⟩:=id fl
    refine wpAny_handleBy_nil ?_
    unfold PySem.passOn
    refine wpAny_bind (wpAny_field e2 dd2 u1 ?_)
    rw[if_neg (by simp)]
    have leave:wpAny (model X.prog X.w) X.A (setFlight (.ref a) X.env.frame) (fun _ t=>wpAny (model X.prog X.w) X.A (throw (.ref a):Sem Flow) (SP X pins D) X.xe t) X.xe s1:=by
      rw[hfr]
      refine HandSPX.setFlight_upZ fl fun g held up2=>wpAny_throw (out _ _ ⟨a,B,s0,pins,σ,H,k,d,rfl,I,nb,up.trans up2,?_,na,os,ag,wish⟩)
      rw[hst]
      exact .inr (.inr held)
    first
      | exact wpAny_bind (wpAny_pure (wpAny_bind leave))
      | exact wpAny_bind leave
  | @cons x n c i t y1 ys p q hs l hi hl hc body _ ih=>
    rintro ⟨b,eb,yes,no⟩
    have V1:=J.suite e1 dd1 na a1 a2
    have known:PySem.W.Looks (model X.prog X.w) s1.heap (typeOf (.ref a)) k:=fun A Q E st kp qq=>wpAny_typeOf_ref (kp _ _ e1) (by rw[z1.1];exact qq)
    have asked:=PySem.W.exm_one (M:=model X.prog X.w) J.kIn known eb
    have named:wpAny (model X.prog X.w) (X.A.mark (some (.ref a))) (eval (.Name x p) X.env) (fun u st=>u=c∧s1=st) (fun _ _=>False) s1:=by
      rcases hc with ⟨g,ndb,m | ⟨m,bv,nn⟩⟩
      · exact ld_glob (X:=X.suite a ((a,o1)::(X.pn++pins))) V1 g m ⟨rfl,rfl⟩ ndb
      · exact ld_blt (X:=X.suite a ((a,o1)::(X.pn++pins))) V1 g m bv ⟨rfl,rfl⟩ nn ndb
    refine wpAny_handleBy_cons (codeAny_handlers_test ?_) (fun w=>nomatch w)
    refine wpAny_mono named ?_ fun _ _ w=>w.elim
    rintro _ _ ⟨rfl,rfl⟩
    refine asked.here ?_
    cases b with
    | false=>exact ih (no rfl)
    | true=>
      refine codeAny_handlers_suite_as (HandSPX.lands_againZ fl fun g fl2 up2=> ?_)
      have J2:Inv X pins σ H { s1 with heap:=g }:=I.landed nb fl2.1 (up.trans up2) os ag
      obtain⟨o2,_,e2,z2,dd2⟩:=fl2.there
      refine store_ok (X:=X.suite a ((a,o2)::(X.pn++pins))) (v:= .ref a) (J2.suite e2 dd2 na a1 a2) nd hi (.inl hl) rfl (fun t2 S2=> ?_) (.inr hl)
      have drop: ∀ {τ:L2.St} {G:Hp} {t3:Shared} {R:Shared→Prop},Inv (X.suite a ((a,o2)::(X.pn++pins))) [] τ G t3→(∀t4,Inv X pins (τ.set i none) G t4→R t4)→
          wpAny (model X.prog X.w) X.A (do bindName X.env n .none;unbindBehindTheSuite X.env n q) (fun _ t4=>R t4) X.xe t3:=fun S hR=>gone_ok (S.unsuite ok) nd hi hl hR
      refine wpAny_mono ((body a o2 k d (X.pn++pins) z2 ⟨_,dd2⟩).run [] t2 _ H _ S2 (yes rfl a na)) (fun f t3 hf=> ?_) fun _ _ w=>w.elim
      cases f with
      | next=>exact drop hf.choose_spec.choose_spec.1 fun t4 S4=>⟨_,_,S4,hf.choose_spec.choose_spec.2⟩
      | brk=>exact drop hf.choose_spec.choose_spec.1 fun t4 S4=>⟨_,_,S4,hf.choose_spec.choose_spec.2⟩
      | cont=>exact drop hf.choose_spec.choose_spec.1 fun t4 S4=>⟨_,_,S4,hf.choose_spec.choose_spec.2⟩
      | ret u=>
        obtain⟨v,τ,G,S3,rv,qq⟩:=hf
        exact drop S3 fun t4 S4=>⟨v,_,G,S4,rv,qq⟩
theorem ps_try_clauses {body:List Stmt} {h0:ExceptHandler} {hs:List ExceptHandler} {l:List Clause} {pos:Pos} {tb:WX→TS}
    (hst:X.stack=X.env::X.outer) (hfr:X.env.frame=some X.env.locals) (nd:X.N.Nodup) (out:Takes X W)
    (hb: ∀(V:WX) (pn:List (Addr×Obj)) (xe:Value→Shared→Prop),Takes (X.tr pn xe) V→PassesOwn (model X.prog X.w) X.A X.env xe→PSs (X.tr pn xe) body (tb V))
    (ck:ClOk X (h0::hs) l):PS X (.Try body (h0::hs) [] [] pos) (fun D σ H=>tb (wCl X.K W D l) D σ H):=by
  constructor
  intro pins s σ H D I h
  have ok:=I.ok
  refine wpAny_Try_except (wpAny_mono ((hb (wCl X.K W D l) (X.pn++pins) _ (fun u t fly=> ?_) PassesOwn.looking).run [] s σ H D (I.toTry _) h) (fun f t done=> ?_) fun _ _ w=>w)
  · obtain⟨a,B,s0,pins0,τ,G,k,d,rfl,I0,nb,up,sky,na,os,ag,wish⟩:=fly
    have sky2:Sky B (X.env::X.outer) a (Zc k d) X.env.locals t.heap:=hst ▸ sky
    refine Sky.land Zc.steady (ok.frames.trans (by rw[hst])) hfr sky2 fun g fl up2=> ?_
    exact clauses_run hst hfr nd out (B:=B) (s0:=s0) (s1:= { t with heap:=g }) ok (I0.ofTry ok) nb fl (up.trans up2) na os ag ck wish
  · cases f with
    | next=>exact wpAny_execs_nil ⟨_,_,done.choose_spec.choose_spec.1.ofTry ok,done.choose_spec.choose_spec.2⟩
    | brk=>exact⟨_,_,done.choose_spec.choose_spec.1.ofTry ok,done.choose_spec.choose_spec.2⟩
    | cont=>exact⟨_,_,done.choose_spec.choose_spec.1.ofTry ok,done.choose_spec.choose_spec.2⟩
    | ret u=>
      obtain⟨v,τ,G,J,r,q⟩:=done
      exact⟨v,τ,G,J.ofTry ok,r,q⟩
end
structure InstT (K:PySem.W.Frag) (C:Addr):Prop where
  ca:PySem.W.findIn K (.ref C) "__class__" =some (some (.builtin "object.__class__"))
  ob:PySem.W.mroIn K C (.type "object")=some true
theorem s_isiC {K:PySem.W.Frag} {H:Hp} {Q:VK} {a C dx:Addr} {fs:List (Str×V)} (c:Cls K C) (t:InstT K C) (q0:ClsQ K) (e:H a=some (.ins C dx fs)) (q:Q (.bl true) H):rIsi K [.ref a,.ref C] H Q:=
  ⟨.ref a,.ref C,.ref C,.ref C,true,rfl,.own C,.base (.ins e c t.ca q0.get q0.tk t.ob),by unfold PySem.W.kitOne;rw[if_pos (by simp)],q⟩
section
variable {X : Cx}
end
section
variable {σ : L2.St} {H : Hp} {Q : VK} {te : TE} {ts : List TE} {acc : Str} {QS : Str → Hp → Prop}
theorem s_bits (q:te σ H fun x H1=> ∃i,x= .int i∧Q (.int (Builtin.Int.intBits i:Nat)) H1):tBits te σ H Q:=q
end
section
variable {J : It} {n : Nat} {G : Hp → Prop} {K : PySem.W.Frag} {p : Addr} {Z : List Addr} {Q : VK} {gi : Nat} {tt : TT} {te : TE} {vs : List Nat} {σ : L2.St} {H1 : Hp} {ts : List Int}
end
section
variable {K : PySem.W.Frag} {Z : List Addr} {H : Hp} {Q : VK} {x y : V} {d : PyData} {ds : List PyData}
end
theorem R.xdW {p b:Addr} {H H':Hp} {fs:List (Str×V)} (e:H b=some (.xd fs)) (r:R p H H'):H' b=some (.xd fs):=r.stay b _ (fun _ z=>nomatch z) (fun _ z=>nomatch z) e
section
variable {K : PySem.W.Frag} {p : Addr} {Z : List Addr} {H : Hp} {x : V} {ds : List PyData} {g : TG} {tt : TT} {te : TE} {vs : List Nat} {σ : L2.St} {Q : VK} {tb : TS} {D : Ends}
end
theorem DatL.at {K:PySem.W.Frag} {Z:List Addr} {H:Hp} {ds:List PyData} {xs:List V} {i:Nat} {d:PyData} {x:V} (l:DatL K Z H ds xs) (hd:ds[i]?=some d) (hx:xs[i]?=some x):Dat K Z H d x:=by
  obtain⟨v,hv,h⟩:=l.get hd
  rw[hx] at hv
  cases hv
  exact h
section
variable {X : Cx} {K : PySem.W.Frag} {H : Hp} {Q : VK} {x y : V} {Z : List Addr} {ds es : List PyData}
end
section
variable {K : PySem.W.Frag} {p : Addr} {Z : List Addr} {H : Hp} {Q : VK} {x : V} {d : PyData} {ds : List PyData} {ns : List Int}
end
end PC

set_option Elab.async false
set_option linter.all false
set_option maxRecDepth 100000
set_option maxHeartbeats 4000000
namespace PC
open PySem PySem.Spec PyProof.Rows L2
def intIn:PyData→Int→Int→Bool
  | .int i,lo,hi=>decide (lo≤i) && decide (i≤hi)
  | _,_,_=>false
def intD:PyData→Option Int
  | .int i=>some i
  | _=>none
def intsD (ds:List PyData):List Int:=ds.filterMap intD
def areCells (lo hi:Int) (ds:List PyData):Bool:=(ds.all fun d=>intIn d lo hi) && decide (intsD ds).Nodup
def isort (ns:List Int):List Int:=ns.mergeSort fun a b=>decide (a≤b)
def cellsD (d:PyData) (s:Int):Option (List Int):=
  match seqD d with
  | none=>none
  | some ds=>if areCells 0 (s - 1) ds=true then some (isort (intsD ds)) else none
def tupI (ns:List Int):PyData:= .tuple (ns.map .int)
def lstI (ns:List Int):PyData:= .list (ns.map .int)
theorem intIn_int {d:PyData} {lo hi:Int} (h:intIn d lo hi=true): ∃i,d= .int i∧lo≤i∧i≤hi:=by
  cases d <;> simp[intIn] at h
  exact⟨_,rfl,h⟩
theorem isort_perm (ns:List Int):(isort ns).Perm ns:=List.mergeSort_perm ns _
theorem isort_le (ns:List Int):(isort ns).Pairwise (· ≤ ·):=by
  have h:=List.pairwise_mergeSort (le:=fun a b:Int=>decide (a≤b)) (by intro a b c;simp;omega) (by intro a b;simp;omega) ns
  exact h.imp fun h=>of_decide_eq_true h
theorem isort_is {ns ms:List Int} (p:ms.Perm ns) (h:ms.Pairwise (· ≤ ·)):ms=isort ns:=
  (p.trans (isort_perm ns).symm).eq_of_pairwise (fun a b _ _ h1 h2=>Int.le_antisymm h1 h2) h (isort_le ns)
theorem intsOf {lo hi:Int}: ∀ {ds:List PyData},(ds.all fun d=>intIn d lo hi)=true→ds=(intsD ds).map .int
  | [],_=>rfl
  | d::ds,h=>by
    rw[List.all_cons,Bool.and_eq_true] at h
    obtain⟨i,rfl,_⟩:=intIn_int h.1
    show _=PyData.int i::(intsD ds).map .int
    rw[← intsOf h.2]
theorem intsD_map (ns:List Int):intsD (ns.map .int)=ns:=by
  induction ns with
  | nil=>rfl
  | cons n ns ih=>show n::intsD (ns.map .int)=n::ns;rw[ih]
theorem asc_nodup: ∀ {ns:List Int},ns.Pairwise (· ≤ ·)→((ns.zip (ns.drop 1)).all (fun y=>decide (y.1<y.2))=true↔ns.Nodup)
  | [],_=>by simp
  | [a],_=>by simp
  | a::b::r,h=>by
    have h2:=(List.pairwise_cons.mp h).2
    have ih:=asc_nodup h2
    have hab:a≤b:=(List.pairwise_cons.mp h).1 b List.mem_cons_self
    simp only[List.drop_succ_cons,List.drop_zero] at ih ⊢
    rw[List.zip_cons_cons,List.all_cons,Bool.and_eq_true,ih,List.nodup_cons (a:=a),decide_eq_true_eq]
    constructor
    · rintro ⟨h1,h3⟩
      refine⟨fun m=> ?_,h3⟩
      rcases List.mem_cons.mp m with e | e
      · omega
      · have:=(List.pairwise_cons.mp h2).1 a e
        omega
    · rintro ⟨h1,h3⟩
      refine⟨?_,h3⟩
      rcases Int.lt_or_eq_of_le hab with q | q
      · exact q
      · exact absurd (by rw[q];exact List.mem_cons_self) h1
theorem cellsD_no {d:PyData} {s:Int} (h:(isD d "list" || isD d "tuple")=false):cellsD d s=none:=by
  cases d <;> first | rfl | simp[isD,tyD] at h
theorem seq_yes {d:PyData} (h:(isD d "list" || isD d "tuple")=true): ∃ds,seqD d=some ds:=by
  cases d <;> simp[isD,tyD] at h <;> exact⟨_,rfl⟩
theorem cellsD_seq {d:PyData} {s:Int} {ds:List PyData} (h:seqD d=some ds):cellsD d s=if areCells 0 (s - 1) ds=true then some (isort (intsD ds)) else none:=by
  unfold cellsD
  rw[h]
theorem len_bulk: ∀ds:List PyData,ds.length≤PyData.bulkAll ds
  | []=>Nat.zero_le _
  | d::ds=>by
    have:=len_bulk ds
    simp only[PyData.bulkAll,List.length_cons]
    omega
theorem tame_len {d:PyData} {ds:List PyData} {k n:Nat} (t:Tame d k n) (h:seqD d=some ds):ds.length≤n:=by
  have a:=len_bulk ds
  have b:=t.bulk
  cases d <;> cases h <;> simp only[PyData.bulk] at b <;> omega
def maskI (ns:List Int):Int:=(ns.map fun n=>(1:Int) * 2 ^ n.toNat).sum
theorem cells_some {d:PyData} {s:Int} {ns:List Int} (e:cellsD d s=some ns): ∃ds,seqD d=some ds∧areCells 0 (s - 1) ds=true∧isort (intsD ds)=ns:=by
  cases h:seqD d with
  | none=>unfold cellsD at e;rw[h] at e;cases e
  | some ds=>
    rw[cellsD_seq h] at e
    by_cases c:areCells 0 (s - 1) ds=true
    · rw[if_pos c] at e
      exact⟨ds,rfl,c,Option.some.inj e⟩
    · rw[if_neg c] at e
      cases e
theorem ints_in {lo hi:Int} {ds:List PyData} (h:areCells lo hi ds=true): ∀n∈intsD ds,lo≤n∧n≤hi:=by
  intro n hn
  rw[areCells,Bool.and_eq_true] at h
  have e:=intsOf h.1
  have m:PyData.int n∈ds:=by rw[e];exact List.mem_map_of_mem hn
  have q:=List.all_eq_true.mp h.1 _ m
  obtain⟨i,e2,h1,h2⟩:=intIn_int q
  cases e2
  exact⟨h1,h2⟩
theorem cells_range {d:PyData} {s:Int} {ns:List Int} (e:cellsD d s=some ns):(∀n∈ns,0≤n∧n<s)∧ns.Pairwise (· < ·):=by
  obtain⟨ds,h,c,rfl⟩:=cells_some e
  refine⟨fun n hn=> ?_,?_⟩
  · have:=ints_in c n ((isort_perm _).mem_iff.mp hn)
    omega
  · have nd:(isort (intsD ds)).Nodup:=(isort_perm _).nodup_iff.mpr (of_decide_eq_true (Bool.and_eq_true_iff.mp c).2)
    exact ((isort_le (intsD ds)).and nd).imp fun h=>by
      have h1:=h.1
      have h2:=h.2
      omega
theorem cells_len {d:PyData} {s:Int} {ns:List Int} {m:Nat} (e:cellsD d s=some ns) (h: ∀ds,seqD d=some ds→ds.length≤m):ns.length≤m:=by
  obtain⟨ds,hs,c,rfl⟩:=cells_some e
  rw[(isort_perm _).length_eq]
  refine Nat.le_trans ?_ (h ds hs)
  unfold intsD
  exact List.length_filterMap_le _ _
def bitsL (m:Nat):List Int:=((List.range 64).filter fun i=>m.testBit i).map fun i=>((i:Nat):Int)
theorem and_nn (a b:Nat):Builtin.bitAnd (a:Int) (b:Int)=((a &&& b:Nat):Int):=by
  unfold Builtin.bitAnd
  rw[decide_eq_true (Int.natCast_nonneg a),decide_eq_true (Int.natCast_nonneg b)]
  simp
theorem bits_fit {m k:Nat} (h:m<2 ^ k):Builtin.Int.intBits (m:Int)≤k:=PySem.intBits_le_iff.mpr (by simpa using h)
theorem bits_over {m:Nat}:m<2 ^ Builtin.Int.intBits (m:Int):=by
  have h:=(PySem.intBits_le_iff (m:=Builtin.Int.intBits (m:Int)) (x:=(m:Int))).mp (Nat.le_refl _)
  simpa using h
theorem bit_at (m i:Nat):decide (Builtin.bitAnd ((m:Int) / 2 ^ i) 1=1)=m.testBit i:=by
  have e:(m:Int) / 2 ^ i=((m / 2 ^ i:Nat):Int):=by
    rw[Int.natCast_ediv,Int.natCast_pow]
    rfl
  rw[e,show (1:Int)=((1:Nat):Int) from rfl,and_nn,Nat.testBit_eq_decide_div_mod_eq,Nat.and_one_is_mod]
  rw[Bool.eq_iff_iff,decide_eq_true_eq,decide_eq_true_eq]
  omega
theorem filter_bits {m n k:Nat} (h:m<2 ^ n) (hk:n≤k):(List.range k).filter (fun i=>m.testBit i)=(List.range n).filter (fun i=>m.testBit i):=by
  obtain⟨j,rfl⟩:=Nat.exists_eq_add_of_le hk
  rw[List.range_add,List.filter_append]
  have e:((List.range j).map (n+ ·)).filter (fun i=>m.testBit i)= []:=by
    rw[List.filter_eq_nil_iff]
    intro i hi
    obtain⟨q,_,rfl⟩:=List.mem_map.mp hi
    have l:m<2 ^ (n+q):=Nat.lt_of_lt_of_le h (Nat.pow_le_pow_right (by decide) (Nat.le_add_right _ _))
    rw[Nat.testBit_lt_two_pow l]
    decide
  rw[e,List.append_nil]
theorem maskI_cons (n:Int) (ns:List Int):maskI (n::ns)=2 ^ n.toNat+maskI ns:=by
  show 1 * 2 ^ n.toNat+maskI ns=_
  rw[Int.one_mul]
def down (ns:List Int):List Int:=(ns.filter fun n=>decide (0<n)).map fun n=>n - 1
theorem maskI_down: ∀ {ns:List Int},(∀n∈ns,0≤n)→ns.Nodup→maskI ns=(if (0:Int)∈ns then 1 else 0)+2 * maskI (down ns)
  | [],_,_=>by simp[maskI,down]
  | n::ns,h,nd=>by
    have ih:=maskI_down (ns:=ns) (fun m hm=>h m (List.mem_cons_of_mem _ hm)) (List.nodup_cons.mp nd).2
    have h0:=h n List.mem_cons_self
    have nn:=(List.nodup_cons.mp nd).1
    by_cases c:n=0
    · subst c
      have e:down (0::ns)=down ns:=by simp[down]
      rw[maskI_cons,e,ih,if_neg nn,if_pos List.mem_cons_self]
      show (1:Int)+_=_
      omega
    · have e:down (n::ns)=(n - 1)::down ns:=by
        have q:decide (0<n)=true:=decide_eq_true (by omega)
        simp[down,q]
      have m0:((0:Int)∈n::ns)↔(0:Int)∈ns:=by
        rw[List.mem_cons]
        exact⟨fun z=>z.elim (fun z=>absurd z.symm c) id,.inr⟩
      have p:(2:Int) ^ n.toNat=2 * 2 ^ (n - 1).toNat:=by
        have:n.toNat=(n - 1).toNat+1:=by omega
        rw[this,Int.pow_succ,Int.mul_comm]
      rw[maskI_cons,e,maskI_cons,ih,p]
      by_cases z:(0:Int)∈ns
      · rw[if_pos z,if_pos (m0.mpr z)];omega
      · rw[if_neg z,if_neg (fun y=>z (m0.mp y))];omega
theorem down_nodup {ns:List Int} (h:ns.Nodup):(down ns).Nodup:=by
  unfold down
  rw[List.nodup_iff_pairwise_ne,List.pairwise_map]
  exact (List.Pairwise.filter _ h).imp fun h=>by omega
theorem down_mem {ns:List Int} {i:Int} (h:0≤i):i∈down ns↔i+1∈ns:=by
  unfold down
  rw[List.mem_map]
  constructor
  · rintro ⟨a,ha,rfl⟩
    have:=(List.mem_filter.mp ha).1
    rwa [show a - 1+1=a by omega]
  · intro m
    exact⟨i+1,List.mem_filter.mpr ⟨m,decide_eq_true (by omega)⟩,by omega⟩
theorem maskI_nn: ∀ns:List Int,0≤maskI ns
  | []=>by decide
  | n::ns=>by
    have:=maskI_nn ns
    have h:(0:Int)<2 ^ n.toNat:=Int.pow_pos (by decide)
    rw[maskI_cons]
    omega
theorem mask_bit: ∀(i:Nat) {ns:List Int},(∀n∈ns,0≤n)→ns.Nodup→(maskI ns).toNat.testBit i=decide ((i:Int)∈ns)
  | 0,ns,h,nd=>by
    have e:=maskI_down h nd
    have p:=maskI_nn (down ns)
    rw[Nat.testBit_zero]
    by_cases z:(0:Int)∈ns
    · rw[if_pos z] at e
      have:(maskI ns).toNat % 2=1:=by omega
      rw[this]
      simp[z]
    · rw[if_neg z] at e
      have:(maskI ns).toNat % 2=0:=by omega
      rw[this]
      simp[z]
  | i+1,ns,h,nd=>by
    have e:=maskI_down h nd
    have p:=maskI_nn (down ns)
    have ih:=mask_bit i (ns:=down ns) (fun n hn=>by
      obtain⟨a,ha,rfl⟩:=List.mem_map.mp hn
      have:=of_decide_eq_true (List.mem_filter.mp ha).2
      omega) (down_nodup nd)
    have d:(maskI ns).toNat / 2=(maskI (down ns)).toNat:=by
      split at e <;> omega
    rw[Nat.testBit_succ,d,ih]
    rw[Bool.eq_iff_iff,decide_eq_true_eq,decide_eq_true_eq,down_mem (Int.natCast_nonneg i)]
    rw[show ((i+1:Nat):Int)=(i:Int)+1 by omega]
theorem mask_bits {m:Nat} (h:m<2 ^ 64):(maskI (bitsL m)).toNat=m:=by
  apply Nat.eq_of_testBit_eq
  intro i
  have nn: ∀n∈bitsL m,0≤n:=fun n hn=>by
    obtain⟨j,_,rfl⟩:=List.mem_map.mp hn
    omega
  have nd:(bitsL m).Nodup:=by
    unfold bitsL
    rw[List.nodup_iff_pairwise_ne,List.pairwise_map]
    exact (List.pairwise_lt_range.filter _).imp fun h=>by omega
  rw[mask_bit i nn nd,Bool.eq_iff_iff,decide_eq_true_eq]
  unfold bitsL
  rw[List.mem_map]
  constructor
  · rintro ⟨j,hj,e⟩
    have:j=i:=by omega
    subst this
    exact (List.mem_filter.mp hj).2
  · intro t
    refine⟨i,List.mem_filter.mpr ⟨List.mem_range.mpr ?_,t⟩,rfl⟩
    by_cases c:i<64
    · exact c
    · have l:m<2 ^ i:=Nat.lt_of_lt_of_le h (Nat.pow_le_pow_right (by decide) (by omega))
      rw[Nat.testBit_lt_two_pow l] at t
      cases t
theorem xor_and_or: ∀a b:Nat,(a ^^^ b)+(a &&& b)=a ||| b:=by
  intro a
  induction a using Nat.strongRecOn with
  | ind a ih=>
    intro b
    by_cases h:a=0
    · subst h
      simp
    · have i:=ih (a / 2) (by omega) (b / 2)
      have x1:=Nat.xor_div_two (a:=a) (b:=b)
      have x2:=Nat.and_div_two (a:=a) (b:=b)
      have x3:=Nat.or_div_two (a:=a) (b:=b)
      have y1:(a ^^^ b) % 2=(a % 2+b % 2) % 2:=by
        have e:(a ^^^ b) % 2=1↔ ¬ (a % 2=1↔b % 2=1):=Nat.xor_mod_two_eq_one
        omega
      have y2:(a &&& b) % 2=1↔a % 2=1∧b % 2=1:=Nat.and_mod_two_eq_one
      have y3:(a ||| b) % 2=1↔a % 2=1∨b % 2=1:=Nat.or_mod_two_eq_one
      omega
theorem xor_nn (a b:Nat):Builtin.bitXor (a:Int) (b:Int)=((a ^^^ b:Nat):Int):=by
  unfold Builtin.bitXor
  have o:Builtin.bitOr (a:Int) (b:Int)=((a ||| b:Nat):Int):=by
    have h:=bitOr_nn (Int.natCast_nonneg a) (Int.natCast_nonneg b)
    simpa using h
  rw[o,and_nn]
  have:=xor_and_or a b
  omega
theorem or_one {k:Nat} (h:k.testBit 0=true):k ||| 1=k:=by
  apply Nat.eq_of_testBit_eq
  intro i
  rw[Nat.testBit_or]
  cases i with
  | zero=>rw[h];rfl
  | succ i=>simp[Nat.testBit_succ]
def pop (n:Nat):Nat:=if h:n=0 then 0 else n % 2+pop (n / 2)
termination_by n
decreasing_by exact Nat.div_lt_self (Nat.pos_of_ne_zero h) (by decide)
theorem pop_zero:pop 0=0:=by rw[pop];rfl
theorem pop_step (n:Nat):pop n=n % 2+pop (n / 2):=by
  by_cases h:n=0
  · subst h
    rw[pop_zero]
  · rw[pop,dif_neg h]
theorem and_even (q:Nat) (h:0<q):(2 * q) &&& (2 * q - 1)=2 * (q &&& (q - 1)):=by
  apply Nat.eq_of_testBit_eq
  intro i
  have e:2 * q - 1=2 * (q - 1)+1:=by omega
  cases i with
  | zero=>
    rw[Nat.testBit_and]
    simp[Nat.testBit_zero]
  | succ i=>
    rw[Nat.testBit_and,Nat.testBit_succ,Nat.testBit_succ,Nat.testBit_succ,e]
    rw[show 2 * q / 2=q by omega,show (2 * (q - 1)+1) / 2=q - 1 by omega,show 2 * (q &&& (q - 1)) / 2=q &&& (q - 1) by omega,Nat.testBit_and]
theorem and_odd (q:Nat):(2 * q+1) &&& (2 * q)=2 * q:=by
  apply Nat.eq_of_testBit_eq
  intro i
  cases i with
  | zero=>
    rw[Nat.testBit_and]
    simp[Nat.testBit_zero]
  | succ i=>
    rw[Nat.testBit_and,Nat.testBit_succ,Nat.testBit_succ]
    rw[show (2 * q+1) / 2=q by omega,show 2 * q / 2=q by omega,Bool.and_self]
theorem pop_less: ∀(n:Nat),0<n→pop (n &&& (n - 1))+1=pop n:=by
  intro n
  induction n using Nat.strongRecOn with
  | ind n ih=>
    intro h
    rcases Nat.mod_two_eq_zero_or_one n with e | e
    · have hq:n=2 * (n / 2):=by omega
      have q0:0<n / 2:=by omega
      have i:=ih (n / 2) (by omega) q0
      rw[hq,and_even _ q0,pop_step (2 * (n / 2)),pop_step (2 * (n / 2 &&& (n / 2 - 1)))]
      rw[show 2 * (n / 2) % 2=0 by omega,show 2 * (n / 2) / 2=n / 2 by omega,show 2 * (n / 2 &&& (n / 2 - 1)) % 2=0 by omega,show 2 * (n / 2 &&& (n / 2 - 1)) / 2=(n / 2 &&& (n / 2 - 1)) by omega]
      omega
    · have hq:n=2 * (n / 2)+1:=by omega
      rw[hq,show 2 * (n / 2)+1 - 1=2 * (n / 2) by omega,and_odd,pop_step (2 * (n / 2)+1),pop_step (2 * (n / 2))]
      rw[show 2 * (n / 2) % 2=0 by omega,show 2 * (n / 2) / 2=n / 2 by omega,show (2 * (n / 2)+1) % 2=1 by omega,show (2 * (n / 2)+1) / 2=n / 2 by omega]
      omega
def oddN (m:Nat):Bool:=decide (pop m % 2=1)
def bitI (m i:Nat):Int:=if m.testBit i then 1 else 0
def bitsOf (n m:Nat):List Int:=(List.range n).map (bitI m)
theorem bitsOf_len {n m:Nat}:(bitsOf n m).length=n:=by simp[bitsOf]
theorem bitI_one {m i:Nat}:bitI m i=1↔m.testBit i=true:=by
  unfold bitI
  split <;> simp_all
theorem exists_mask: ∀bs:List Int,(∀b∈bs,b=0∨b=1)→ ∃m,m<2 ^ bs.length∧bs=bitsOf bs.length m
  | [],_=>⟨0,by decide,rfl⟩
  | b::bs,h=>by
    obtain⟨m,hm,e⟩:=exists_mask bs fun c hc=>h c (List.mem_cons_of_mem _ hc)
    refine⟨b.toNat+2 * m,?_,?_⟩
    · rw[List.length_cons,Nat.pow_succ]
      rcases h b List.mem_cons_self with rfl | rfl <;> simp <;> omega
    · rw[List.length_cons,bitsOf,List.range_succ_eq_map,List.map_cons,List.map_map]
      congr 1
      · rcases h b List.mem_cons_self with rfl | rfl <;> simp[bitI,Nat.testBit_zero] <;> omega
      · conv=>lhs;rw[e]
        unfold bitsOf
        apply List.map_congr_left
        intro i _
        simp only[Function.comp_def,bitI,Nat.succ_eq_add_one]
        rw[Nat.testBit_succ]
        have:(b.toNat+2 * m) / 2=m:=by
          rcases h b List.mem_cons_self with rfl | rfl <;> simp <;> omega
        rw[this]
theorem bit_and1 (k:Nat):decide (Builtin.bitAnd (k:Int) 1=1)=k.testBit 0:=by
  have h:=bit_at k 0
  simpa using h
theorem bitsOf_odd {n m:Nat} {b:Int} {r:List Int} (h:bitsOf n m=b::r):(b=1↔m.testBit 0=true):=by
  cases n with
  | zero=>cases h
  | succ n=>
    rw[bitsOf,List.range_succ_eq_map,List.map_cons] at h
    have:=(List.cons.inj h).1
    rw[← this,bitI_one]
theorem bits_lt {n m:Nat} (h:m<2 ^ n) (hn:n≤64):bitsL m=((List.range n).filter fun i=>m.testBit i).map fun i=>((i:Nat):Int):=by
  unfold bitsL
  rw[filter_bits h hn]
theorem bits_mem {m:Nat} {n:Int} (h:n∈bitsL m):0≤n∧n<64∧m.testBit n.toNat=true:=by
  obtain⟨j,hj,rfl⟩:=List.mem_map.mp h
  have q:=List.mem_filter.mp hj
  have:=List.mem_range.mp q.1
  exact⟨by omega,by omega,by simpa using q.2⟩
theorem bits_below {m k:Nat} {n:Int} (hm:m<2 ^ k) (h:n∈bitsL m):0≤n∧n<k:=by
  obtain⟨h0,_,t⟩:=bits_mem h
  refine⟨h0,?_⟩
  by_cases c:n.toNat<k
  · omega
  · rw[Nat.testBit_lt_two_pow (Nat.lt_of_lt_of_le hm (Nat.pow_le_pow_right (by decide) (by omega)))] at t
    cases t
theorem bits_asc (m:Nat):(bitsL m).Pairwise (· < ·):=by
  unfold bitsL
  rw[List.pairwise_map]
  exact (List.pairwise_lt_range.filter _).imp fun h=>by omega
theorem bits_len (m:Nat):(bitsL m).length≤64:=by
  unfold bitsL
  rw[List.length_map]
  exact Nat.le_trans (List.length_filter_le _ _) (by simp)
theorem cells_asc {ns:List Int} {s:Int} (h: ∀n∈ns,0≤n∧n<s) (ha:ns.Pairwise (· < ·)):cellsD (tupI ns) s=some ns∧cellsD (lstI ns) s=some ns:=by
  have nd:ns.Nodup:=ha.imp fun h=>by omega
  have e:areCells 0 (s - 1) (ns.map PyData.int)=true:=by
    rw[areCells,Bool.and_eq_true,intsD_map,decide_eq_true_eq]
    refine⟨List.all_eq_true.mpr fun d hd=> ?_,nd⟩
    obtain⟨n,hn,rfl⟩:=List.mem_map.mp hd
    have:=h n hn
    simp only[intIn,Bool.and_eq_true,decide_eq_true_eq]
    omega
  have i:isort ns=ns:=(isort_is (List.Perm.refl ns) (ha.imp fun h=>by omega)).symm
  refine⟨?_,?_⟩
  · rw[tupI,cellsD_seq (ds:=ns.map PyData.int) rfl,if_pos e,intsD_map,i]
  · rw[lstI,cellsD_seq (ds:=ns.map PyData.int) rfl,if_pos e,intsD_map,i]
theorem mask_lt {ns:List Int} {k:Nat} (h: ∀n∈ns,0≤n∧n<k) (nd:ns.Nodup):(maskI ns).toNat<2 ^ k:=by
  refine Nat.lt_pow_two_of_testBit _ fun i hi=> ?_
  rw[mask_bit i (fun n hn=>(h n hn).1) nd]
  refine decide_eq_false fun m=> ?_
  have:=h _ m
  omega
theorem tameL_ints' {ns:List Int} {k:Nat} (h: ∀n∈ns,n.natAbs<2 ^ 250) (hl:ns.length≤k):TameL (ns.map .int) 1 k:=by
  refine (tameL_of (k:=1) (m:=0) fun d hd=> ?_).mono (Nat.le_refl _) (by simpa using hl)
  obtain⟨n,hn,rfl⟩:=List.mem_map.mp hd
  exact tame_int (h n hn)
theorem tame_lstI {ns:List Int} {k:Nat} (h: ∀n∈ns,n.natAbs<2 ^ 250) (hl:ns.length≤k):Tame (lstI ns) 2 k:=tame_lst (tameL_ints' h hl)
theorem rg_mem {a b n:Int} (h:n∈(List.range (b - a).toNat).map fun i=>a+((i:Nat):Int)):a≤n∧n<b:=by
  obtain⟨i,hi,rfl⟩:=List.mem_map.mp h
  have:=List.mem_range.mp hi
  omega
theorem rg_lt {a b:Int}:((List.range (b - a).toNat).map fun i=>a+((i:Nat):Int)).Pairwise (· < ·):=by
  rw[List.pairwise_map]
  exact List.pairwise_lt_range.imp fun h=>by omega
theorem e20:(10:Int) ^ Int.toNat 20=100000000000000000000:=by decide +kernel
theorem asc_len: ∀ {ns:List Int} {l w:Int},(∀n∈ns,l≤n∧n<w)→ns.Pairwise (· < ·)→l≤w→(ns.length:Int)≤w - l
  | [],l,w,_,_,h=>by show (0:Int)≤w - l;omega
  | n::ns,l,w,h,hp,_=>by
    have h1:=h n List.mem_cons_self
    have p1:=(List.pairwise_cons.mp hp).1
    have ih:=asc_len (ns:=ns) (l:=n+1) (w:=w) (fun m hm=>⟨by have:=p1 m hm;omega,(h m (List.mem_cons_of_mem _ hm)).2⟩) (List.pairwise_cons.mp hp).2 (by omega)
    rw[List.length_cons]
    omega
theorem pop_filter: ∀(N k:Nat),k<2 ^ N→pop k=((List.range N).filter fun i=>k.testBit i).length
  | 0,k,h=>by
    have:k=0:=by omega
    subst this
    rw[pop_zero]
    rfl
  | N+1,k,h=>by
    have ih:=pop_filter N (k / 2) (by rw[Nat.pow_succ] at h;omega)
    rw[pop_step,ih,List.range_succ_eq_map,List.filter_cons,List.filter_map,Nat.testBit_zero]
    have e:((fun i=>k.testBit i) ∘ Nat.succ)=fun i=>(k / 2).testBit i:=by
      funext i
      rw[Function.comp_apply,Nat.succ_eq_add_one,Nat.testBit_succ]
    rw[e]
    rcases Nat.mod_two_eq_zero_or_one k with c | c <;> simp[c] <;> omega
theorem pop_and {m:Nat} {ns:List Int} (h: ∀n∈ns,0≤n∧n<64) (nd:ns.Nodup):
    pop ((maskI ns).toNat &&& m)=(ns.filter fun i=>m.testBit i.toNat).length:=by
  have lt:(maskI ns).toNat &&& m<2 ^ 64:=Nat.lt_of_le_of_lt Nat.and_le_left (mask_lt (k:=64) h nd)
  rw[pop_filter 64 _ lt]
  have pm:(((List.range 64).filter fun i=>((maskI ns).toNat &&& m).testBit i).map fun i=>((i:Nat):Int)).Perm (ns.filter fun i=>m.testBit i.toNat):=by
    refine (List.perm_ext_iff_of_nodup ?_ ?_).mpr ?_
    · rw[List.nodup_iff_pairwise_ne,List.pairwise_map]
      exact (List.pairwise_lt_range.filter _).imp fun h=>by omega
    · exact nd.filter _
    · intro a
      rw[List.mem_map,List.mem_filter]
      constructor
      · rintro ⟨i,hi,rfl⟩
        have q:=(List.mem_filter.mp hi).2
        rw[Nat.testBit_and,Bool.and_eq_true,mask_bit i (fun n hn=>(h n hn).1) nd] at q
        exact⟨of_decide_eq_true q.1,by rw[Int.toNat_natCast];exact q.2⟩
      · rintro ⟨ha,hb⟩
        have ra:=h a ha
        refine⟨a.toNat,List.mem_filter.mpr ⟨List.mem_range.mpr (by omega),?_⟩,by omega⟩
        rw[Nat.testBit_and,Bool.and_eq_true,mask_bit _ (fun n hn=>(h n hn).1) nd]
        exact⟨decide_eq_true (by rwa [show ((a.toNat:Nat):Int)=a by omega]),hb⟩
  have:=pm.length_eq
  rw[List.length_map] at this
  exact this
structure FlipOk (t g:Nat):Prop where
  lt:t<2 ^ 40
  lg:g<2 ^ 40
  fix:g.testBit 0=false
  ev:oddN (t &&& g)=false
def afterM (m t g:Nat):Nat:=if oddN (m &&& t) then m ^^^ g else m
theorem oddN_xor (a b:Nat):oddN (a ^^^ b)=(oddN a !=oddN b):=by
  have h: ∀(N a b:Nat),a<2 ^ N→b<2 ^ N→oddN (a ^^^ b)=(oddN a !=oddN b):=by
    intro N
    induction N with
    | zero=>
      intro a b ha hb
      have:a=0:=by omega
      have:b=0:=by omega
      subst a b
      simp[oddN,pop_zero]
    | succ N ih=>
      intro a b ha hb
      rw[Nat.pow_succ] at ha hb
      have i:=ih (a / 2) (b / 2) (by omega) (by omega)
      unfold oddN at i ⊢
      rw[pop_step (a ^^^ b),pop_step a,pop_step b,Nat.xor_div_two]
      have x:(a ^^^ b) % 2=(a % 2+b % 2) % 2:=by
        have e:(a ^^^ b) % 2=1↔ ¬ (a % 2=1↔b % 2=1):=Nat.xor_mod_two_eq_one
        omega
      generalize pop (a / 2 ^^^ b / 2)=P at i
      generalize pop (a / 2)=A at i
      generalize pop (b / 2)=B at i
      rw[x]
      clear x
      have dm: ∀c d:Nat,(decide (c % 2=1) !=decide (d % 2=1))=decide ((c+d) % 2=1):=by
        intro c d
        rcases Nat.mod_two_eq_zero_or_one c with e1 | e1 <;> rcases Nat.mod_two_eq_zero_or_one d with e2 | e2 <;> simp[e1,e2,Nat.add_mod]
      rw[dm] at i ⊢
      have i':P % 2=1↔(A+B) % 2=1:=by
        rw[← decide_eq_true_eq (p:=P % 2=1),i,decide_eq_true_eq]
      rw[Bool.eq_iff_iff,decide_eq_true_eq,decide_eq_true_eq]
      omega
  refine h (a+b) a b ?_ ?_
  · exact Nat.lt_of_lt_of_le Nat.lt_two_pow_self (Nat.pow_le_pow_right (by decide) (by omega))
  · exact Nat.lt_of_lt_of_le Nat.lt_two_pow_self (Nat.pow_le_pow_right (by decide) (by omega))
theorem and_xor_dist (a b c:Nat):(a ^^^ b) &&& c=(a &&& c) ^^^ (b &&& c):=Nat.and_xor_distrib_right ..
theorem afterM_test {m t g:Nat} (ev:oddN (t &&& g)=false):oddN (afterM m t g &&& t)=oddN (m &&& t):=by
  unfold afterM
  split
  · rw[and_xor_dist,oddN_xor,Nat.and_comm g t,ev]
    cases oddN (m &&& t) <;> rfl
  · rfl
theorem afterM_twice {m t g:Nat} (ev:oddN (t &&& g)=false):afterM (afterM m t g) t g=m:=by
  have h:=afterM_test (m:=m) ev
  by_cases c:oddN (m &&& t)=true
  · rw[c] at h
    have e:afterM m t g=m ^^^ g:=by unfold afterM;rw[if_pos c]
    rw[e] at h ⊢
    unfold afterM
    rw[if_pos h,Nat.xor_assoc,Nat.xor_self,Nat.xor_zero]
  · have e:afterM m t g=m:=by unfold afterM;rw[if_neg c]
    rw[e,e]
theorem cells_ns {d:PyData} {s:Int} {ts:List Int} (e:cellsD d s=some ts): ∃ns:List Int,seqD d=some (ns.map .int)∧ns.Nodup∧(∀n∈ns,0≤n∧n<s)∧isort ns=ts:=by
  obtain⟨ds,h,c,rfl⟩:=cells_some e
  have c2:=Bool.and_eq_true_iff.mp c
  refine⟨intsD ds,?_,of_decide_eq_true c2.2,fun n hn=>by have:=ints_in c n hn;omega,rfl⟩
  rw[h,← intsOf c2.1]
def widM (t g:Nat):Nat:=max 1 (Builtin.Int.intBits ((t ||| g:Nat):Int))
theorem widM_le {t g n:Nat} (h:1≤n):widM t g≤n↔t<2 ^ n∧g<2 ^ n:=by
  unfold widM
  rw[Nat.max_le]
  have e:Builtin.Int.intBits ((t ||| g:Nat):Int)≤n↔(t ||| g)<2 ^ n:=by
    have:=PySem.intBits_le_iff (m:=n) (x:=((t ||| g:Nat):Int))
    simpa using this
  rw[e]
  constructor
  · rintro ⟨_,h2⟩
    exact⟨Nat.lt_of_le_of_lt Nat.left_le_or h2,Nat.lt_of_le_of_lt Nat.right_le_or h2⟩
  · rintro ⟨h1,h2⟩
    exact⟨h,Nat.or_lt_two_pow h1 h2⟩
theorem or_nn (a b:Nat):Builtin.bitOr (a:Int) (b:Int)=((a ||| b:Nat):Int):=by
  have h:=bitOr_nn (Int.natCast_nonneg a) (Int.natCast_nonneg b)
  simpa using h
theorem maskN {ns:List Int}:maskI ns=(((maskI ns).toNat:Nat):Int):=by have:=maskI_nn ns;omega
structure PairOk (n:Nat) (ts gs:List Int):Prop where
  tr: ∀t∈ts,0≤t∧t<n
  ta:ts.Pairwise (· < ·)
  gr: ∀g∈gs,1≤g∧g<n
  ga:gs.Pairwise (· < ·)
  ev:(ts.filter fun t=>decide (t∈gs)).length % 2=0
section
variable {n : Nat} {ts gs : List Int}
theorem PairOk.tn (h:PairOk n ts gs):ts.Nodup:=h.ta.imp fun h=>by omega
theorem PairOk.gn (h:PairOk n ts gs):gs.Nodup:=h.ga.imp fun h=>by omega
theorem PairOk.g0 (h:PairOk n ts gs): ∀g∈gs,0≤g∧g<n:=fun g hg=>by have:=h.gr g hg;omega
theorem PairOk.no0 (h:PairOk n ts gs):(0:Int) ∉ gs:=fun m=>by have:=h.gr 0 m;omega
theorem PairOk.tl (h:PairOk n ts gs):ts.length≤n:=by have:=asc_len h.tr h.ta (by omega);omega
theorem PairOk.gl (h:PairOk n ts gs):gs.length≤n:=by have:=asc_len h.g0 h.ga (by omega);omega
theorem PairOk.even (h:PairOk n ts gs) (hn:n≤64):oddN ((maskI ts).toNat &&& (maskI gs).toNat)=false:=by
  unfold oddN
  rw[pop_and (fun t ht=>by have:=h.tr t ht;omega) h.tn]
  have e:(ts.filter fun i=>(maskI gs).toNat.testBit i.toNat)=ts.filter fun t=>decide (t∈gs):=by
    apply List.filter_congr
    intro t ht
    rw[mask_bit _ (fun g hg=>(h.g0 g hg).1) h.gn]
    have:=(h.tr t ht).1
    rw[show ((t.toNat:Nat):Int)=t by omega]
  rw[e,h.ev]
  rfl
theorem PairOk.flip (h:PairOk n ts gs) (hn:n≤40):FlipOk (maskI ts).toNat (maskI gs).toNat:=by
  refine⟨mask_lt (k:=40) (fun t ht=>by have:=h.tr t ht;omega) h.tn,mask_lt (k:=40) (fun t ht=>by have:=h.gr t ht;omega) h.gn,?_,h.even (by omega)⟩
  rw[mask_bit 0 (fun g hg=>(h.g0 g hg).1) h.gn]
  exact decide_eq_false h.no0
theorem PairOk.mono (h:PairOk n ts gs) {k:Nat} (hk:n≤k):PairOk k ts gs:=
  ⟨fun t ht=>by have:=h.tr t ht;omega,h.ta,fun t ht=>by have:=h.gr t ht;omega,h.ga,h.ev⟩
theorem PairOk.ct (h:PairOk n ts gs) (hn:n≤40):cellsD (lstI ts) 40=some ts∧cellsD (tupI ts) 40=some ts:=(cells_asc (fun t ht=>by have:=h.tr t ht;omega) h.ta).symm
theorem PairOk.tt (h:PairOk n ts gs) (hn:n≤40):Tame (lstI ts) 2 40:=tame_lstI (fun t ht=>by have:=h.tr t ht;omega) (by have:=h.tl;omega)
theorem PairOk.tg (h:PairOk n ts gs) (hn:n≤40):Tame (lstI gs) 2 40:=tame_lstI (fun t ht=>by have:=h.gr t ht;omega) (by have:=h.gl;omega)
end
theorem mask_lt_iff {ns:List Int} {k:Nat} (h: ∀n∈ns,0≤n) (nd:ns.Nodup):(maskI ns).toNat<2 ^ k↔ ∀n∈ns,n<k:=by
  constructor
  · intro lt n hn
    have h0:=h n hn
    have b:=mask_bit n.toNat h nd
    rw[show ((n.toNat:Nat):Int)=n by omega,decide_eq_true hn] at b
    by_cases c:n<k
    · exact c
    · rw[Nat.testBit_lt_two_pow (Nat.lt_of_lt_of_le lt (Nat.pow_le_pow_right (by decide) (by omega)))] at b
      cases b
  · intro lt
    exact mask_lt (fun n hn=>⟨h n hn,lt n hn⟩) nd
theorem PairOk.max {n:Nat} {ts gs:List Int} {m:Int} (h:PairOk n ts gs) (mm:m∈ [0]++ts++gs) (hm: ∀y∈ [0]++ts++gs,y≤m):1+m=((widM (maskI ts).toNat (maskI gs).toNat:Nat):Int):=by
  have m0:0≤m:=hm 0 (by simp)
  have key: ∀k:Nat,1≤k→(widM (maskI ts).toNat (maskI gs).toNat≤k↔1+m≤k):=by
    intro k hk
    rw[widM_le hk,mask_lt_iff (fun t ht=>(h.tr t ht).1) h.tn,mask_lt_iff (fun t ht=>(h.g0 t ht).1) h.gn]
    constructor
    · rintro ⟨h1,h2⟩
      simp only[List.mem_append,List.mem_singleton] at mm
      rcases mm with (rfl | mm) | mm
      · omega
      · have:=h1 m mm
        omega
      · have:=h2 m mm
        omega
    · intro hk2
      refine⟨fun t ht=> ?_,fun t ht=> ?_⟩
      · have:=hm t (by simp[ht])
        omega
      · have:=hm t (by simp[ht])
        omega
  have w1:1≤widM (maskI ts).toNat (maskI gs).toNat:=Nat.le_max_left ..
  have a:=(key _ w1).mp (Nat.le_refl _)
  have b:=(key (1+m).toNat (by omega)).mpr (by omega)
  omega
def afterL (m:Nat) (fl:List (Nat×Nat)):Nat:=fl.foldl (fun m f=>afterM m f.1 f.2) m
def intsTo (n:Nat):List Int:=(List.range n).map fun i=>((i:Nat):Int)
theorem mem_intsTo {n:Nat} {k:Int}:k∈intsTo n↔0≤k∧k<n:=by
  unfold intsTo
  rw[List.mem_map]
  constructor
  · rintro ⟨i,hi,rfl⟩
    have:=List.mem_range.mp hi
    omega
  · rintro ⟨h1,h2⟩
    exact⟨k.toNat,List.mem_range.mpr (by omega),by omega⟩
def bln (m:Nat):Nat:=Builtin.Int.intBits (m:Int)
abbrev Ech:=List (Nat×Nat×Nat)
inductive Spn (E:Ech):Nat→Nat→Prop where
  | zero:Spn E 0 0
  | add {L r u m i:Nat} (h:(L,r,u)∈E) (s:Spn E m i):Spn E (m ^^^ r) (i ^^^ u)
theorem Spn.even {E:Ech} {b:Nat} (h: ∀L r u,(L,r,u)∈E→oddN (r &&& b)=false) {m i:Nat} (s:Spn E m i):oddN (m &&& b)=false:=by
  induction s with
  | zero=>rw[Nat.zero_and];simp[oddN,pop_zero]
  | add hm _ ih=>rw[and_xor_dist,oddN_xor,ih,h _ _ _ hm];rfl
structure EchOk (E:Ech):Prop where
  ok: ∀L r u,(L,r,u)∈E→r≠0∧bln r=L∧r<2 ^ 40
def EchGet (E:Ech) (L:Nat):Option (Nat×Nat):=(E.find? fun e=>decide (e.1=L)).map (·.2)
theorem EchGet.mem {E:Ech} {L:Nat} {x:Nat×Nat} (h:EchGet E L=some x):(L,x.1,x.2)∈E:=by
  obtain⟨⟨L',r,u⟩,e,rfl⟩:=Option.map_eq_some_iff.mp h
  have a:=List.find?_some e
  have:=of_decide_eq_true a
  have b:=List.mem_of_find?_eq_some e
  simp only at this
  subst this
  exact b
theorem EchGet.cons {E:Ech} {L r u j:Nat}:EchGet ((L,r,u)::E) j=if j=L then some (r,u) else EchGet E j:=by
  unfold EchGet
  rw[List.find?_cons]
  by_cases c:j=L
  · subst c;simp
  · have:decide (L=j)=false:=decide_eq_false fun z=>c z.symm
    simp[this,c]
def Free (masks:List Nat):Prop:= ∀(i:Nat) (h:i<masks.length),∃b,(∀(j:Nat) (hj:j<i),oddN (masks[j] &&& b)=false)∧oddN (masks[i] &&& b)=true
section
variable {σ : L2.St} {H : Hp} {Q : VK} {D : Ends} {td ty tv te : TE} {i : Nat} {ti : TIp}
end
structure RowsOk (d:PyData) (ms:List Nat):Prop where
  ex: ∃ds,seqD d=some ds∧ds.length=ms.length∧ ∀(i:Nat) (h:i<ms.length) e,ds[i]?=some e→cellsD e ms.length=some (bitsL ms[i])∧Tame e 40 50000
  n1:1≤ms.length
  n40:ms.length≤40
  lt: ∀m∈ms,m<2 ^ 40
theorem Spn.self {E:Ech} {L r u:Nat} (h:(L,r,u)∈E):Spn E r u:=by
  have:=Spn.add h (Spn.zero (E:=E))
  rwa [Nat.zero_xor,Nat.zero_xor] at this
theorem EchOk.cons {E:Ech} {r u:Nat} (h:EchOk E) (r0:r≠0) (l:r<2 ^ 40):EchOk ((bln r,r,u)::E):=⟨fun L r' u' m=>by
  rcases List.mem_cons.mp m with z | z
  · cases z;exact⟨r0,rfl,l⟩
  · exact h.ok _ _ _ z⟩
def xorOf (ms:List Nat) (cs:List Int):Nat:=cs.foldl (fun a c=>a ^^^ ms.getD c.toNat 0) 0
theorem xorOf_from (ms:List Nat): ∀(cs:List Int) (a:Nat),cs.foldl (fun a c=>a ^^^ ms.getD c.toNat 0) a=a ^^^ xorOf ms cs
  | [],a=>by simp[xorOf]
  | c::cs,a=>by
    unfold xorOf
    rw[List.foldl_cons,List.foldl_cons,xorOf_from ms cs,xorOf_from ms cs,Nat.zero_xor,Nat.xor_assoc]
theorem xorOf_odd {ms:List Nat} {m k:Nat}: ∀ {cs:List Int},(∀c∈cs,oddN (ms.getD c.toNat 0 &&& m)=k.testBit c.toNat)→
    oddN (xorOf ms cs &&& m)=decide ((cs.filter fun c=>k.testBit c.toNat).length % 2=1)
  | [],_=>by
    show oddN (0 &&& m)=_
    rw[Nat.zero_and]
    simp[oddN,pop_zero]
  | c::cs,h=>by
    have ih:=xorOf_odd (cs:=cs) fun d hd=>h d (List.mem_cons_of_mem _ hd)
    unfold xorOf
    rw[List.foldl_cons,xorOf_from,Nat.zero_xor,and_xor_dist,oddN_xor,h c (by simp),ih,List.filter_cons]
    cases e:k.testBit c.toNat
    · simp
    · rw[if_pos rfl,List.length_cons,Bool.eq_iff_iff]
      simp
      omega
theorem xorOf_lt {ms:List Nat} {n:Nat} (h: ∀x∈ms,x<2 ^ n): ∀cs:List Int,xorOf ms cs<2 ^ n
  | []=>by
    show 0<2 ^ n
    exact Nat.two_pow_pos n
  | c::cs=>by
    unfold xorOf
    rw[List.foldl_cons,xorOf_from,Nat.zero_xor]
    refine Nat.xor_lt_two_pow ?_ (xorOf_lt h cs)
    rw[List.getD_eq_getElem?_getD]
    cases e:ms[c.toNat]? with
    | none=>exact Nat.two_pow_pos n
    | some x=>exact h x (List.mem_of_getElem? e)
def stepT (ms:List Nat) (t g:Nat):List Nat:=(List.range ms.length).map fun i=>if g.testBit i=true then ms.getD i 0 ^^^ xorOf ms (bitsL t) else ms.getD i 0
structure TabInv (n:Nat) (fl:List (Nat×Nat)) (ms:List Nat):Prop where
  len:ms.length=n
  ok: ∀m i,i<n→oddN (ms.getD i 0 &&& m)=(afterL m fl).testBit i
  lt: ∀x∈ms,x<2 ^ n
  first:ms.getD 0 0=1
theorem stepT_get {ms:List Nat} {t g i:Nat} (h:i<ms.length):(stepT ms t g).getD i 0=if g.testBit i=true then ms.getD i 0 ^^^ xorOf ms (bitsL t) else ms.getD i 0:=by
  unfold stepT
  rw[List.getD_eq_getElem?_getD,List.getElem?_map,List.getElem?_range h]
  rfl
theorem TabInv.step {n:Nat} {fl:List (Nat×Nat)} {ms:List Nat} (h:TabInv n fl ms) {t g:Nat} (n1:1≤n) (n40:n≤40) (ht:t<2 ^ n) (g0:g.testBit 0=false):TabInv n (fl++ [(t,g)]) (stepT ms t g):=by
  have t64:t<2 ^ 64:=Nat.lt_of_lt_of_le ht (Nat.pow_le_pow_right (by decide) (by omega))
  refine⟨by unfold stepT;rw[List.length_map,List.length_range];exact h.len,fun m i hi=> ?_,fun x hx=> ?_,?_⟩
  · have e:afterL m (fl++ [(t,g)])=afterM (afterL m fl) t g:=by
      unfold afterL
      rw[List.foldl_append]
      rfl
    have hx:=xorOf_odd (ms:=ms) (m:=m) (k:=afterL m fl) (cs:=bitsL t) fun c hc=>by
      have:=bits_below ht hc
      exact h.ok m c.toNat (by omega)
    have hp:=pop_and (ns:=bitsL t) (m:=afterL m fl) (fun c hc=>by have:=bits_mem hc;omega) ((bits_asc t).imp fun h=>by omega)
    rw[mask_bits t64] at hp
    have ho:oddN (afterL m fl &&& t)=oddN (xorOf ms (bitsL t) &&& m):=by
      rw[hx,Nat.and_comm]
      unfold oddN
      rw[hp]
    rw[e,stepT_get (by rw[h.len];exact hi),afterM]
    by_cases o:oddN (afterL m fl &&& t)=true
    · rw[if_pos o,Nat.testBit_xor]
      by_cases c:g.testBit i=true
      · rw[if_pos c,and_xor_dist,oddN_xor,h.ok m i hi,← ho,o,c]
      · rw[if_neg c,h.ok m i hi,Bool.eq_false_iff.mpr c,Bool.xor_false]
    · rw[if_neg o]
      by_cases c:g.testBit i=true
      · rw[if_pos c,and_xor_dist,oddN_xor,h.ok m i hi,← ho,Bool.eq_false_iff.mpr o]
        cases (afterL m fl).testBit i <;> rfl
      · rw[if_neg c,h.ok m i hi]
  · unfold stepT at hx
    obtain⟨i,hi,rfl⟩:=List.mem_map.mp hx
    have hg:ms.getD i 0<2 ^ n:=by
      have:=List.mem_range.mp hi
      rw[List.getD_eq_getElem?_getD,List.getElem?_eq_getElem this]
      exact h.lt _ (List.getElem_mem this)
    split
    · exact Nat.xor_lt_two_pow hg (xorOf_lt h.lt _)
    · exact hg
  · rw[stepT_get (by rw[h.len];omega),if_neg (by rw[g0];decide)]
    exact h.first
theorem after_back: ∀(fl:List (Nat×Nat)),(∀f∈fl,oddN (f.1 &&& f.2)=false)→ ∀x,afterL (afterL x fl.reverse) fl=x
  | [],_,x=>rfl
  | f::fl,h,x=>by
    have ih:=after_back fl (fun g hg=>h g (List.mem_cons_of_mem _ hg)) x
    have e1:afterL x (f::fl).reverse=afterM (afterL x fl.reverse) f.1 f.2:=by
      rw[List.reverse_cons]
      unfold afterL
      rw[List.foldl_append]
      rfl
    have e2: ∀y,afterL y (f::fl)=afterL (afterM y f.1 f.2) fl:=fun y=>rfl
    rw[e1,e2,afterM_twice (h f (by simp)),ih]
theorem TabInv.free {n:Nat} {fl:List (Nat×Nat)} {ms:List Nat} (h:TabInv n fl ms) (hf: ∀f∈fl,oddN (f.1 &&& f.2)=false):Free ms:=by
  intro i hi
  have gd: ∀(j:Nat) (hj:j<ms.length),ms.getD j 0=ms[j]:=fun j hj=>by rw[List.getD_eq_getElem?_getD,List.getElem?_eq_getElem hj];rfl
  refine⟨afterL (2 ^ i) fl.reverse,fun j hj=> ?_,?_⟩
  · rw[← gd j (by omega),h.ok _ j (by rw[← h.len];omega),after_back fl hf,Nat.testBit_two_pow]
    simp
    omega
  · rw[← gd i hi,h.ok _ i (by rw[← h.len];exact hi),after_back fl hf,Nat.testBit_two_pow]
    simp
end PC

set_option Elab.async false
set_option linter.all false
set_option maxRecDepth 100000
set_option maxHeartbeats 2000000
namespace PC
open PySem PySem.Spec PyProof.Rows L2

section
variable {prog : Program} {w : World} {A : Around} {E : Value → Shared → Prop} {s : Shared} {K : PySem.W.Frag} {x y C f : Addr} {ox : Obj} {od : Option Obj}
end

structure EqT (K:PySem.W.Frag) (C f:Addr):Prop where
  own:PySem.W.findIn K (.ref C) "__eq__" =some (some (.ref f))
  fn:PySem.W.isFn K (.ref f)=true
  ne:PySem.W.findIn K (.ref C) "__ne__" =some (some (.builtin "object.__ne__"))
section
variable {X : Cx} {k : Nat} {f C : Addr} {fd : FuncData} {ps : List Str} {sp : Sp}
end
section
variable {X : Cx} {K : PySem.W.Frag} {H : Hp} {Q : VK} {x y : V} {Z : List Addr} {d : PyData} {ds : List PyData}
def rNotInDat (K:PySem.W.Frag):R2:=fun x y H Q=> ∃Z d ds,One H∧Dat K Z H d x∧SeqAt.shaped d=true∧
  ((Dat K Z H (.list ds) y∧SeqAt.shaped (.list ds)=true)∨(Dat K Z H (.tuple ds) y∧SeqAt.shaped (.tuple ds)=true))∧Q (.bl (!ds.any fun e=>PyData.eqv e d)) H
theorem kx_notInD {k:Nat} (hK:X.K=K) (hr:Room k X.A):OpR X (compareOp .NotIn) (rNotInDat K):=by
  subst hK
  intro pins s σ H x y v u Q I rx ry h
  obtain⟨Z,d,ds,o1,hd,sd,hy,q⟩:=h
  obtain⟨as,r1,_⟩:=Dat.reads I o1 d x v hd rx
  have hu:=hr.un
  rcases hy with ⟨hy,sy⟩ | ⟨hy,sy⟩
  · obtain⟨bs,r2,_⟩:=Dat.reads I o1 _ y u hy ry
    exact PySem.SeqAt.notIn_list_reads r2 r1 (PySem.SeqAt.canLay_of_shaped sy) (PySem.SeqAt.canLay_of_shaped sd) (PyProof.Rows.room_in_shaped sd (by omega)) ⟨.bl _,H,I,rfl,q⟩
  · obtain⟨bs,r2,_⟩:=Dat.reads I o1 _ y u hy ry
    exact PySem.SeqAt.notIn_tuple_reads r2 r1 (PySem.SeqAt.canLay_of_shaped sy) (PySem.SeqAt.canLay_of_shaped sd) (PyProof.Rows.room_in_shaped sd (by omega)) ⟨.bl _,H,I,rfl,q⟩
end
section
variable {X : Cx}
end
end PC

set_option Elab.async false
set_option linter.all false
set_option maxRecDepth 100000
set_option maxHeartbeats 2000000
namespace TL
open PySem PySem.Spec PyProof.Rows L2 PC

abbrev Pl:=Addr→Prop
structure Stp (Z:Pl) (H:Hp) (Z':Pl) (H':Hp):Prop where
  keep: ∀b o,¬ Z b→H b=some o→H' b=some o
  zz: ∀b,Z' b→Z b∨H b=none
section
variable {Z Z' Z'' : Pl} {H H' H'' : Hp}
theorem Stp.refl:Stp Z H Z H:=⟨fun _ _ _ e=>e,fun _ h=> .inl h⟩
theorem Stp.trans (a:Stp Z H Z' H') (b:Stp Z' H' Z'' H''):Stp Z H Z'' H'':=
  ⟨fun c o n e=>b.keep c o (fun z=>(a.zz c z).elim n fun w=>by rw[e] at w;cases w) (a.keep c o n e),
   fun c z=>(b.zz c z).elim (a.zz c) fun w=>by
    by_cases n:Z c
    · exact .inl n
    · cases e:H c with
      | none=>exact .inr rfl
      | some o=>rw[a.keep c o n e] at w;cases w⟩
theorem Stp.less (h: ∀a,Z' a→Z a):Stp Z H Z' H:=⟨fun _ _ _ e=>e,fun b z=> .inl (h b z)⟩
theorem Stp.new {n:Addr} {o:HO} (h:H n=none):Stp Z H Z (upd H n o):=⟨fun b u _ e=>by rw[upd_ne (ne_of_none e h)];exact e,fun _ z=> .inl z⟩
theorem Stp.put {a:Addr} {o:HO} (h:Z a):Stp Z H Z (upd H a o):=⟨fun b u n e=>by
  by_cases w:b=a
  · subst w;exact absurd h n
  · rw[upd_ne w];exact e,fun _ z=> .inl z⟩
theorem Stp.more {n:Addr} (h:H n=none):Stp Z H (fun b=>Z b∨b=n) H:=⟨fun _ _ _ e=>e,fun b z=>z.elim .inl fun w=> .inr (w ▸ h)⟩
theorem Stp.same (s:Same H H'):Stp Z H Z H':=⟨fun b o _ e=>s b o e,fun _ z=> .inl z⟩
theorem rd_stp {a:Addr} {u:HO} (r:Stp Z H Z' H') (n: ¬ Z a) (h:Rd H a u):Rd H' a u:=by
  rcases h with h | ⟨o,h⟩
  · exact .inl (r.keep _ _ n h)
  · exact .inr ⟨o,r.keep _ _ n h⟩
theorem rd_some {a:Addr} {u:HO} (h:Rd H a u):H a≠none:=by
  rcases h with h | ⟨o,h⟩ <;> (rw[h];exact fun z=>nomatch z)
theorem nz_stp {a:Addr} (r:Stp Z H Z' H') (n: ¬ Z a) (h:H a≠none): ¬ Z' a:=fun z=>(r.zz a z).elim n h
end

section
variable (K : PySem.W.Frag)
mutual
/-- v shows the data d; none of its own objects stands at a place of Z -/
def DatP (Z:Pl) (H:Hp):PyData→V→Prop
  | .none,v=>v= .non
  | .bool b,v=>v= .bl b
  | .int i,v=>v= .int i
  | .str x,v=>v= .str x
  | .list ds,v=> ∃a xs,v= .ref a∧ ¬ Z a∧Rd H a (.lst xs)∧DatPL Z H ds xs
  | .tuple ds,v=> ∃a xs,v= .ref a∧(¬ Z a∨SqT K (fun _=>none) a xs)∧SqT K H a xs∧DatPL Z H ds xs
  | .dict kvs,v=> ∃a es,v= .ref a∧ ¬ Z a∧H a=some (.dK es)∧DatPK Z H kvs es
def DatPL (Z:Pl) (H:Hp):List PyData→List V→Prop
  | [],vs=>vs= []
  | d::ds,vs=> ∃v r,vs=v::r∧DatP Z H d v∧DatPL Z H ds r
def DatPK (Z:Pl) (H:Hp):List (PyData×PyData)→List (Key×V)→Prop
  | [],es=>es= []
  | (k,d)::r,es=> ∃kk v t,es=(kk,v)::t∧keyD kk=k∧DatP Z H d v∧DatPK Z H r t
end
end
section
variable {K : PySem.W.Frag} {Z Z' : Pl} {H H' : Hp}
theorem sqT_stp {a:Addr} {xs:List V} (r:Stp Z H Z' H') (n: ¬ Z a∨SqT K (fun _=>none) a xs) (h:SqT K H a xs):SqT K H' a xs:=by
  rcases h with h | h
  · rcases n with n | n
    · exact .inl (rd_stp r n h)
    · rcases n with (n | ⟨o,n⟩) | n
      · cases n
      · cases n
      · exact .inr n
  · exact .inr h
theorem nzT_stp {a:Addr} {xs:List V} (r:Stp Z H Z' H') (n: ¬ Z a∨SqT K (fun _=>none) a xs) (h:SqT K H a xs): ¬ Z' a∨SqT K (fun _=>none) a xs:=by
  rcases n with n | n
  · rcases h with h | h
    · exact .inl (nz_stp r n (rd_some h))
    · exact .inr (.inr h)
  · exact .inr n
mutual
theorem DatP.up (r:Stp Z H Z' H'): ∀(d:PyData) (v:V),DatP K Z H d v→DatP K Z' H' d v
  | .none,v,h=>h
  | .bool _,v,h=>h
  | .int _,v,h=>h
  | .str _,v,h=>h
  | .list ds,v,h=>by
    simp only[DatP] at h ⊢
    obtain⟨a,xs,e,n,s,l⟩:=h
    exact⟨a,xs,e,nz_stp r n (rd_some s),rd_stp r n s,DatPL.up r ds xs l⟩
  | .tuple ds,v,h=>by
    simp only[DatP] at h ⊢
    obtain⟨a,xs,e,n,s,l⟩:=h
    exact⟨a,xs,e,nzT_stp r n s,sqT_stp r n s,DatPL.up r ds xs l⟩
  | .dict kvs,v,h=>by
    simp only[DatP] at h ⊢
    obtain⟨a,es,e,n,s,l⟩:=h
    exact⟨a,es,e,nz_stp r n (by rw[s];exact fun z=>nomatch z),r.keep _ _ n s,DatPK.up r kvs es l⟩
theorem DatPL.up (r:Stp Z H Z' H'): ∀(ds:List PyData) (vs:List V),DatPL K Z H ds vs→DatPL K Z' H' ds vs
  | [],vs,h=>h
  | d::ds,vs,h=>by
    simp only[DatPL] at h ⊢
    obtain⟨v,q,e,h1,h2⟩:=h
    exact⟨v,q,e,DatP.up r d v h1,DatPL.up r ds q h2⟩
theorem DatPK.up (r:Stp Z H Z' H'): ∀(ds:List (PyData×PyData)) (es:List (Key×V)),DatPK K Z H ds es→DatPK K Z' H' ds es
  | [],vs,h=>h
  | (k,d)::ds,vs,h=>by
    simp only[DatPK] at h ⊢
    obtain⟨kk,v,q,e,hk,h1,h2⟩:=h
    exact⟨kk,v,q,e,hk,DatP.up r d v h1,DatPK.up r ds q h2⟩
end
mutual
theorem DatP.dat: ∀(d:PyData) (v:V),DatP K Z H d v→Dat K [] H d v
  | .none,v,h=>by simpa only[DatP,Dat] using h
  | .bool _,v,h=>by simpa only[DatP,Dat] using h
  | .int _,v,h=>by simpa only[DatP,Dat] using h
  | .str _,v,h=>by simpa only[DatP,Dat] using h
  | .list ds,v,h=>by
    simp only[DatP] at h
    simp only[Dat]
    obtain⟨a,xs,e,n,s,l⟩:=h
    exact⟨a,xs,e,by simp,s,DatPL.dat ds xs l⟩
  | .tuple ds,v,h=>by
    simp only[DatP] at h
    simp only[Dat]
    obtain⟨a,xs,e,n,s,l⟩:=h
    exact⟨a,xs,e,.inl (by simp),s,DatPL.dat ds xs l⟩
  | .dict kvs,v,h=>by
    simp only[DatP] at h
    simp only[Dat]
    obtain⟨a,es,e,n,s,l⟩:=h
    exact⟨a,es,e,by simp,s,DatPK.dat kvs es l⟩
theorem DatPL.dat: ∀(ds:List PyData) (vs:List V),DatPL K Z H ds vs→DatL K [] H ds vs
  | [],vs,h=>by simpa only[DatPL,DatL] using h
  | d::ds,vs,h=>by
    simp only[DatPL] at h
    simp only[DatL]
    obtain⟨v,q,e,h1,h2⟩:=h
    exact⟨v,q,e,DatP.dat d v h1,DatPL.dat ds q h2⟩
theorem DatPK.dat: ∀(ds:List (PyData×PyData)) (es:List (Key×V)),DatPK K Z H ds es→DatK K [] H ds es
  | [],vs,h=>by simpa only[DatPK,DatK] using h
  | (k,d)::ds,vs,h=>by
    simp only[DatPK] at h
    simp only[DatK]
    obtain⟨kk,v,q,e,hk,h1,h2⟩:=h
    exact⟨kk,v,q,e,hk,DatP.dat d v h1,DatPK.dat ds q h2⟩
end
end

structure Dm (K:PySem.W.Frag) where
  at_:Pl→Hp→V→Prop
  up: ∀ {Z H Z' H' v},Stp Z H Z' H'→at_ Z H v→at_ Z' H' v
def AtL {K:PySem.W.Frag} (Z:Pl) (H:Hp):List (Dm K)→List V→Prop
  | [],vs=>vs= []
  | d::ds,vs=> ∃v r,vs=v::r∧d.at_ Z H v∧AtL Z H ds r
def AtK {K:PySem.W.Frag} {κ:Type} (Z:Pl) (H:Hp):List (κ×Dm K)→List (κ×V)→Prop
  | [],vs=>vs= []
  | d::ds,vs=> ∃v r,vs=(d.1,v)::r∧d.2.at_ Z H v∧AtK Z H ds r
section
variable {K : PySem.W.Frag} {Z Z' : Pl} {H H' : Hp}
theorem AtL.up (r:Stp Z H Z' H'): ∀ {ds:List (Dm K)} {vs:List V},AtL Z H ds vs→AtL Z' H' ds vs
  | [],_,h=>h
  | d::ds,_,⟨v,r',e,h,t⟩=>⟨v,r',e,d.up r h,AtL.up r t⟩
theorem AtL.length: ∀ {ds:List (Dm K)} {vs:List V},AtL Z H ds vs→vs.length=ds.length
  | [],_,h=>by cases h;rfl
  | d::ds,_,⟨v,r',q,h,t⟩=>by rw[q,List.length_cons,List.length_cons,AtL.length t]
theorem AtL.get: ∀ {ds:List (Dm K)} {vs:List V} {i:Nat} {d:Dm K},AtL Z H ds vs→ds[i]?=some d→ ∃v,vs[i]?=some v∧d.at_ Z H v
  | [],_,_,_,_,e=>by simp at e
  | d::ds,_,0,x,⟨v,r',q,h,t⟩,e=>by simp at e;subst e;subst q;exact⟨v,rfl,h⟩
  | d::ds,_,i+1,x,⟨v,r',q,h,t⟩,e=>by
    subst q
    obtain⟨u,e1,e2⟩:=AtL.get (i:=i) t (by simpa using e)
    exact⟨u,by simpa using e1,e2⟩
theorem AtL.getV {ds:List (Dm K)} {vs:List V} {i:Nat} {v:V} (h:AtL Z H ds vs) (e:vs[i]?=some v): ∃d,ds[i]?=some d∧d.at_ Z H v:=by
  have hi:i<ds.length:=by rw[← h.length];exact (List.getElem?_eq_some_iff.mp e).1
  obtain⟨u,e1,e2⟩:=h.get (List.getElem?_eq_getElem hi)
  rw[e] at e1
  cases e1
  exact⟨_,List.getElem?_eq_getElem hi,e2⟩
theorem AtL.append: ∀ {ds es:List (Dm K)} {vs ws:List V},AtL Z H ds vs→AtL Z H es ws→AtL Z H (ds++es) (vs++ws)
  | [],_,_,_,h,g=>by cases h;exact g
  | d::ds,_,_,_,⟨v,r',q,h,t⟩,g=>by subst q;exact⟨v,_,rfl,h,AtL.append t g⟩
theorem AtL.drop: ∀ {ds:List (Dm K)} {vs:List V} (n:Nat),AtL Z H ds vs→AtL Z H (ds.drop n) (vs.drop n)
  | _,_,0,h=>h
  | [],_,n+1,h=>by cases h;exact rfl
  | d::ds,_,n+1,⟨v,r',q,h,t⟩=>by subst q;exact AtL.drop n t
theorem AtL.take: ∀ {ds:List (Dm K)} {vs:List V} (n:Nat),AtL Z H ds vs→AtL Z H (ds.take n) (vs.take n)
  | _,_,0,h=>rfl
  | [],_,n+1,h=>by cases h;exact rfl
  | d::ds,_,n+1,⟨v,r',q,h,t⟩=>by subst q;exact⟨v,_,rfl,h,AtL.take n t⟩
theorem AtL.set: ∀ {ds:List (Dm K)} {vs:List V} (i:Nat) {d:Dm K} {v:V},AtL Z H ds vs→d.at_ Z H v→AtL Z H (ds.set i d) (vs.set i v)
  | [],_,_,_,_,h,_=>by cases h;exact rfl
  | d::ds,_,0,_,_,⟨v,r',q,h,t⟩,g=>by subst q;exact⟨_,_,rfl,g,t⟩
  | d::ds,_,i+1,_,_,⟨v,r',q,h,t⟩,g=>by subst q;exact⟨v,_,rfl,h,AtL.set i t g⟩
theorem AtL.erase: ∀ {ds:List (Dm K)} {vs:List V} (i:Nat),AtL Z H ds vs→AtL Z H (ds.eraseIdx i) (vs.eraseIdx i)
  | [],_,_,h=>by cases h;exact rfl
  | d::ds,_,0,⟨v,r',q,h,t⟩=>by subst q;exact t
  | d::ds,_,i+1,⟨v,r',q,h,t⟩=>by subst q;exact⟨v,_,rfl,h,AtL.erase i t⟩
theorem AtL.one {d:Dm K} {v:V} (h:d.at_ Z H v):AtL Z H [d] [v]:=⟨v,[],rfl,h,rfl⟩
variable {κ : Type}
theorem AtK.up (r:Stp Z H Z' H'): ∀ {ds:List (κ×Dm K)} {vs:List (κ×V)},AtK Z H ds vs→AtK Z' H' ds vs
  | [],_,h=>h
  | d::ds,_,⟨v,r',e,h,t⟩=>⟨v,r',e,d.2.up r h,AtK.up r t⟩
theorem AtK.length: ∀ {ds:List (κ×Dm K)} {vs:List (κ×V)},AtK Z H ds vs→vs.length=ds.length
  | [],_,h=>by cases h;rfl
  | d::ds,_,⟨v,r',q,h,t⟩=>by rw[q,List.length_cons,List.length_cons,AtK.length t]
theorem AtK.keys: ∀ {ds:List (κ×Dm K)} {vs:List (κ×V)},AtK Z H ds vs→vs.map (·.1)=ds.map (·.1)
  | [],_,h=>by cases h;rfl
  | d::ds,_,⟨v,r',q,h,t⟩=>by rw[q,List.map_cons,List.map_cons,AtK.keys t]
def valK [DecidableEq κ] (es:List (κ×Dm K)) (k:κ):Option (Dm K):=(es.find? fun e=>decide (e.1=k)).map (·.2)
def putD [DecidableEq κ] (es:List (κ×Dm K)) (k:κ) (d:Dm K):List (κ×Dm K):=
  if (es.any fun e=>decide (e.1=k))=true then es.map (fun e=>if e.1=k then (e.1,d) else e) else es++ [(k,d)]
theorem AtK.val [DecidableEq κ] (k:κ): ∀ {ds:List (κ×Dm K)} {vs:List (κ×V)},AtK Z H ds vs→
    (valK ds k=none∧valV vs k=none)∨ ∃d v,valK ds k=some d∧valV vs k=some v∧d.at_ Z H v
  | [],_,h=>by cases h;exact .inl ⟨rfl,rfl⟩
  | d::ds,_,⟨v,r',q,h,t⟩=>by
    subst q
    by_cases e:d.1=k
    · exact .inr ⟨d.2,v,by simp[valK,List.find?_cons,e],valV_pos e,h⟩
    · rcases AtK.val k t with ⟨a,b⟩ | ⟨x,y,a,b,c⟩
      · exact .inl ⟨by simpa [valK,List.find?_cons,e] using a,by rw[valV_neg e];exact b⟩
      · exact .inr ⟨x,y,by simpa [valK,List.find?_cons,e] using a,by rw[valV_neg e];exact b,c⟩
theorem AtK.append: ∀ {ds es:List (κ×Dm K)} {vs ws:List (κ×V)},AtK Z H ds vs→AtK Z H es ws→AtK Z H (ds++es) (vs++ws)
  | [],_,_,_,h,g=>by cases h;exact g
  | d::ds,_,_,_,⟨v,r',q,h,t⟩,g=>by subst q;exact⟨v,_,rfl,h,AtK.append t g⟩
theorem AtK.put [DecidableEq κ] {k:κ} {d:Dm K} {v:V} {ds:List (κ×Dm K)} {vs:List (κ×V)} (h:AtK Z H ds vs) (hd:d.at_ Z H v):AtK Z H (putD ds k d) (putK vs k v):=by
  have ha:(vs.any fun kv=>decide (kv.1=k))=(ds.any fun kv=>decide (kv.1=k)):=by
    have e:=h.keys
    have a: ∀l:List (κ×V),(l.any fun kv=>decide (kv.1=k))=((l.map (·.1)).any fun x=>decide (x=k)):=fun l=>by simp[List.any_map,Function.comp_def]
    have b: ∀l:List (κ×Dm K),(l.any fun kv=>decide (kv.1=k))=((l.map (·.1)).any fun x=>decide (x=k)):=fun l=>by simp[List.any_map,Function.comp_def]
    rw[a,b,e]
  unfold putD putK
  rw[ha]
  split
  · have go: ∀ {ds:List (κ×Dm K)} {vs:List (κ×V)},AtK Z H ds vs→AtK Z H (ds.map fun e=>if e.1=k then (e.1,d) else e) (vs.map fun kv=>if kv.1=k then (kv.1,v) else kv):=by
      intro ds
      induction ds with
      | nil=>intro vs h;cases h;exact rfl
      | cons x ds ih=>
        rintro _ ⟨u,r',rfl,h1,t⟩
        by_cases e:x.1=k
        · exact⟨v,_,by simp[e],by simpa [e] using hd,ih t⟩
        · exact⟨u,_,by simp[e],by simpa [e] using h1,ih t⟩
    exact go h
  · exact h.append ⟨v,[],rfl,hd,rfl⟩
def setF (f:Str) (d:Dm K):List (Str×Dm K)→List (Str×Dm K)
  | []=> [(f,d)]
  | e::r=>if e.1=f then (e.1,d)::r else e::setF f d r
theorem AtK.setF {f:Str} {d:Dm K} {v:V} (hd:d.at_ Z H v): ∀ {ds:List (Str×Dm K)} {vs:List (Str×V)},AtK Z H ds vs→AtK Z H (TL.setF f d ds) (putF f v vs)
  | [],_,h=>by cases h;exact⟨v,[],rfl,hd,rfl⟩
  | x::ds,_,⟨u,r',q,h,t⟩=>by
    subst q
    by_cases e:x.1=f
    · have e1:TL.setF f d (x::ds)=(x.1,d)::ds:=by simp[TL.setF,e]
      rw[e1]
      exact⟨v,r',by simp[putF,e],hd,t⟩
    · have e1:TL.setF f d (x::ds)=x::TL.setF f d ds:=by simp[TL.setF,e]
      rw[e1]
      exact⟨u,putF f v r',by simp[putF,e],h,AtK.setF hd t⟩
theorem AtK.look {f:Str}: ∀ {ds:List (Str×Dm K)} {vs:List (Str×V)},AtK Z H ds vs→(ds.lookup f=none∧vs.lookup f=none)∨ ∃d v,ds.lookup f=some d∧vs.lookup f=some v∧d.at_ Z H v
  | [],_,h=>by cases h;exact .inl ⟨rfl,rfl⟩
  | x::ds,_,⟨u,r',q,h,t⟩=>by
    subst q
    by_cases e:f=x.1
    · refine .inr ⟨x.2,u,?_,?_,h⟩
      · show List.lookup f ((x.1,x.2)::ds)=_;rw[List.lookup_cons,beq_iff_eq.mpr e]
      · rw[List.lookup_cons,beq_iff_eq.mpr e]
    · have hb:(f == x.1)=false:=by simpa using e
      have e1:List.lookup f (x::ds)=List.lookup f ds:=by show List.lookup f ((x.1,x.2)::ds)=_;rw[List.lookup_cons,hb]
      have e2:List.lookup f ((x.1,u)::r')=List.lookup f r':=by rw[List.lookup_cons,hb]
      rw[e1,e2]
      exact AtK.look t
def dPy (d:PyData):Dm K:=⟨fun Z H v=>DatP K Z H d v,fun r h=>DatP.up r _ _ h⟩
abbrev kI:Int→Dm K:=fun i=>dPy (.int i)
abbrev kB:Bool→Dm K:=fun i=>dPy (.bool i)
abbrev kS:Str→Dm K:=fun i=>dPy (.str i)
abbrev kN:Unit→Dm K:=fun _=>dPy .none
abbrev kPy:PyData→Dm K:=dPy
def kRef:Addr→Dm K:=fun a=>⟨fun _ _ v=>v= .ref a,fun _ h=>h⟩
def kSc:List Int→Dm K:=fun ns=>⟨fun Z H v=> ∃a,v= .ref a∧(¬ Z a∨SqL K (fun _=>none) a (ns.map V.int))∧SqL K H a (ns.map V.int),by
  rintro Z H Z' H' v r ⟨a,e,n,h⟩
  rcases h with h | h
  · rcases n with n | n
    · exact⟨a,e,.inl (nz_stp r n (rd_some h)),.inl (rd_stp r n h)⟩
    · rcases n with (n | ⟨o,n⟩) | n
      · cases n
      · cases n
      · exact⟨a,e,.inr (.inr n),.inr n⟩
  · exact⟨a,e,.inr (.inr h),.inr h⟩⟩
def dL (ds:List (Dm K)):Dm K:=⟨fun Z H v=> ∃a xs,v= .ref a∧ ¬ Z a∧H a=some (.lst xs)∧AtL Z H ds xs,
  fun r ⟨a,xs,e,n,s,l⟩=>⟨a,xs,e,nz_stp r n (by rw[s];exact fun z=>nomatch z),r.keep _ _ n s,l.up r⟩⟩
def dT (ds:List (Dm K)):Dm K:=⟨fun Z H v=> ∃a xs,v= .ref a∧(¬ Z a∨SqT K (fun _=>none) a xs)∧SqT K H a xs∧AtL Z H ds xs,
  fun r ⟨a,xs,e,n,s,l⟩=>⟨a,xs,e,nzT_stp r n s,sqT_stp r n s,l.up r⟩⟩
def dP (ds:List (Dm K)):Dm K:=⟨fun Z H v=> ∃a xs,v= .ref a∧ ¬ Z a∧H a=some (.tup xs)∧AtL Z H ds xs,
  fun r ⟨a,xs,e,n,s,l⟩=>⟨a,xs,e,nz_stp r n (by rw[s];exact fun z=>nomatch z),r.keep _ _ n s,l.up r⟩⟩
def dI (C:Addr) (fs:List (Str×Dm K)):Dm K:=⟨fun Z H v=> ∃a dx xs,v= .ref a∧ ¬ Z a∧H a=some (.ins C dx xs)∧AtK Z H fs xs,
  fun r ⟨a,dx,xs,e,n,s,l⟩=>⟨a,dx,xs,e,nz_stp r n (by rw[s];exact fun z=>nomatch z),r.keep _ _ n s,l.up r⟩⟩
def kL {α:Type} (r:α→Dm K):List α→Dm K:=fun xs=>dL (xs.map r)
def kT {α:Type} (r:α→Dm K):List α→Dm K:=fun xs=>dT (xs.map r)
def kP {α β:Type} (r:α→Dm K) (s:β→Dm K):α×β→Dm K:=fun x=>dP [r x.1,s x.2]
def AtL.dat {f:α→PyData} {r:α→Dm K} (h: ∀x Z H v,(r x).at_ Z H v→DatP K Z H (f x) v): ∀ {xs:List α} {vs:List V},AtL Z H (xs.map r) vs→DatPL K Z H (xs.map f) vs
  | [],_,e=>by cases e;simp only[List.map_nil,DatPL]
  | x::xs,_,⟨v,r',q,g,t⟩=>by
    subst q
    simp only[List.map_cons,DatPL]
    exact⟨v,r',rfl,h x _ _ _ g,AtL.dat h t⟩
def Co {α β:Type} (r:α→Dm K) (s:β→Dm K) (f:α→β):Prop:= ∀x Z H v,(r x).at_ Z H v→(s (f x)).at_ Z H v
theorem co_id {α:Type} {r:α→Dm K}:Co r r id:=fun _ _ _ _ h=>h
theorem co_I:Co (K:=K) kI kPy PyData.int:=fun _ _ _ _ h=>h
theorem co_B:Co (K:=K) kB kPy PyData.bool:=fun _ _ _ _ h=>h
theorem co_S:Co (K:=K) kS kPy PyData.str:=fun _ _ _ _ h=>h
theorem co_N:Co (K:=K) kN kPy fun _=>PyData.none:=fun _ _ _ _ h=>h
theorem datp_tup {ds:List PyData} {a:Addr} {xs:List V} (n: ¬ Z a∨SqT K (fun _=>none) a xs) (h:SqT K H a xs) (l:DatPL K Z H ds xs):DatP K Z H (.tuple ds) (.ref a):=by
  simp only[DatP];exact⟨a,xs,rfl,n,h,l⟩
theorem datp_lst {ds:List PyData} {a:Addr} {xs:List V} (n: ¬ Z a) (h:Rd H a (.lst xs)) (l:DatPL K Z H ds xs):DatP K Z H (.list ds) (.ref a):=by
  simp only[DatP];exact⟨a,xs,rfl,n,h,l⟩
theorem co_LP {α:Type} {r:α→Dm K} {f:α→PyData} (h:Co r kPy f):Co (kL r) kPy fun xs=> .list (xs.map f):=fun xs Z H v ⟨a,ys,e,n,s,l⟩=>by
  subst e
  exact datp_lst n (.inl s) (AtL.dat h l)
theorem co_TP {α:Type} {r:α→Dm K} {f:α→PyData} (h:Co r kPy f):Co (kT r) kPy fun xs=> .tuple (xs.map f):=fun xs Z H v ⟨a,ys,e,n,s,l⟩=>by
  subst e
  exact datp_tup n s (AtL.dat h l)
theorem at_int {i:Int} {v:V} (h:(kI (K:=K) i).at_ Z H v):v= .int i:=by simpa only[dPy,DatP] using h
theorem at_bl {i:Bool} {v:V} (h:(kB (K:=K) i).at_ Z H v):v= .bl i:=by simpa only[dPy,DatP] using h
theorem at_str {i:Str} {v:V} (h:(kS (K:=K) i).at_ Z H v):v= .str i:=by simpa only[dPy,DatP] using h
theorem at_non {i:Unit} {v:V} (h:(kN (K:=K) i).at_ Z H v):v= .non:=by simpa only[dPy,DatP] using h
theorem mk_int {i:Int}:(kI (K:=K) i).at_ Z H (.int i):=by simp only[dPy,DatP]
theorem mk_bl {i:Bool}:(kB (K:=K) i).at_ Z H (.bl i):=by simp only[dPy,DatP]
theorem mk_str {i:Str}:(kS (K:=K) i).at_ Z H (.str i):=by simp only[dPy,DatP]
theorem mk_non:(kN (K:=K) ()).at_ Z H .non:=by simp only[dPy,DatP]
end

inductive Cell (K:PySem.W.Frag)
  | pot
  | lst (ds:List (Dm K))
  | dic (es:List (Key×Dm K))
  | dct (es:List (List Key×Dm K))
  | tab (q:Str)
  | ins (C:Addr) (fs:List (Str×Dm K))
def CellOk {K:PySem.W.Frag} (Z:Pl) (H:Hp) (a:Addr):Cell K→Prop
  | .pot=>Pot a H
  | .lst ds=> ∃vs,H a=some (.lst vs)∧AtL Z H ds vs
  | .dic es=> ∃vs,H a=some (.dK vs)∧AtK Z H es vs
  | .dct es=> ∃vs,H a=some (.dT vs)∧AtK Z H es vs
  | .tab q=> ∃ps:Array Value,H a=some (.tbl ps)∧TriplesOk ps.toList∧ ∀(pos:Pos) (cv:Value),codeAmong pos ps.toList=some cv→ ∃c,cv= .ref c∧ ¬ Z c∧H c=some (LamX.CodeO c q)
  | .ins C fs=> ∃dx vs,H a=some (.ins C dx vs)∧AtK Z H fs vs
abbrev Store (K:PySem.W.Frag):=Addr→Option (Cell K)
def Store.set {K:PySem.W.Frag} (S:Store K) (a:Addr) (c:Cell K):Store K:=fun b=>if b=a then some c else S b
def Store.del {K:PySem.W.Frag} (S:Store K) (a:Addr):Store K:=fun b=>if b=a then none else S b
def Zd {K:PySem.W.Frag} (S:Store K) (F:Pl):Pl:=fun a=>S a≠none∨F a
section
variable {K : PySem.W.Frag} {S S' S'' : Store K} {F : Pl} {Z Z' : Pl} {H H' H'' : Hp} {a b : Addr} {c c' : Cell K}
theorem set_same:S.set a c a=some c:=by simp[Store.set]
theorem set_ne (h:b≠a):S.set a c b=S b:=by simp[Store.set,h]
theorem del_same:S.del a a=none:=by simp[Store.del]
theorem del_ne (h:b≠a):S.del a b=S b:=by simp[Store.del,h]
theorem set_set:(S.set a c).set a c'=S.set a c':=by funext b;unfold Store.set;split <;> rfl
theorem set_del:(S.set a c).del a=S.del a:=by
  funext b;unfold Store.set Store.del
  by_cases e:b=a
  · simp[e]
  · simp[e]
theorem del_none (h:S a=none):S.del a=S:=by
  funext b;unfold Store.del;split
  · next e=>rw[e,h]
  · rfl
theorem CellOk.up (r:Stp Z H Z' H') (hH: ∀o,H a=some o→H' a=some o): ∀ {c:Cell K},CellOk Z H a c→CellOk Z' H' a c
  | .pot,⟨x,y,e,q⟩=>⟨x,y,hH _ e,q⟩
  | .lst _,⟨vs,e,l⟩=>⟨vs,hH _ e,l.up r⟩
  | .dic _,⟨vs,e,l⟩=>⟨vs,hH _ e,l.up r⟩
  | .dct _,⟨vs,e,l⟩=>⟨vs,hH _ e,l.up r⟩
  | .tab _,⟨ps,e,t,g⟩=>⟨ps,hH _ e,t,fun pos cv h=>by
    obtain⟨c,e1,n,e2⟩:=g pos cv h
    exact⟨c,e1,nz_stp r n (by rw[e2];exact fun z=>nomatch z),r.keep _ _ n e2⟩⟩
  | .ins _ _,⟨dx,vs,e,l⟩=>⟨dx,vs,hH _ e,l.up r⟩
theorem CellOk.some: ∀ {c:Cell K},CellOk Z H a c→ ∃o,H a=some o∧ ∀x u,o≠ .frz x u
  | .pot,⟨x,y,e,q⟩=>⟨_,e,fun _ _ z=>nomatch z⟩
  | .lst _,⟨vs,e,l⟩=>⟨_,e,fun _ _ z=>nomatch z⟩
  | .dic _,⟨vs,e,l⟩=>⟨_,e,fun _ _ z=>nomatch z⟩
  | .dct _,⟨vs,e,l⟩=>⟨_,e,fun _ _ z=>nomatch z⟩
  | .tab _,⟨ps,e,t,g⟩=>⟨_,e,fun _ _ z=>nomatch z⟩
  | .ins _ _,⟨dx,vs,e,l⟩=>⟨_,e,fun _ _ z=>nomatch z⟩
end
def Raw (H:Hp) (a:Addr):Prop:=(∃xs,H a=some (.lst xs))∨(∃xs,H a=some (.dK xs))∨ ∃xs,H a=some (.dT xs)
structure Wd {K:PySem.W.Frag} (S:Store K) (F:Pl) (H:Hp):Prop where
  one:One H
  cell: ∀a c,S a=some c→CellOk (Zd S F) H a c
  foc: ∀a,F a→Raw H a
  dis: ∀a,F a→S a=none
structure Stq {K:PySem.W.Frag} (S:Store K) (H:Hp) (S':Store K) (H':Hp):Prop where
  keep: ∀b o,S b=none→H b=some o→H' b=some o
  dom: ∀b,S' b≠none→S b≠none∨H b=none
  occ: ∀b,H b≠none→H' b≠none
structure Nxt {K:PySem.W.Frag} (S:Store K) (F:Pl) (H:Hp) (S':Store K) (H':Hp):Prop where
  st:Stq S H S' H'
  wd:Wd S' F H'
section
variable {K : PySem.W.Frag} {S S1 S2 S' S'' : Store K} {F F' : Pl} {Z Z' : Pl} {H H1 H2 H' H'' : Hp} {a b n : Addr} {c c' : Cell K}
theorem Raw.some (h:Raw H a): ∃o,H a=some o∧ ∀x u,o≠ .frz x u:=by
  rcases h with ⟨x,h⟩ | ⟨x,h⟩ | ⟨x,h⟩ <;> exact⟨_,h,fun _ _ z=>nomatch z⟩
theorem Raw.keep (h:Raw H a) (k: ∀o,H a= .some o→H' a= .some o):Raw H' a:=by
  rcases h with ⟨x,h⟩ | ⟨x,h⟩ | ⟨x,h⟩
  · exact .inl ⟨x,k _ h⟩
  · exact .inr (.inl ⟨x,k _ h⟩)
  · exact .inr (.inr ⟨x,k _ h⟩)
theorem Wd.zsome (w:Wd S F H) (z:Zd S F a): ∃o,H a=some o∧ ∀x u,o≠ .frz x u:=by
  rcases z with z | z
  · cases e:S a with
    | none=>exact absurd e z
    | some c=>exact (w.cell a c e).some
  · exact (w.foc a z).some
theorem Wd.free (w:Wd S F H) (h:H n=none): ¬ Zd S F n:=fun z=>by
  obtain⟨o,e,_⟩:=w.zsome z
  rw[h] at e;cases e
theorem Wd.sfree (w:Wd S F H) (h:H n=none):S n=none:=by
  cases e:S n with
  | none=>rfl
  | some c=>exact absurd (.inl (by rw[e];exact fun z=>nomatch z)) (w.free h)
theorem Wd.sys (w:Wd S F H): ¬ Zd S F sysModules:=fun z=>by
  obtain⟨o,e,q⟩:=w.zsome z
  obtain⟨x,u,e2⟩:=w.one
  rw[e2] at e;cases e
  exact q _ _ rfl
theorem Stq.refl:Stq S H S H:=⟨fun _ _ _ e=>e,fun _ h=> .inl h,fun _ h=>h⟩
theorem Stq.trans (a:Stq S H S1 H1) (b:Stq S1 H1 S2 H2):Stq S H S2 H2:=
  ⟨fun c o n e=>b.keep c o (by
      cases q:S1 c with
      | none=>rfl
      | some x=>exact ((a.dom c (by rw[q];exact fun z=>nomatch z)).elim (fun z=>absurd n z) fun z=>by rw[e] at z;cases z)) (a.keep c o n e),
   fun c h=>(b.dom c h).elim (a.dom c) fun z=>by
      cases e:H c with
      | none=>exact .inr rfl
      | some o=>exact absurd z (a.occ c (by rw[e];exact fun w=>nomatch w)),
   fun c h=>b.occ c (a.occ c h)⟩
theorem Stq.stp (r:Stq S H S' H'):Stp (Zd S F) H (Zd S' F) H':=
  ⟨fun b o n e=>r.keep b o (by
      cases q:S b with
      | none=>rfl
      | some c=>exact absurd (.inl (by rw[q];exact fun z=>nomatch z)) n) e,
   fun b z=>z.elim (fun h=>(r.dom b h).imp .inl id) fun h=> .inl (.inr h)⟩
theorem Stq.one (r:Stq S H S' H') (w:Wd S F H):One H':=by
  obtain⟨o,u,e⟩:=w.one
  refine⟨o,u,r.keep _ _ ?_ e⟩
  cases q:S sysModules with
  | none=>rfl
  | some c=>exact absurd (.inl (by rw[q];exact fun z=>nomatch z)) w.sys
theorem Nxt.refl (w:Wd S F H):Nxt S F H S H:=⟨.refl,w⟩
theorem Nxt.trans (a:Nxt S F H S1 H1) (b:Nxt S1 F H1 S2 H2):Nxt S F H S2 H2:=⟨a.st.trans b.st,b.wd⟩
theorem Nxt.stp (r:Nxt S F H S' H'):Stp (Zd S F) H (Zd S' F) H':=r.st.stp
theorem Nxt.up (r:Nxt S F H S' H') {d:Dm K} {v:V} (h:d.at_ (Zd S F) H v):d.at_ (Zd S' F) H' v:=d.up r.stp h
theorem Nxt.upL (r:Nxt S F H S' H') {d:List (Dm K)} {v:List V} (h:AtL (Zd S F) H d v):AtL (Zd S' F) H' d v:=h.up r.stp
theorem Wd.new (w:Wd S F H) (h:H n=none) {o:HO}:Nxt S F H S (upd H n o):=by
  have k: ∀b u,H b=some u→upd H n o b=some u:=fun b u e=>by rw[upd_ne (ne_of_none e h)];exact e
  refine⟨⟨fun b u _ e=>k b u e,fun _ z=> .inl z,fun b z=> ?_⟩,⟨?_,fun a c e=>(w.cell a c e).up (Stp.new h) (k a),fun a z=>(w.foc a z).keep (k a),w.dis⟩⟩
  · cases e:H b with
    | none=>exact absurd e z
    | some u=>rw[k b u e];exact fun w=>nomatch w
  · obtain⟨x,u,e⟩:=w.one
    exact⟨x,u,k _ _ e⟩
theorem Wd.newS (w:Wd S F H) (h:H n=none) {o:HO} {c:Cell K} (ok:CellOk (Zd (S.set n c) F) (upd H n o) n c):Nxt S F H (S.set n c) (upd H n o):=by
  have k: ∀b u,H b=some u→upd H n o b=some u:=fun b u e=>by rw[upd_ne (ne_of_none e h)];exact e
  have st:Stp (Zd S F) H (Zd (S.set n c) F) (upd H n o):=⟨fun b u _ e=>k b u e,fun b z=>z.elim (fun z=>by
    by_cases e:b=n
    · subst e;exact .inr h
    · rw[set_ne e] at z;exact .inl (.inl z)) fun z=> .inl (.inr z)⟩
  refine⟨⟨fun b u _ e=>k b u e,fun b z=> ?_,fun b z=> ?_⟩,⟨?_,fun a c' e=> ?_,fun a z=>(w.foc a z).keep (k a),fun a z=> ?_⟩⟩
  · by_cases e:b=n
    · subst e;exact .inr h
    · rw[set_ne e] at z;exact .inl z
  · cases e:H b with
    | none=>exact absurd e z
    | some u=>rw[k b u e];exact fun w=>nomatch w
  · obtain⟨x,u,e⟩:=w.one
    exact⟨x,u,k _ _ e⟩
  · by_cases q:a=n
    · subst q;rw[set_same] at e;cases e;exact ok
    · rw[set_ne q] at e;exact (w.cell a c' e).up st (k a)
  · have q:a≠n:=fun q=>by
      obtain⟨o,e,_⟩:=(w.foc a z).some
      subst q;rw[h] at e;cases e
    rw[set_ne q];exact w.dis a z
theorem Wd.putS (w:Wd S F H) {c0:Cell K} (h:S a=some c0) {o:HO} {c:Cell K} (ok:CellOk (Zd S F) (upd H a o) a c):Nxt S F H (S.set a c) (upd H a o):=by
  have zz:Zd (S.set a c) F=Zd S F:=by
    funext b
    unfold Zd
    by_cases e:b=a
    · subst e;rw[set_same,h];simp
    · rw[set_ne e]
  have st:Stp (Zd S F) H (Zd S F) (upd H a o):=Stp.put (.inl (by rw[h];exact fun z=>nomatch z))
  have far: ∀b u,b≠a→H b=some u→upd H a o b=some u:=fun b u n e=>by rw[upd_ne n];exact e
  refine⟨⟨fun b u n e=>far b u (fun q=>by subst q;rw[h] at n;cases n) e,fun b z=> ?_,fun b z=> ?_⟩,⟨?_,fun b c' e=> ?_,fun b z=>(w.foc b z).keep fun u e=>far b u (fun q=>by subst q;rw[w.dis _ z] at h;cases h) e,fun b z=> ?_⟩⟩
  · by_cases e:b=a
    · subst e;exact .inl (by rw[h];exact fun w=>nomatch w)
    · rw[set_ne e] at z;exact .inl z
  · by_cases e:b=a
    · subst e;rw[upd_same];exact fun w=>nomatch w
    · rw[upd_ne e];exact z
  · obtain⟨x,u,e⟩:=w.one
    exact⟨x,u,far _ _ (fun q=>w.sys (.inl (by rw[q,h];exact fun w=>nomatch w))) e⟩
  · rw[zz]
    by_cases q:b=a
    · subst q;rw[set_same] at e;cases e;exact ok
    · rw[set_ne q] at e;exact (w.cell b c' e).up st fun u e=>far b u q e
  · have q:b≠a:=fun q=>by rw[q] at z;rw[w.dis _ z] at h;cases h
    rw[set_ne q];exact w.dis b z
theorem Wd.delS (w:Wd S F H):Nxt S F H (S.del a) H:=by
  have sub: ∀b,S.del a b≠none→S b≠none:=fun b z=>by
    by_cases e:b=a
    · subst e;rw[del_same] at z;exact absurd rfl z
    · rw[del_ne e] at z;exact z
  refine⟨⟨fun b u _ e=>e,fun b z=> .inl (sub b z),fun b z=>z⟩,⟨w.one,fun b c' e=> ?_,w.foc,fun b z=> ?_⟩⟩
  · have q:b≠a:=fun q=>by subst q;rw[del_same] at e;cases e
    rw[del_ne q] at e
    exact (w.cell b c' e).up (Stp.less fun x z=>z.imp (sub x) id) fun _ e=>e
  · by_cases e:b=a
    · subst e;exact del_same
    · rw[del_ne e];exact w.dis b z
theorem Wd.del_at (w:Wd S F H) {c:Cell K} (h:S a=some c): ¬ Zd (S.del a) F a:=fun z=>z.elim (fun z=>z del_same) fun z=>by rw[w.dis a z] at h;cases h
theorem Wd.lessF (w:Wd S F H) (h: ∀a,F' a→F a):Wd S F' H:=
  ⟨w.one,fun a c e=>(w.cell a c e).up (Stp.less fun x z=>z.imp id (h x)) fun _ e=>e,fun a z=>w.foc a (h a z),fun a z=>w.dis a (h a z)⟩
theorem Zd.lessF {d:Dm K} {v:V} (h: ∀a,F' a→F a) (q:d.at_ (Zd S F) H v):d.at_ (Zd S F') H v:=d.up (Stp.less fun x z=>z.imp id (h x)) q
theorem Wd.moreF (w:Wd S F H) {o:HO} (h:H n=none) (r:Raw (upd H n o) n):Wd S (fun b=>F b∨b=n) (upd H n o):=by
  have k: ∀b u,H b=some u→upd H n o b=some u:=fun b u e=>by rw[upd_ne (ne_of_none e h)];exact e
  have st:Stp (Zd S F) H (Zd S fun b=>F b∨b=n) (upd H n o):=⟨fun b u _ e=>k b u e,fun b z=>z.elim (fun z=> .inl (.inl z)) fun z=>z.elim (fun z=> .inl (.inr z)) fun z=> .inr (z ▸ h)⟩
  refine⟨?_,fun a c e=>(w.cell a c e).up st (k a),fun a z=>z.elim (fun z=>(w.foc a z).keep (k a)) fun z=>z ▸ r,fun a z=>z.elim (w.dis a) fun z=>z ▸ w.sfree h⟩
  obtain⟨x,u,e⟩:=w.one
  exact⟨x,u,k _ _ e⟩
theorem Stp.moreF (w:Wd S F H) {o:HO} (h:H n=none):Stp (Zd S F) H (Zd S fun b=>F b∨b=n) (upd H n o):=
  ⟨fun b u _ e=>by rw[upd_ne (ne_of_none e h)];exact e,fun b z=>z.elim (fun z=> .inl (.inl z)) fun z=>z.elim (fun z=> .inl (.inr z)) fun z=> .inr (z ▸ h)⟩
theorem Wd.putF (w:Wd S F H) {o:HO} (h:F n) (r:Raw (upd H n o) n):Wd S F (upd H n o):=by
  have far: ∀b u,b≠n→H b=some u→upd H n o b=some u:=fun b u m e=>by rw[upd_ne m];exact e
  have st:Stp (Zd S F) H (Zd S F) (upd H n o):=Stp.put (.inr h)
  refine⟨?_,fun a c e=>(w.cell a c e).up st fun u q=>far a u (fun z=>by subst z;rw[w.dis _ h] at e;cases e) q,fun a z=> ?_,w.dis⟩
  · obtain⟨x,u,e⟩:=w.one
    exact⟨x,u,far _ _ (fun q=>w.sys (.inr (q ▸ h))) e⟩
  · by_cases e:a=n
    · subst e;exact r
    · exact (w.foc a z).keep fun u q=>far a u e q
end

abbrev Err (K:PySem.W.Frag):=Addr×List (Str×Dm K)
def W (K:PySem.W.Frag) (α:Type):=(α→Store K→Prop)→(Err K→Store K→Prop)→Store K→Prop
section
variable {K : PySem.W.Frag} {α β : Type}
def ret (x:α):W K α:=fun Q _ S=>Q x S
def bnd (m:W K α) (k:α→W K β):W K β:=fun Q E S=>m (fun x S'=>k x Q E S') E S
def wRaise (e:Err K):W K α:=fun _ E S=>E e S
def wAss (c:Prop) (m:W K α):W K α:=fun Q E S=>c∧m Q E S
def wIf (b:Bool) (m n:W K α):W K α:=fun Q E S=>if b=true then m Q E S else n Q E S
def wCalm (m:W K α):W K α:=fun Q _ S=>m Q (fun _ _=>False) S
end
inductive Flow (S ρ:Type)
  | nx (s:S)
  | bk (s:S)
  | rt (x:ρ)
def ErrAt {K:PySem.W.Frag} (e:Err K) (Z:Pl) (H:Hp) (c:Value) (d:Option Addr):Prop:=
  c= .ref e.1∧ ∃b kvs,d=some b∧ ¬ Z b∧H b=some (.xd kvs)∧AtK Z H e.2 kvs
theorem ErrAt.up {K:PySem.W.Frag} {e:Err K} {Z Z':Pl} {H H':Hp} {c:Value} {d:Option Addr} (r:Stp Z H Z' H') (h:ErrAt e Z H c d):ErrAt e Z' H' c d:=
  let ⟨h1,b,kvs,h2,h3,h4,h5⟩:=h
  ⟨h1,b,kvs,h2,nz_stp r h3 (by rw[h4];exact fun z=>nomatch z),r.keep _ _ h3 h4,h5.up r⟩

abbrev Gm (K:PySem.W.Frag):=List (Option (Dm K))
structure Sat {K:PySem.W.Frag} (G:Gm K) (Z:Pl) (H:Hp) (σ:L2.St):Prop where
  len:σ.length=G.length
  slot: ∀(i:Nat) (d:Dm K),G[i]?=some (some d)→ ∃v,σ[i]?=some (some v)∧d.at_ Z H v
section
variable {K : PySem.W.Frag} {Z Z' : Pl} {H H' : Hp} {G : Gm K} {σ : L2.St}
theorem Sat.up (h:Sat G Z H σ) (r:Stp Z H Z' H'):Sat G Z' H' σ:=⟨h.len,fun i d e=>let ⟨v,e1,e2⟩:=h.slot i d e;⟨v,e1,d.up r e2⟩⟩
theorem Sat.set {i:Nat} {d:Dm K} {v:V} (h:Sat G Z H σ) (hd:d.at_ Z H v):Sat (G.set i (some d)) Z H (σ.set i (some v)):=by
  refine⟨by simp[h.len],fun j e hj=> ?_⟩
  rw[List.getElem?_set] at hj
  by_cases z:i=j
  · subst z
    rw[if_pos rfl] at hj
    by_cases l:i<G.length
    · rw[if_pos l] at hj
      cases hj
      exact⟨v,by rw[List.getElem?_set,if_pos rfl,if_pos (by rw[h.len];exact l)],hd⟩
    · rw[if_neg l] at hj;cases hj
  · rw[if_neg z] at hj
    obtain⟨u,e1,e2⟩:=h.slot j e hj
    exact⟨u,by rw[List.getElem?_set,if_neg z];exact e1,e2⟩
theorem Sat.wipe1 {i:Nat} (h:Sat G Z H σ):Sat (G.set i none) Z H (σ.set i none):=by
  refine⟨by simp[h.len],fun j e hj=> ?_⟩
  rw[List.getElem?_set] at hj
  by_cases z:i=j
  · subst z
    rw[if_pos rfl] at hj
    split at hj <;> cases hj
  · rw[if_neg z] at hj
    obtain⟨u,e1,e2⟩:=h.slot j e hj
    exact⟨u,by rw[List.getElem?_set,if_neg z];exact e1,e2⟩
def gwipe (G:Gm K):List Nat→Gm K
  | []=>G
  | v::vs=>(gwipe G vs).set v none
theorem Sat.wipe (h:Sat G Z H σ): ∀vs:List Nat,Sat (gwipe G vs) Z H (L2.wipe σ vs)
  | []=>h
  | v::vs=>(Sat.wipe h vs).wipe1
inductive Wk:Gm K→Gm K→Prop
  | nil:Wk [] []
  | no {a b x}:Wk a b→Wk (x::a) (Option.none::b)
  | so {a b d}:Wk a b→Wk (Option.some d::a) (Option.some d::b)
theorem Wk.len {a b:Gm K} (h:Wk a b):a.length=b.length:=by
  induction h with
  | nil=>rfl
  | no _ ih=>simp[ih]
  | so _ ih=>simp[ih]
theorem Wk.get {a b:Gm K} (h:Wk a b): ∀(i:Nat) (d:Dm K),b[i]?=some (some d)→a[i]?=some (some d):=by
  induction h with
  | nil=>intro i d e;simp at e
  | no _ ih=>
    intro i d e
    cases i with
    | zero=>simp at e
    | succ i=>simpa using ih i d (by simpa using e)
  | so _ ih=>
    intro i d e
    cases i with
    | zero=>simpa using e
    | succ i=>simpa using ih i d (by simpa using e)
theorem Sat.wk {G':Gm K} (h:Sat G Z H σ) (k:Wk G G'):Sat G' Z H σ:=⟨by rw[h.len,k.len],fun i d q=>h.slot i d (k.get i d q)⟩
end
end TL

set_option Elab.async false
set_option linter.all false
set_option maxRecDepth 100000
set_option maxHeartbeats 2000000
namespace TL
open PySem PySem.Spec PyProof.Rows L2 PC

section
variable {K : PySem.W.Frag}
def HanE (ε:WX) (S:Store K) (F:Pl) (H:Hp) (σ:L2.St) (Ep:Err K→Store K→Prop):Prop:=
  ∀e S' H' c d,Ep e S'→Nxt S F H S' H'→ErrAt e (Zd S' F) H' c d→ε c d σ H'
def Sim (ε:WX) (G:Gm K) (te:TE) {α:Type} (r:α→Dm K) (m:W K α):Prop:=
  ∀S F σ H (Q:VK) (Qp:α→Store K→Prop) (Ep:Err K→Store K→Prop),Wd S F H→Sat G (Zd S F) H σ→m Qp Ep S→
    (∀x S' H' v,Qp x S'→Nxt S F H S' H'→(r x).at_ (Zd S' F) H' v→Q v H')→HanE ε S F H σ Ep→te σ H Q
def SimB (ε:WX) (G:Gm K) (tt:TT) (m:W K Bool):Prop:=
  ∀S F σ H (Q:Bool→Hp→Prop) (Qp:Bool→Store K→Prop) (Ep:Err K→Store K→Prop),Wd S F H→Sat G (Zd S F) H σ→m Qp Ep S→
    (∀x S' H',Qp x S'→Nxt S F H S' H'→Q x H')→HanE ε S F H σ Ep→tt σ H Q
def SimA (ε:WX) (G:Gm K) (ta:TA) {τ:Type} (δ:τ→List (Dm K)) (m:W K τ):Prop:=
  ∀S F σ H (Q:List V→Hp→Prop) (Qp:τ→Store K→Prop) (Ep:Err K→Store K→Prop),Wd S F H→Sat G (Zd S F) H σ→m Qp Ep S→
    (∀x S' H' vs,Qp x S'→Nxt S F H S' H'→AtL (Zd S' F) H' (δ x) vs→Q vs H')→HanE ε S F H σ Ep→ta σ H Q
variable {ε : WX} {G : Gm K} {α β γ τ : Type} {S S1 : Store K} {F : Pl} {H H1 : Hp} {σ : L2.St}
theorem HanE.to {Ep:Err K→Store K→Prop} (h:HanE ε S F H σ Ep) (r:Nxt S F H S1 H1):HanE ε S1 F H1 σ Ep:=
  fun e S' H' c d he hr=>h e S' H' c d he (r.trans hr)
theorem hanE_no:HanE (K:=K) ε S F H σ (fun _ _=>False):=fun _ _ _ _ _ z=>z.elim
theorem wIf_t {b:Bool} {m n:W K α} {Q:α→Store K→Prop} {E:Err K→Store K→Prop} (h:wIf true m n Q E S):m Q E S:=by unfold wIf at h;rw[if_pos rfl] at h;exact h
theorem wIf_f {b:Bool} {m n:W K α} {Q:α→Store K→Prop} {E:Err K→Store K→Prop} (h:wIf false m n Q E S):n Q E S:=by unfold wIf at h;rw[if_neg (by decide)] at h;exact h
theorem sim_var {i:Nat} {r:α→Dm K} {x:α} (h:G[i]?=some (some (r x))):Sim ε G (tVar i) r (ret x):=by
  intro S F σ H Q Qp Ep w s hm hQ _
  obtain⟨v,e,hv⟩:=s.slot i _ h
  exact⟨v,e,hQ x S H v hm (.refl w) hv⟩
theorem sim_i {i:Int}:Sim ε G (tC (.int i)) kI (ret i):=fun S F σ H Q Qp Ep w s hm hQ _=>hQ _ S H _ hm (.refl w) mk_int
theorem sim_s {i:Str}:Sim ε G (tC (.str i)) kS (ret i):=fun S F σ H Q Qp Ep w s hm hQ _=>hQ _ S H _ hm (.refl w) mk_str
theorem sim_b {i:Bool}:Sim ε G (tC (.bl i)) kB (ret i):=fun S F σ H Q Qp Ep w s hm hQ _=>hQ _ S H _ hm (.refl w) mk_bl
theorem sim_n:Sim ε G (tC .non) kN (ret ()):=fun S F σ H Q Qp Ep w s hm hQ _=>hQ _ S H _ hm (.refl w) mk_non
theorem sim_co {te:TE} {r:α→Dm K} {s:β→Dm K} {f:α→β} {m:W K α} (h:Sim ε G te r m) (c:Co r s f):Sim ε G te s (bnd m fun x=>ret (f x)):=
  fun S F σ H Q Qp Ep w sa hm hQ hE=>h S F σ H Q _ Ep w sa hm (fun x S' H' v hx rr ha=>hQ (f x) S' H' v hx rr (c _ _ _ _ ha)) hE
def OpS (K:PySem.W.Frag) (r:R2) {α β γ:Type} (r1:α→Dm K) (r2:β→Dm K) (r3:γ→Dm K) (f:α→β→W K γ):Prop:=
  ∀S F H x y v w Q (Qp:γ→Store K→Prop) (Ep:Err K→Store K→Prop),Wd S F H→(r1 x).at_ (Zd S F) H v→(r2 y).at_ (Zd S F) H w→f x y Qp Ep S→
    (∀z S' H' u,Qp z S'→Nxt S F H S' H'→(r3 z).at_ (Zd S' F) H' u→Q u H')→r v w H Q
theorem sim_op {r:R2} {ta tb:TE} {r1:α→Dm K} {r2:β→Dm K} {r3:γ→Dm K} {ma:W K α} {mb:W K β} {f:α→β→W K γ}
    (o:OpS K r r1 r2 r3 f) (a:Sim ε G ta r1 ma) (b:Sim ε G tb r2 mb):Sim ε G (tOp r ta tb) r3 (bnd ma fun x=>bnd mb fun y=>f x y):=by
  intro S F σ H Q Qp Ep w s hm hQ hE
  refine a S F σ H _ _ Ep w s hm (fun x S1 H1 v hx h1 hv=> ?_) hE
  refine b S1 F σ H1 _ _ Ep h1.wd (s.up h1.stp) hx (fun y S2 H2 u hy h2 hu=> ?_) (hE.to h1)
  exact o S2 F H2 x y v u Q _ Ep h2.wd (h2.up hv) hu hy (fun z S' H' t hz h3 ht=>hQ z S' H' t hz (h1.trans (h2.trans h3)) ht)
def UnS (K:PySem.W.Frag) (r:V→Hp→VK→Prop) {α γ:Type} (r1:α→Dm K) (r3:γ→Dm K) (f:α→W K γ):Prop:=
  ∀S F H x v Q (Qp:γ→Store K→Prop) (Ep:Err K→Store K→Prop),Wd S F H→(r1 x).at_ (Zd S F) H v→f x Qp Ep S→(∀z S' H' u,Qp z S'→Nxt S F H S' H'→(r3 z).at_ (Zd S' F) H' u→Q u H')→r v H Q
theorem sim_un {r:V→Hp→VK→Prop} {ta:TE} {r1:α→Dm K} {r3:γ→Dm K} {ma:W K α} {f:α→W K γ}
    (o:UnS K r r1 r3 f) (a:Sim ε G ta r1 ma):Sim ε G (tUn r ta) r3 (bnd ma f):=by
  intro S F σ H Q Qp Ep w s hm hQ hE
  refine a S F σ H _ _ Ep w s hm (fun x S1 H1 v hx h1 hv=> ?_) hE
  exact o S1 F H1 x v Q _ Ep h1.wd hv hx (fun z S' H' t hz h3 ht=>hQ z S' H' t hz (h1.trans h3) ht)
theorem simB_test {te:TE} {m:W K Bool} (h:Sim ε G te kB m):SimB ε G (tTest te) m:=by
  intro S F σ H Q Qp Ep w s hm hQ hE
  exact h S F σ H _ _ Ep w s hm (fun x S' H' v hx hr hv=>⟨x,at_bl hv,hQ x S' H' hx hr⟩) hE
theorem simB_B {te:TE} {m:W K Bool} (h:Sim ε G te kB m):SimB ε G (tB te) m:=by
  intro S F σ H Q Qp Ep w s hm hQ hE
  exact h S F σ H _ _ Ep w s hm (fun x S' H' v hx hr hv=>⟨x,at_bl hv,hQ x S' H' hx hr⟩) hE
theorem simB_not {t:TT} {m:W K Bool} (h:SimB ε G t m):SimB ε G (tNot t) (bnd m fun b=>ret (!b)):=
  fun S F σ H Q Qp Ep w s hm hQ hE=>h S F σ H _ _ Ep w s hm (fun x S' H' hx hr=>hQ _ S' H' hx hr) hE
theorem simB_and {t u:TT} {m n:W K Bool} (h:SimB ε G t m) (g:SimB ε G u n):SimB ε G (tAnd t u) (bnd m fun b=>wIf b n (ret false)):=by
  intro S F σ H Q Qp Ep w s hm hQ hE
  refine h S F σ H _ _ Ep w s hm (fun x S1 H1 hx h1=> ?_) hE
  cases x with
  | true=>exact iteT (g S1 F σ H1 _ _ Ep h1.wd (s.up h1.stp) (wIf_t (b:=true) hx) (fun y S' H' hy h2=>hQ y S' H' hy (h1.trans h2)) (hE.to h1))
  | false=>exact iteF (hQ false S1 H1 (wIf_f (b:=true) hx) h1)
theorem simB_or {t u:TT} {m n:W K Bool} (h:SimB ε G t m) (g:SimB ε G u n):SimB ε G (tOr t u) (bnd m fun b=>wIf b (ret true) n):=by
  intro S F σ H Q Qp Ep w s hm hQ hE
  refine h S F σ H _ _ Ep w s hm (fun x S1 H1 hx h1=> ?_) hE
  cases x with
  | false=>exact iteF (g S1 F σ H1 _ _ Ep h1.wd (s.up h1.stp) (wIf_f (b:=true) hx) (fun y S' H' hy h2=>hQ y S' H' hy (h1.trans h2)) (hE.to h1))
  | true=>exact iteT (hQ true S1 H1 (wIf_t (b:=true) hx) h1)
theorem simB_yes:SimB ε G tYes (ret true):=fun S F σ H Q Qp Ep w s hm hQ hE=>hQ true S H hm (.refl w)
theorem sim_andV {t u:TE} {m n:W K Bool} (h:Sim ε G t kB m) (g:Sim ε G u kB n):Sim ε G (tAndV t u) kB (bnd m fun b=>wIf b n (ret false)):=by
  intro S F σ H Q Qp Ep w s hm hQ hE
  refine h S F σ H _ _ Ep w s hm (fun x S1 H1 v hx h1 hv=>⟨x,at_bl hv,?_⟩) hE
  cases x with
  | true=>exact iteT (g S1 F σ H1 _ _ Ep h1.wd (s.up h1.stp) (wIf_t (b:=true) hx) (fun y S' H' v hy h2 hv=>hQ y S' H' v hy (h1.trans h2) hv) (hE.to h1))
  | false=>exact iteF (hQ false S1 H1 _ (wIf_f (b:=true) hx) h1 mk_bl)
theorem sim_notV {t:TE} {m:W K Bool} (h:Sim ε G t kB m):Sim ε G (tNotV t) kB (bnd m fun b=>ret (!b)):=
  fun S F σ H Q Qp Ep w s hm hQ hE=>h S F σ H _ _ Ep w s hm (fun x S' H' v hx hr hv=>⟨x,at_bl hv,hQ _ S' H' _ hx hr mk_bl⟩) hE
theorem sim_if {c:TT} {t u:TE} {r:α→Dm K} {mc:W K Bool} {m n:W K α} (hc:SimB ε G c mc) (h:Sim ε G t r m) (g:Sim ε G u r n):
    Sim ε G (tIf c t u) r (bnd mc fun b=>wIf b m n):=by
  intro S F σ H Q Qp Ep w s hm hQ hE
  refine hc S F σ H _ _ Ep w s hm (fun x S1 H1 hx h1=> ?_) hE
  cases x with
  | true=>exact iteT (h S1 F σ H1 _ _ Ep h1.wd (s.up h1.stp) (wIf_t (b:=true) hx) (fun y S' H' v hy h2 hv=>hQ y S' H' v hy (h1.trans h2) hv) (hE.to h1))
  | false=>exact iteF (g S1 F σ H1 _ _ Ep h1.wd (s.up h1.stp) (wIf_f (b:=true) hx) (fun y S' H' v hy h2 hv=>hQ y S' H' v hy (h1.trans h2) hv) (hE.to h1))
theorem sim_chain {r r':R2} {ta tb tc:TE} {r1:α→Dm K} {r2:β→Dm K} {r3:γ→Dm K} {ma:W K α} {mb:W K β} {mc:W K γ} {f:α→β→W K Bool} {g:β→γ→W K Bool}
    (o:OpS K r r1 r2 kB f) (o':OpS K r' r2 r3 kB g) (a:Sim ε G ta r1 ma) (b:Sim ε G tb r2 mb) (c:Sim ε G tc r3 mc):
    Sim ε G (tChain r r' ta tb tc) kB (bnd ma fun x=>bnd mb fun y=>bnd (f x y) fun k=>wIf k (bnd mc fun z=>g y z) (ret false)):=by
  intro S F σ H Q Qp Ep w s hm hQ hE
  refine a S F σ H _ _ Ep w s hm (fun x S1 H1 v hx h1 hv=> ?_) hE
  refine b S1 F σ H1 _ _ Ep h1.wd (s.up h1.stp) hx (fun y S2 H2 u hy h2 hu=> ?_) (hE.to h1)
  refine o S2 F H2 x y v u _ _ Ep h2.wd (h2.up hv) hu hy (fun k S3 H3 t hk h3 ht=>⟨k,at_bl ht,?_⟩)
  have h13:=h1.trans (h2.trans h3)
  cases k with
  | true=>
    refine iteT (c S3 F σ H3 _ _ Ep h3.wd (s.up h13.stp) (by have q:=hk;unfold wIf at q;rw[if_pos rfl] at q;exact q) (fun z S4 H4 t2 hz h4 ht2=> ?_) (hE.to h13))
    exact o' S4 F H4 y z u t2 Q _ Ep h4.wd ((h3.trans h4).up hu) ht2 hz (fun b S' H' t3 hb h5 ht3=>hQ b S' H' t3 hb (h13.trans (h4.trans h5)) ht3)
  | false=>exact iteF (hQ false S3 H3 _ (wIf_f (b:=true) hk) h13 mk_bl)
theorem simA_nil:SimA ε G tNil (fun _:Unit=> []) (ret ()):=fun S F σ H Q Qp Ep w s hm hQ hE=>hQ () S H [] hm (.refl w) rfl
theorem simA_cons {te:TE} {tr:TA} {r:α→Dm K} {δ:τ→List (Dm K)} {m:W K α} {n:W K τ} (a:Sim ε G te r m) (b:SimA ε G tr δ n):
    SimA ε G (tCons te tr) (fun x:α×τ=>r x.1::δ x.2) (bnd m fun x=>bnd n fun y=>ret (x,y)):=by
  intro S F σ H Q Qp Ep w s hm hQ hE
  refine a S F σ H _ _ Ep w s hm (fun x S1 H1 v hx h1 hv=> ?_) hE
  refine b S1 F σ H1 _ _ Ep h1.wd (s.up h1.stp) hx (fun y S2 H2 vs hy h2 hvs=> ?_) (hE.to h1)
  exact hQ (x,y) S2 H2 _ hy (h1.trans h2) ⟨v,vs,rfl,h2.up hv,hvs⟩
theorem new_lst {ds:List (Dm K)} {vs:List V} {Q:VK} (w:Wd S F H) (h:AtL (Zd S F) H ds vs) (q: ∀H' v,Nxt S F H S H'→(dL ds).at_ (Zd S F) H' v→Q v H'):
    ∀n,H n=none→Q (.ref n) (upd H n (.lst vs)):=fun n hn=>
  q _ _ (w.new hn) ⟨n,vs,rfl,w.free hn,upd_same,h.up (Stp.new hn)⟩
theorem new_tup {ds:List (Dm K)} {vs:List V} {Q:VK} (w:Wd S F H) (h:AtL (Zd S F) H ds vs) (q: ∀H' v,Nxt S F H S H'→(dP ds).at_ (Zd S F) H' v→Q v H'):
    ∀n,H n=none→Q (.ref n) (upd H n (.tup vs)):=fun n hn=>
  q _ _ (w.new hn) ⟨n,vs,rfl,w.free hn,upd_same,h.up (Stp.new hn)⟩
theorem dP_dT {ds:List (Dm K)} {Z:Pl} {v:V} (h:(dP ds).at_ Z H v):(dT ds).at_ Z H v:=
  let ⟨a,xs,e,n,q,l⟩:=h
  ⟨a,xs,e,.inl n,.inl (.inl q),l⟩
theorem sim_lstK {tr:TA} {δ:τ→List (Dm K)} {n:W K τ} {r:α→Dm K} (f:τ→List α) (e: ∀y,δ y=(f y).map r) (hl: ∀y,(f y).length≤50000) (h:SimA ε G tr δ n):Sim ε G (tLst tr) (kL r) (bnd n fun y=>ret (f y)):=by
  intro S F σ H Q Qp Ep w s hm hQ hE
  refine h S F σ H _ _ Ep w s hm (fun x S1 H1 vs hx h1 hvs=>⟨sl_of (by rw[hvs.length,e,List.length_map];exact hl x),?_⟩) hE
  exact new_lst h1.wd hvs fun H' v h2 hv=>hQ _ S1 H' v hx (h1.trans h2) (by rw[e] at hv;exact hv)
theorem sim_tupK {tr:TA} {δ:τ→List (Dm K)} {n:W K τ} {r:α→Dm K} (f:τ→List α) (e: ∀y,δ y=(f y).map r) (hl: ∀y,(f y).length≤50000) (h:SimA ε G tr δ n):Sim ε G (tTup tr) (kT r) (bnd n fun y=>ret (f y)):=by
  intro S F σ H Q Qp Ep w s hm hQ hE
  refine h S F σ H _ _ Ep w s hm (fun x S1 H1 vs hx h1 hvs=>⟨sl_of (by rw[hvs.length,e,List.length_map];exact hl x),?_⟩) hE
  exact new_tup h1.wd hvs fun H' v h2 hv=>hQ _ S1 H' v hx (h1.trans h2) (by rw[e] at hv;exact dP_dT hv)
theorem sim_tup {tr:TA} {δ:τ→List (Dm K)} {n:W K τ} {r:α→Dm K} {f:τ→α} (h:SimA ε G tr δ n) (e: ∀y,r (f y)=dP (δ y)) (hl: ∀y,(δ y).length≤50000):
    Sim ε G (tTup tr) r (bnd n fun y=>ret (f y)):=by
  intro S F σ H Q Qp Ep w s hm hQ hE
  refine h S F σ H _ _ Ep w s hm (fun x S1 H1 vs hx h1 hvs=>⟨sl_of (by rw[hvs.length];exact hl x),?_⟩) hE
  exact new_tup h1.wd hvs fun H' v h2 hv=>hQ _ S1 H' v hx (h1.trans h2) (by rw[e];exact hv)
def wNew (c:Cell K):W K Addr:=fun Q _ S=> ∀a,S a=none→Q a (S.set a c)
def CalS (ε:WX) (r:L2.St→List V→Hp→VK→Prop) {τ α:Type} (δ:τ→List (Dm K)) (r3:α→Dm K) (w:τ→W K α):Prop:=
  ∀S F σ H x vs Q (Qp:α→Store K→Prop) (Ep:Err K→Store K→Prop),Wd S F H→AtL (Zd S F) H (δ x) vs→w x Qp Ep S→(∀y S' H' v,Qp y S'→Nxt S F H S' H'→(r3 y).at_ (Zd S' F) H' v→Q v H')→
    HanE ε S F H σ Ep→r σ vs H Q
def CalKS (ε:WX) (r:L2.St→List V→List V→Hp→VK→Prop) {τ κ α:Type} (δ:τ→List (Dm K)) (δk:κ→List (Dm K)) (r3:α→Dm K) (w:τ→κ→W K α):Prop:=
  ∀S F σ H x y vs zs Q (Qp:α→Store K→Prop) (Ep:Err K→Store K→Prop),Wd S F H→AtL (Zd S F) H (δ x) vs→AtL (Zd S F) H (δk y) zs→w x y Qp Ep S→(∀y S' H' v,Qp y S'→Nxt S F H S' H'→(r3 y).at_ (Zd S' F) H' v→Q v H')→
    HanE ε S F H σ Ep→r σ vs zs H Q
theorem sim_call {r:L2.St→List V→Hp→VK→Prop} {ta:TA} {δ:τ→List (Dm K)} {r3:α→Dm K} {w:τ→W K α} {ma:W K τ}
    (c:CalS ε r δ r3 w) (a:SimA ε G ta δ ma):Sim ε G (tCS r ta) r3 (bnd ma w):=by
  intro S F σ H Q Qp Ep wd s hm hQ hE
  refine a S F σ H _ _ Ep wd s hm (fun x S1 H1 vs hx h1 hvs=> ?_) hE
  exact c S1 F σ H1 x vs Q _ Ep h1.wd hvs hx (fun y S' H' v hy h2 hv=>hQ y S' H' v hy (h1.trans h2) hv) (hE.to h1)
def CalB (K:PySem.W.Frag) (r:List V→Hp→VK→Prop) {τ α:Type} (δ:τ→List (Dm K)) (r3:α→Dm K) (w:τ→W K α):Prop:=
  ∀S F H x vs Q (Qp:α→Store K→Prop) (Ep:Err K→Store K→Prop),Wd S F H→AtL (Zd S F) H (δ x) vs→w x Qp Ep S→(∀y S' H' v,Qp y S'→Nxt S F H S' H'→(r3 y).at_ (Zd S' F) H' v→Q v H')→r vs H Q
theorem sim_callB {r:List V→Hp→VK→Prop} {ta:TA} {δ:τ→List (Dm K)} {r3:α→Dm K} {w:τ→W K α} {ma:W K τ}
    (c:CalB K r δ r3 w) (a:SimA ε G ta δ ma):Sim ε G (tCB r ta) r3 (bnd ma w):=by
  intro S F σ H Q Qp Ep wd s hm hQ hE
  refine a S F σ H _ _ Ep wd s hm (fun x S1 H1 vs hx h1 hvs=> ?_) hE
  exact c S1 F H1 x vs Q _ _ h1.wd hvs hx (fun y S' H' v hy h2 hv=>hQ y S' H' v hy (h1.trans h2) hv)
theorem sim_callK {r:L2.St→List V→List V→Hp→VK→Prop} {ta tk:TA} {κ:Type} {δ:τ→List (Dm K)} {δk:κ→List (Dm K)} {r3:α→Dm K} {w:τ→κ→W K α} {ma:W K τ} {mk:W K κ}
    (c:CalKS ε r δ δk r3 w) (a:SimA ε G ta δ ma) (k:SimA ε G tk δk mk):Sim ε G (tCKS r ta tk) r3 (bnd ma fun x=>bnd mk fun y=>w x y):=by
  intro S F σ H Q Qp Ep wd s hm hQ hE
  refine a S F σ H _ _ Ep wd s hm (fun x S1 H1 vs hx h1 hvs=> ?_) hE
  refine k S1 F σ H1 _ _ Ep h1.wd (s.up h1.stp) hx (fun y S2 H2 zs hy h2 hzs=> ?_) (hE.to h1)
  have h12:=h1.trans h2
  exact c S2 F σ H2 x y vs zs Q _ Ep h2.wd (h2.upL hvs) hzs hy (fun y S' H' v hy h3 hv=>hQ y S' H' v hy (h12.trans h3) hv) (hE.to h12)
def Rcv (K:PySem.W.Frag) {β:Type} (r1:β→Dm K) (C:Addr) (m:Str) (g:β→Store K→Prop):Prop:=
  ∀S F H x v,Wd S F H→(r1 x).at_ (Zd S F) H v→g x S→ ∃a dx fs,v= .ref a∧H a=some (.ins C dx fs)∧fs.lookup m=none
def wRcv {K:PySem.W.Frag} {α:Type} (g:Store K→Prop) (m:W K α):W K α:=fun Q E S=>g S∧m Q E S
theorem rcv_I {fs:β→List (Str×Dm K)} {r1:β→Dm K} {C:Addr} {m:Str} (e: ∀x,r1 x=dI C (fs x)) (l: ∀x,(fs x).lookup m=none):Rcv K r1 C m fun _ _=>True:=by
  intro S F H x v w h _
  rw[e] at h
  obtain⟨a,dx,vs,e1,_,e2,q⟩:=h
  refine⟨a,dx,vs,e1,e2,?_⟩
  rcases q.look (f:=m) with ⟨_,h⟩ | ⟨d,u,h1,_⟩
  · exact h
  · rw[l] at h1;cases h1
theorem sim_ms {m:Str} {C:Addr} {r:L2.St→List V→Hp→VK→Prop} {to:TE} {ta:TA} {r1:β→Dm K} {δ:τ→List (Dm K)} {r3:α→Dm K} {w:β×τ→W K α} {mo:W K β} {ma:W K τ} {g:β→Store K→Prop}
    (c:CalS ε r (fun x:β×τ=>r1 x.1::δ x.2) r3 w) (i:Rcv K r1 C m g) (o:Sim ε G to r1 mo) (a:SimA ε G ta δ ma):
    Sim ε G (tMS m C r to ta) r3 (bnd mo fun x=>wRcv (g x) (bnd ma fun y=>w (x,y))):=by
  intro S F σ H Q Qp Ep wd s hm hQ hE
  refine o S F σ H _ _ Ep wd s hm (fun x S1 H1 v hx h1 hv=> ?_) hE
  obtain⟨hg,hx⟩:=hx
  obtain⟨b,dx,fs,e1,e2,e3⟩:=i _ _ _ _ _ h1.wd hv hg
  refine⟨b,dx,fs,e1,e2,e3,?_⟩
  refine a S1 F σ H1 _ _ Ep h1.wd (s.up h1.stp) hx (fun y S2 H2 vs hy h2 hvs=> ?_) (hE.to h1)
  have h12:=h1.trans h2
  exact c S2 F σ H2 (x,y) (v::vs) Q _ Ep h2.wd ⟨v,vs,rfl,h2.up hv,hvs⟩ hy (fun y S' H' v hy h3 hv=>hQ y S' H' v hy (h12.trans h3) hv) (hE.to h12)
def lift (K:PySem.W.Frag) {τ α:Type} (δ:τ→List (Dm K)) (r:α→Dm K) (w:τ→W K α):Sp:=fun vs H Q E=> ∃S F x Qp Ep,Wd S F H∧AtL (Zd S F) H (δ x) vs∧
  w x Qp Ep S∧(∀y S' H' v,Qp y S'→Nxt S F H S' H'→(r y).at_ (Zd S' F) H' v→Q v H')∧(∀e S' H' c d,Ep e S'→Nxt S F H S' H'→ErrAt e (Zd S' F) H' c d→E c d H')
theorem cal_lift {δ:τ→List (Dm K)} {r3:α→Dm K} {w:τ→W K α}:
    CalS ε (fun σ vs H Q=>lift K δ r3 w (vs++ []) H Q (fun c d H=>ε c d σ H)) δ r3 w:=
  fun S F σ H x vs Q Qp Ep wd h hw hQ hE=>⟨S,F,x,Qp,Ep,wd,by rw[List.append_nil];exact h,hw,hQ,hE⟩
theorem cal_liftK {κ τ':Type} {δ:τ→List (Dm K)} {δk:κ→List (Dm K)} {δ':τ'→List (Dm K)} {r3:α→Dm K} {w:τ'→W K α} {gV:List V→List V→List V} (g:τ→κ→τ')
    (e: ∀Z H x y vs zs,AtL Z H (δ x) vs→AtL Z H (δk y) zs→AtL Z H (δ' (g x y)) (gV vs zs)):
    CalKS ε (fun σ vs zs H Q=>lift K δ' r3 w (gV vs zs) H Q (fun c d H=>ε c d σ H)) δ δk r3 (fun x y=>w (g x y)):=
  fun S F σ H x y vs zs Q Qp Ep wd h hk hw hQ hE=>⟨S,F,g x y,Qp,Ep,wd,e _ _ _ _ _ _ h hk,hw,hQ,hE⟩
def wMk {K:PySem.W.Frag} {τ:Type} (C:Addr) (w:Addr×τ→W K Unit) (x:τ):W K Addr:=fun Q E S=> ∀a,S a=none→w (a,x) (fun _ S'=>Q a S') (fun e S'=>E e (S'.del a)) (S.set a (.ins C []))
theorem made_at {C:Addr} {a dx:Addr} (w:Wd S F H) (ha:H a=none) (hd:H dx=none) (n:dx≠a):
    Nxt S F H (S.set a (.ins C [])) (upd (upd H dx (.own a)) a (.ins C dx [])):=by
  have h1:Nxt S F H S (upd H dx (.own a)):=w.new hd
  have ha':upd H dx (.own a) a=none:=by rw[upd_ne n.symm];exact ha
  exact h1.trans (h1.wd.newS ha' ⟨dx,[],upd_same,rfl⟩)
theorem cal_mkK {κ τ':Type} {C:Addr} {δ:τ→List (Dm K)} {δk:κ→List (Dm K)} {δ':τ'→List (Dm K)} {w:Addr×τ'→W K Unit} {gV:List V→List V→List V} (g:τ→κ→τ')
    (e: ∀Z H x y vs zs (v:V),AtL Z H (δ x) vs→AtL Z H (δk y) zs→ ∃us,gV (v::vs) zs=v::us∧AtL Z H (δ' (g x y)) us):
    CalKS ε (mkSpK C (lift K (fun x:Addr×τ'=>kRef x.1::δ' x.2) kN w) gV ε) δ δk kRef (fun x y=>wMk C w (g x y)):=by
  intro S F σ H x y vs zs Q Qp Ep wd h hk hw hQ hE a dx ha hd' n
  have nx:=made_at (C:=C) wd ha hd' n
  refine⟨S.set a (.ins C []),F,(a,g x y),_,_,nx.wd,?_,hw a (wd.sfree ha),fun y S' H' v hq h2 hv=>⟨at_non hv,?_⟩,fun e S' H' c d he h2 hk=> ?_⟩
  · obtain⟨us,e1,e2⟩:=e _ _ x y vs zs (.ref a) (nx.upL h) (nx.upL hk)
    rw[e1]
    exact⟨.ref a,us,rfl,rfl,e2⟩
  · exact hQ a S' H' _ hq (nx.trans h2) rfl
  · have h3:=nx.trans (h2.trans (h2.wd.delS (a:=a)))
    exact hE e _ H' c d he h3 (hk.up (Stp.less fun b z=>z.imp (fun z=>by
      by_cases e:b=a
      · subst e;rw[del_same] at z;exact absurd rfl z
      · rw[del_ne e] at z;exact z) id))
def wFrz {α:Type} (C:Addr) (fs:α→List (Str×Dm K)) (a:Addr):W K α:=fun Q _ S=> ∃x,S a=some (.ins C (fs x))∧Q x (S.del a)
theorem sim_frz {te:TE} {m:W K Addr} {C:Addr} {fs:α→List (Str×Dm K)} {r:α→Dm K} (e: ∀x,r x=dI C (fs x)) (h:Sim ε G te kRef m):Sim ε G te r (bnd m (wFrz C fs)):=by
  intro S F σ H Q Qp Ep w s hm hQ hE
  refine h S F σ H _ _ Ep w s hm (fun a S1 H1 v hx h1 hv=> ?_) hE
  obtain⟨x,ea,hq⟩:=hx
  cases (show v= .ref a from hv)
  obtain⟨dx,vs,e1,l⟩:=h1.wd.cell a _ ea
  have nx:Nxt S1 F H1 (S1.del a) H1:=h1.wd.delS (a:=a)
  refine hQ x _ H1 _ hq (h1.trans nx) ?_
  rw[e]
  exact⟨a,dx,vs,rfl,h1.wd.del_at ea,e1,l.up nx.stp⟩
def wFrzL {α:Type} (r:α→Dm K) (a:Addr):W K (List α):=fun Q _ S=> ∃xs,S a=some (.lst (xs.map r))∧Q xs (S.del a)
theorem sim_frzL {te:TE} {m:W K Addr} {r:α→Dm K} (h:Sim ε G te kRef m):Sim ε G te (kL r) (bnd m (wFrzL r)):=by
  intro S F σ H Q Qp Ep w s hm hQ hE
  refine h S F σ H _ _ Ep w s hm (fun a S1 H1 v hx h1 hv=> ?_) hE
  obtain⟨x,ea,hq⟩:=hx
  cases (show v= .ref a from hv)
  obtain⟨vs,e1,l⟩:=h1.wd.cell a _ ea
  have nx:Nxt S1 F H1 (S1.del a) H1:=h1.wd.delS (a:=a)
  exact hQ x _ H1 _ hq (h1.trans nx) ⟨a,vs,rfl,h1.wd.del_at ea,e1,l.up nx.stp⟩
theorem sim_fld {ta:TE} {C:Addr} {f:Str} {r:α→Dm K} {s:β→Dm K} {fs:α→List (Str×Dm K)} (g:α→β) {m:W K α} (e: ∀x,r x=dI C (fs x)) (l: ∀x,(fs x).lookup f=some (s (g x))) (c:Cls K C) (n:NoAttr K C f) (h:Sim ε G ta r m):
    Sim ε G (tFld K ta f) s (bnd m fun x=>ret (g x)):=by
  intro S F σ H Q Qp Ep w sa hm hQ hE
  refine h S F σ H _ _ Ep w sa hm (fun x S1 H1 v hx h1 hv=> ?_) hE
  rw[e] at hv
  obtain⟨a,dx,vs,e1,_,e2,q⟩:=hv
  rcases q.look (f:=f) with ⟨z,_⟩ | ⟨d,u,z1,z2,z3⟩
  · rw[l] at z;cases z
  · rw[l] at z1;cases z1
    exact⟨a,C,dx,vs,u,e1,e2,c,n,z2,hQ _ S1 H1 u hx h1 z3⟩
end
end TL

set_option Elab.async false
set_option linter.all false
set_option maxRecDepth 100000
set_option maxHeartbeats 2000000
namespace TL
open PySem PySem.Spec PyProof.Rows L2 PC

section
variable {K : PySem.W.Frag} {ε : WX} {G : Gm K} {α β γ τ S' ρ : Type} {S S1 : Store K} {F : Pl} {H H1 : Hp}
def nI {K:PySem.W.Frag}:Store K→Prop:=fun _=>True
def Fx (F:Pl) (H1:Hp) (F':Pl):Prop:=F'=F∨ ∃D,H1 D=none∧F'=fun b=>F b∨b=D
structure Iter (S1:Store K) (F:Pl) (J:It) {α:Type} (xs:List α) (r:α→Dm K) (I:Store K→Prop) (H1:Hp):Prop where
  ex: ∃(G:Hp→Prop) (Y:Nat→Hp→V→Hp→Prop),Walk J xs.length G Y∧ ∀F' S2 H2,Fx F H1 F'→Stp (Zd S1 F) H1 (Zd S2 F') H2→Wd S2 F' H2→I S2→G H2∧
    ∀i v H3 x,Y i H2 v H3→xs[i]?=some x→Nxt S2 F' H2 S2 H3∧(r x).at_ (Zd S2 F') H3 v
def SimI (ε:WX) (G:Gm K) (wi:TI) {α:Type} (r:α→Dm K) (m:W K (List α×(Store K→Prop))):Prop:=
  ∀S F σ H (RI:It→Hp→Prop) (Qp:List α×(Store K→Prop)→Store K→Prop) (Ep:Err K→Store K→Prop),Wd S F H→Sat G (Zd S F) H σ→m Qp Ep S→
    (∀xs I J S' H',Qp (xs,I) S'→Nxt S F H S' H'→Iter S' F J xs r I H'→RI J H')→HanE ε S F H σ Ep→wi σ H RI
theorem atL_at {r:α→Dm K} {xs:List α} {vs:List V} {i:Nat} {v:V} {x:α} {Z:Pl} (l:AtL Z H (xs.map r) vs) (e:vs[i]?=some v) (ex:xs[i]?=some x):(r x).at_ Z H v:=by
  obtain⟨d,e1,e2⟩:=l.getV e
  rw[List.getElem?_map,ex] at e1
  cases e1
  exact e2
theorem iter_yat {J:It} {xs:List α} {r:α→Dm K} {vs:List V} {I:Store K→Prop} {Gi:Hp→Prop} (w:Walk J xs.length Gi (YAt vs)) (l:AtL (Zd S1 F) H1 (xs.map r) vs)
    (hG: ∀F' S2 H2,Fx F H1 F'→Stp (Zd S1 F) H1 (Zd S2 F') H2→Wd S2 F' H2→I S2→Gi H2):Iter S1 F J xs r I H1:=by
  refine⟨Gi,_,w,fun F' S2 H2 hf st w2 i2=>⟨hG F' S2 H2 hf st w2 i2,?_⟩⟩
  rintro i v H3 x ⟨rfl,e⟩ ex
  exact⟨.refl w2,atL_at (l.up st) e ex⟩
theorem iter_list {a:Addr} {xs:List α} {r:α→Dm K} {vs:List V} (n: ¬ Zd S1 F a) (h:Rd H1 a (.lst vs)) (l:AtL (Zd S1 F) H1 (xs.map r) vs):Iter S1 F (Itl K a) xs r nI H1:=by
  have hl:vs.length=xs.length:=by rw[l.length,List.length_map]
  exact iter_yat (hl ▸ walk_list (K:=K) (a:=a) (xs:=vs)) l fun F' S2 H2 _ st _ _=> .inl (rd_stp st n h)
theorem iter_tup {a:Addr} {xs:List α} {r:α→Dm K} {vs:List V} (n: ¬ Zd S1 F a∨SqT K (fun _=>none) a vs) (h:SqT K H1 a vs) (l:AtL (Zd S1 F) H1 (xs.map r) vs):Iter S1 F (Itt K a) xs r nI H1:=by
  have hl:vs.length=xs.length:=by rw[l.length,List.length_map]
  exact iter_yat (hl ▸ walk_tup (K:=K) (a:=a) (xs:=vs)) l fun F' S2 H2 _ st _ _=>sqT_stp st n h
theorem simI_tup {te:TE} {r:α→Dm K} {m:W K (List α)} (h:Sim ε G te (kT r) m):SimI ε G (iTup K te) r (bnd m fun xs=>ret (xs,nI)):=by
  intro S F σ H RI Qp Ep w s hm hQ hE
  refine h S F σ H _ _ Ep w s hm (fun xs S' H' v hx hr hv=> ?_) hE
  obtain⟨a,vs,rfl,n,hs,l⟩:=hv
  exact⟨a,rfl,⟨vs,hs⟩,hQ xs _ _ S' H' hx hr (iter_tup n hs l)⟩
def wPk {β:Type} (r:α→Dm K) (a:Addr) (k:List α→W K β):W K β:=fun Q E S=> ∃xs,S a=some (.lst (xs.map r))∧k xs Q E S
def rng (a b:Int):List Int:=(List.range (b - a).toNat).map fun i:Nat=>a+(i:Int)
theorem rng_len (a b:Int):(rng a b).length=(b - a).toNat:=by simp[rng]
theorem iter_rng {a b:Int} {n:Nat} (hn:n=(b - a).toNat):Iter S1 F (Itr a n) (rng a b) (kI (K:=K)) nI H1:=by
  subst hn
  refine⟨fun _=>True,YFn fun i=> .int (a+i),by rw[rng_len];exact walk_range,fun F' S2 H2 hf st w2 i2=>⟨trivial,?_⟩⟩
  rintro i v H3 x ⟨rfl,e⟩ ex
  refine⟨.refl w2,?_⟩
  subst e
  have hi:=(List.getElem?_eq_some_iff.mp ex).1
  rw[rng_len] at hi
  unfold rng at ex
  rw[List.getElem?_map,List.getElem?_range hi] at ex
  obtain rfl:=Option.some.inj ex
  exact mk_int
theorem simI_r1 {ta:TA} {m:W K (Int×Unit)} (h:SimA ε G ta (fun x:Int×Unit=> [kI x.1]) m):
    SimI ε G (iRng1 ta) kI (bnd m fun x=>wAss (-(2 ^ 62)≤x.1∧x.1<2 ^ 62) (ret (rng 0 x.1,nI))):=by
  intro S F σ H RI Qp Ep w s hm hQ hE
  refine h S F σ H _ _ Ep w s hm (fun x S' H' vs hx hr hv=> ?_) hE
  obtain⟨v,t,rfl,q,rfl⟩:=hv
  obtain rfl:=at_int q
  exact⟨x.1,rfl,hx.1.1,hx.1.2,hQ _ _ _ S' H' hx.2 hr (iter_rng (by simp))⟩
theorem simI_r2 {ta:TA} {m:W K (Int×Int×Unit)} (h:SimA ε G ta (fun x:Int×Int×Unit=> [kI x.1,kI x.2.1]) m):
    SimI ε G (iRng2 ta) kI (bnd m fun x=>wAss (-(2 ^ 62)≤x.1∧x.1<2 ^ 62∧ -(2 ^ 62)≤x.2.1∧x.2.1<2 ^ 62) (ret (rng x.1 x.2.1,nI))):=by
  intro S F σ H RI Qp Ep w s hm hQ hE
  refine h S F σ H _ _ Ep w s hm (fun x S' H' vs hx hr hv=> ?_) hE
  obtain⟨v,t,rfl,q,v2,t2,rfl,q2,rfl⟩:=hv
  obtain rfl:=at_int q
  obtain rfl:=at_int q2
  exact⟨x.1,x.2.1,rfl,hx.1,hQ _ _ _ S' H' hx.2 hr (iter_rng rfl)⟩
theorem iter_pair {J:It} {r:α→Dm K} {s:β→Dm K} {f g:Nat→Option V} {Gi:Hp→Prop} (zs:List (α×β)) (w:Walk J zs.length Gi (YPair f g))
    (h: ∀(F':Pl) (S2:Store K) (H2:Hp),Fx F H1 F'→Stp (Zd S1 F) H1 (Zd S2 F') H2→Wd S2 F' H2→Gi H2∧(∀i v z,f i=some v→zs[i]?=some z→(r z.1).at_ (Zd S2 F') H2 v)∧ ∀i v z,g i=some v→zs[i]?=some z→(s z.2).at_ (Zd S2 F') H2 v):
    Iter S1 F J zs (kP r s) nI H1:=by
  refine⟨Gi,_,w,fun F' S2 H2 hf st w2 _=> ?_⟩
  obtain⟨hG,hx,hy⟩:=h F' S2 H2 hf st w2
  refine⟨hG,?_⟩
  rintro i v H3 z ⟨T,x,y,rfl,hT,rfl,h1,h2⟩ ez
  have nx:Nxt S2 F' H2 S2 (upd H2 T (.tup [x,y])):=w2.new hT
  exact⟨nx,T,[x,y],rfl,w2.free hT,upd_same,x,[y],rfl,nx.up (hx i x z h1 ez),y,[],rfl,nx.up (hy i y z h2 ez),rfl⟩
theorem zip_get {xs:List α} {ys:List β} {i:Nat} {z:α×β} (h:(xs.zip ys)[i]?=some z):xs[i]?=some z.1∧ys[i]?=some z.2:=by
  rw[List.getElem?_zip_eq_some] at h
  exact h
theorem simI_zip {ta:TA} {r:α→Dm K} {s:β→Dm K} {m:W K (List α×List β×Unit)} (h:SimA ε G ta (fun x:List α×List β×Unit=> [kL r x.1,kL s x.2.1]) m):
    SimI ε G (RZ.iZipA K ta) (kP r s) (bnd m fun x=>ret (x.1.zip x.2.1,nI)):=by
  intro S F σ H RI Qp Ep w st hm hQ hE
  refine h S F σ H _ _ Ep w st hm (fun x S' H' vs hx hr hv=> ?_) hE
  obtain⟨_,_,rfl,⟨a,xs,rfl,na,ha,la⟩,_,_,rfl,⟨b,ys,rfl,nb,hb,lb⟩,rfl⟩:=hv
  refine⟨a,b,xs,ys,rfl,.inl ⟨.inl (.inl ha),.inl (.inl hb),hQ _ _ _ S' H' hx hr ?_⟩⟩
  refine iter_pair _ (walk_zip (xs:=xs) (ys:=ys) ?_) (fun F' S2 H2 hf st w2=>⟨⟨.inl (rd_stp st na (.inl ha)),.inl (rd_stp st nb (.inl hb))⟩,fun i v z e ez=> ?_,fun i v z e ez=> ?_⟩)
  · rw[List.length_zip,la.length,lb.length,List.length_map,List.length_map]
  · exact atL_at (la.up st) e (zip_get ez).1
  · exact atL_at (lb.up st) e (zip_get ez).2
def enumI {α:Type} (xs:List α):List (Int×α):=xs.zipIdx.map fun y=>((y.2:Nat),y.1)
theorem enumI_len (xs:List α):(enumI xs).length=xs.length:=by simp[enumI]
theorem enumI_get {xs:List α} {i:Nat} {z:Int×α} (h:(enumI xs)[i]?=some z):z.1=(i:Nat)∧xs[i]?=some z.2:=by
  unfold enumI at h
  rw[List.getElem?_map,List.getElem?_zipIdx] at h
  cases e:xs[i]? with
  | none=>rw[e] at h;simp at h
  | some x=>rw[e] at h;simp at h;rw[← h];simp
theorem simI_enumL {ta:TA} {r:α→Dm K} {m:W K (List α×Unit)} (h:SimA ε G ta (fun x:List α×Unit=> [kL r x.1]) m):
    SimI ε G (iEnumA K ta) (kP kI r) (bnd m fun x=>ret (enumI x.1,nI)):=by
  intro S F σ H RI Qp Ep w st hm hQ hE
  refine h S F σ H _ _ Ep w st hm (fun x S' H' vs hx hr hv=> ?_) hE
  obtain⟨_,_,rfl,⟨a,xs,rfl,na,ha,la⟩,rfl⟩:=hv
  refine⟨a,xs,rfl,.inl ⟨.inl (.inl ha),hQ _ _ _ S' H' hx hr ?_⟩⟩
  have hl:xs.length=(enumI x.1).length:=by rw[la.length,List.length_map,enumI_len]
  refine iter_pair _ (hl ▸ walk_enum (K:=K) (a:=a) (xs:=xs)) (fun F' S2 H2 hf st w2=>⟨.inl (rd_stp st na (.inl ha)),fun i v z e ez=> ?_,fun i v z e ez=> ?_⟩)
  · cases e
    rw[(enumI_get ez).1]
    exact mk_int
  · exact atL_at (la.up st) e (enumI_get ez).2
def setAll:L2.St→List Nat→List V→L2.St
  | σ,i::is,v::vs=>setAll (σ.set i (some v)) is vs
  | σ,_,_=>σ
def gsets:Gm K→List (Nat×Dm K)→Gm K
  | G,[]=>G
  | G,x::r=>gsets (G.set x.1 (some x.2)) r
theorem Sat.sets {Z:Pl}: ∀ {l:List (Nat×Dm K)} {G:Gm K} {σ:L2.St} {vs:List V},Sat G Z H σ→AtL Z H (l.map (·.2)) vs→Sat (gsets G l) Z H (setAll σ (l.map (·.1)) vs)
  | [],G,σ,vs,h,a=>by cases a;exact h
  | x::r,G,σ,_,h,⟨v,t,e,a,b⟩=>by
    subst e
    exact Sat.sets (l:=r) (h.set a) b
def SimG (g:TG) {α:Type} (r:α→Dm K) (sets:α→List (Nat×Dm K)):Prop:= ∀Z H v x σ (N:L2.St→Hp→Prop),(r x).at_ Z H v→
  (∀vs,AtL Z H ((sets x).map (·.2)) vs→N (setAll σ ((sets x).map (·.1)) vs) H)→g v σ H N
def SimGs (t:TGs) {α:Type} (δ:α→List (Dm K)) (sets:α→List (Nat×Dm K)):Prop:= ∀Z H vs x σ (N:L2.St→Hp→Prop),AtL Z H (δ x) vs→
  (∀vs,AtL Z H ((sets x).map (·.2)) vs→N (setAll σ ((sets x).map (·.1)) vs) H)→t vs σ H N
theorem simG_name {i:Nat} {r:α→Dm K}:SimG (gName i) r fun x=> [(i,r x)]:=fun Z H v x σ N h q=>q [v] (AtL.one h)
theorem simGs_nil:SimGs (K:=K) gNil (fun _:Unit=> []) fun _=> []:=fun Z H vs x σ N h q=>⟨h,q [] rfl⟩
theorem setAll_app: ∀(is:List Nat) (vs:List V) (js:List Nat) (ws:List V) (σ:L2.St),is.length=vs.length→setAll σ (is++js) (vs++ws)=setAll (setAll σ is vs) js ws
  | [],[],_,_,_,_=>rfl
  | i::is,v::vs,js,ws,σ,h=>setAll_app is vs js ws _ (by simpa using h)
  | [],_::_,_,_,_,h=>by simp at h
  | _::_,[],_,_,_,h=>by simp at h
theorem simGs_cons {g:TG} {t:TGs} {r:α→Dm K} {δ:τ→List (Dm K)} {s:α→List (Nat×Dm K)} {ss:τ→List (Nat×Dm K)} (a:SimG g r s) (b:SimGs t δ ss):
    SimGs (gCons g t) (fun x:α×τ=>r x.1::δ x.2) fun x=>s x.1++ss x.2:=by
  rintro Z H _ x σ N ⟨v,vs,rfl,h1,h2⟩ q
  refine⟨v,vs,rfl,a Z H v x.1 σ _ h1 fun us hu=>b Z H vs x.2 _ N h2 fun ws hw=> ?_⟩
  have:=q (us++ws) (by rw[List.map_append];exact hu.append hw)
  rw[List.map_append,setAll_app _ _ _ _ _ (by rw[hu.length,List.length_map,List.length_map])] at this
  exact this
theorem simG_tup {n:Nat} {t:TGs} {r:α→Dm K} {δ:τ→List (Dm K)} {ss:τ→List (Nat×Dm K)} (f:α→τ) (b:SimGs t δ ss) (e: ∀x,r x=dP (δ (f x))) (hn: ∀x,(δ (f x)).length=n):
    SimG (gTup K n t) r fun x=>ss (f x):=by
  intro Z H v x σ N h q
  rw[e] at h
  obtain⟨a,xs,rfl,_,hs,l⟩:=h
  exact⟨a,xs,rfl,.inl (.inl hs),by rw[l.length,hn],b Z H xs (f x) σ N l q⟩
theorem simG_pair {g1 g2:TG} {r:α→Dm K} {s:β→Dm K} {s1:α→List (Nat×Dm K)} {s2:β→List (Nat×Dm K)} (a:SimG g1 r s1) (b:SimG g2 s s2):
    SimG (gTup K 2 (gCons g1 (gCons g2 gNil))) (kP r s) (fun x=>s1 x.1++(s2 x.2++ [])):=simG_tup (fun x:α×β=>(x.1,x.2,())) (simGs_cons a (simGs_cons b simGs_nil)) (fun _=>rfl) (fun _=>rfl)
def fmapW {K:PySem.W.Frag} {α β:Type} (I:Store K→Prop) (c:α→W K Bool) (f:α→W K β):List α→W K (List β)
  | []=>fun Q E S=>I S∧Q [] S
  | x::xs=>fun Q E S=>I S∧bnd (c x) (fun b=>wIf b (bnd (f x) fun y=>bnd (fmapW I c f xs) fun ys=>ret (y::ys)) (fmapW I c f xs)) Q E S
theorem getElem?_set_none {σ:L2.St} {i:Nat} {j:Nat}:(σ.set i none)[j]?=if i=j∧i<σ.length then some none else σ[j]?:=by
  rw[List.getElem?_set]
  by_cases h:i=j
  · subst h
    by_cases l:i<σ.length
    · simp[l]
    · simp[l]
  · simp[h]
theorem wipe_get (σ:L2.St) (j:Nat): ∀vs:List Nat,(L2.wipe σ vs)[j]?=if j∈vs∧j<σ.length then some none else σ[j]?
  | []=>by simp[L2.wipe]
  | v::vs=>by
    show ((L2.wipe σ vs).set v none)[j]?=_
    rw[getElem?_set_none,wipe_get σ j vs,wipe_length]
    by_cases a:v=j
    · subst a
      by_cases l:v<σ.length
      · simp[l]
      · simp[l]
    · by_cases l:j<σ.length
      · have a': ¬ j=v:=fun z=>a z.symm
        simp[a,a']
      · simp[l,a]
theorem setAll_len: ∀(is:List Nat) (ws:List V) (σ:L2.St),(setAll σ is ws).length=σ.length
  | [],_,_=>rfl
  | _::_,[],_=>rfl
  | i::is,v::ws,σ=>by
    show (setAll (σ.set i (some v)) is ws).length=_
    rw[setAll_len,List.length_set]
theorem setAll_out {j:Nat}: ∀(is:List Nat) (ws:List V) (σ:L2.St),j ∉ is→(setAll σ is ws)[j]?=σ[j]?
  | [],_,_,_=>rfl
  | _::_,[],_,_=>rfl
  | i::is,v::ws,σ,h=>by
    show (setAll (σ.set i (some v)) is ws)[j]?=_
    have a:i≠j:=fun z=>h (z ▸ List.mem_cons_self)
    rw[setAll_out is ws _ fun z=>h (List.mem_cons_of_mem _ z),List.getElem?_set,if_neg a]
theorem wipe_setAll {σ:L2.St} {vs is:List Nat} {ws:List V} (h: ∀i∈is,i∈vs):L2.wipe (setAll (L2.wipe σ vs) is ws) vs=L2.wipe σ vs:=by
  apply List.ext_getElem?
  intro j
  rw[wipe_get,wipe_get,setAll_len,wipe_length]
  by_cases m:j∈vs
  · by_cases l:j<σ.length
    · simp[m,l]
    · simp only[m,l,and_false,if_false]
      rw[List.getElem?_eq_none (by rw[setAll_len,wipe_length];omega),List.getElem?_eq_none (by omega)]
  · simp only[m,false_and,if_false]
    rw[setAll_out _ _ _ fun z=>m (h j z),wipe_get]
    simp[m]
def SimN (ε:WX) (G:Gm K) (te:TE) {α:Type} (r:α→Dm K) (m:W K (List α)):Prop:=
  ∀S F σ H (Q:VK) (Qp:List α→Store K→Prop) (Ep:Err K→Store K→Prop),Wd S F H→Sat G (Zd S F) H σ→m Qp Ep S→
    (∀xs S' H' a vs,Qp xs S'→Nxt S F H S' H'→H a=none→Wd S' (fun b=>F b∨b=a) H'→ ¬ F a→H' a=some (.lst vs)→AtL (Zd S' fun b=>F b∨b=a) H' (xs.map r) vs→Q (.ref a) H')→HanE ε S F H σ Ep→te σ H Q
theorem sim_new {te:TE} {r:α→Dm K} {m:W K (List α)} (h:SimN ε G te r m):Sim ε G te (kL r) m:=by
  intro S F σ H Q Qp Ep w s hm hQ hE
  refine h S F σ H Q Qp Ep w s hm (fun xs S' H' a vs hx hr ha hs hf e l=> ?_) hE
  exact hQ xs S' H' _ hx hr ⟨a,vs,rfl,fun z=>z.elim (fun z=>z (hs.dis a (.inr rfl))) hf,e,l.up (Stp.less fun b z=>z.imp id .inl)⟩
def wThaw {α:Type} (r:α→Dm K) (xs:List α):W K Addr:=wNew (.lst (xs.map r))
theorem sim_thaw {te:TE} {r:α→Dm K} {m:W K (List α)} (h:SimN ε G te r m):Sim ε G te kRef (bnd m (wThaw r)):=by
  intro S F σ H Q Qp Ep w s hm hQ hE
  refine h S F σ H Q _ Ep w s hm (fun xs S' H' a vs hx hr ha hs hf e l=> ?_) hE
  have hs':S' a=none:=hs.dis a (.inr rfl)
  have zz:Zd (S'.set a (.lst (xs.map r))) F=Zd S' fun b=>F b∨b=a:=by
    funext b
    unfold Zd
    by_cases q:b=a
    · subst q;rw[set_same];simp
    · rw[set_ne q];simp[q]
  have wd:Wd (S'.set a (.lst (xs.map r))) F H':=by
    refine⟨hs.one,fun b c eb=> ?_,fun b z=>hs.foc b (.inl z),fun b z=> ?_⟩
    · rw[zz]
      by_cases q:b=a
      · subst q
        rw[set_same] at eb
        cases eb
        exact⟨vs,e,l⟩
      · rw[set_ne q] at eb
        exact hs.cell b c eb
    · have q:b≠a:=fun q=>hf (q ▸ z)
      rw[set_ne q];exact hs.dis b (.inl z)
  refine hQ a _ H' _ (hx a hs') ⟨⟨hr.st.keep,fun b z=> ?_,hr.st.occ⟩,wd⟩ rfl
  by_cases q:b=a
  · exact .inr (q ▸ ha)
  · rw[set_ne q] at z;exact hr.st.dom b z
theorem simN_lc {wi:TI} {g:TG} {tt:TT} {te:TE} {vs:List Nat} {r:α→Dm K} {r2:β→Dm K} {sets:α→List (Nat×Dm K)} {m:W K (List α×(Store K→Prop))} {mc:α→W K Bool} {me:α→W K β}
    (i:SimI ε G wi r m) (t:SimG g r sets) (hs: ∀x,∀y∈(sets x).map (·.1),y∈vs)
    (c: ∀x,SimB (fun _ _ _ _=>False) (gsets (gwipe G vs) (sets x)) tt (mc x)) (e: ∀x,Sim (fun _ _ _ _=>False) (gsets (gwipe G vs) (sets x)) te r2 (me x)):
    SimN ε G (tLc wi g tt te vs) r2 (bnd m fun xs=>wAss (xs.1.length≤50000) (wCalm (fmapW xs.2 mc me xs.1))):=by
  intro S F σ H Q Qp Ep w s hm hQ hE
  refine i S F σ H _ _ Ep w s hm (fun xs I J S1 H1 hx h1 it=> ?_) hE
  intro D hD
  have w1:=h1.wd
  obtain⟨Gi,Y,wk,hz⟩:=it.ex
  let F':Pl:=fun b=>F b∨b=D
  have fD:F' D:= .inr rfl
  have wD0:Wd S1 F' (upd H1 D (.lst [])):=w1.moreF hD (.inl ⟨[],upd_same⟩)
  have st0:Stp (Zd S1 F) H1 (Zd S1 F') (upd H1 D (.lst [])):=Stp.moreF w1 hD
  obtain⟨hl,hx⟩:=hx
  have hl:xs.length≤50000:=hl
  have fx:Fx F H1 F':= .inr ⟨D,hD,rfl⟩
  have nF: ¬ F D:=fun z=>by
    obtain⟨o,e,_⟩:=(w1.foc D z).some
    rw[hD] at e;cases e
  have sub: ∀b,F b→F' b:=fun b z=> .inl z
  have stF: ∀ {S':Store K} {H':Hp},Stq S1 H1 S' H'→Stp (Zd S1 F) H1 (Zd S' F') H':=fun q=>⟨q.stp.keep,fun b z=>z.elim (fun z=>(q.dom b z).imp .inl id) fun z=>z.elim (fun z=> .inl (.inr z)) fun z=> .inr (z ▸ hD)⟩
  have over: ∀ {S':Store K} {H':Hp} {o:HO},Stq S1 H1 S' H'→Stq S1 H1 S' (upd H' D o):=fun q=>⟨fun b u n e=>by rw[upd_ne (ne_of_none e hD)];exact q.keep b u n e,q.dom,fun b z=>by
    by_cases e:b=D
    · rw[e,upd_same];exact fun w=>nomatch w
    · rw[upd_ne e];exact q.occ b z⟩
  refine lc_it wk (Pv:=fun i H'=> ∃S' ys acc,H' D=some (.lst acc)∧Stq S1 H1 S' H'∧Wd S' F' H'∧AtL (Zd S' F') H' (ys.map r2) acc∧ys.length≤i∧fmapW I mc me (xs.drop i) (fun zs S2=>Qp (ys++zs) S2) (fun _ _=>False) S') ?_ ?_ ?_ ?_
  · exact⟨S1,[],[],upd_same,over .refl,wD0,rfl,Nat.le_refl _,by simpa [wCalm] using hx⟩
  · rintro i H' hi ⟨S',ys,acc,e1,q1,w',l,le,hf⟩
    refine (hz F' S' H' fx (stF q1) w' ?_).1
    cases q:xs.drop i with
    | nil=>rw[q] at hf;exact hf.1
    | cons x t=>rw[q] at hf;exact hf.1
  · rintro i x H' H3 hi ⟨S',ys,acc,e1,q1,w',l,le,hf⟩ y
    obtain⟨x0,hx0⟩: ∃x0,xs[i]?=some x0:=⟨_,List.getElem?_eq_getElem hi⟩
    have ed:xs.drop i=x0::xs.drop (i+1):=by
      rw[List.drop_eq_getElem_cons hi]
      have:=List.getElem?_eq_some_iff.mp hx0
      rw[this.2]
    rw[ed] at hf
    obtain⟨nx3,hv⟩:=(hz F' S' H' fx (stF q1) w' hf.1).2 i x H3 x0 y hx0
    have q3:=q1.trans nx3.st
    refine t _ H3 x x0 (L2.wipe σ vs) _ hv fun ws hws=>⟨wipe_setAll (hs x0),?_⟩
    have s3:Sat (gsets (gwipe G vs) (sets x0)) (Zd S' F') H3 (setAll (L2.wipe σ vs) ((sets x0).map (·.1)) ws):=(((s.up h1.stp).up (stF q3)).wipe vs).sets hws
    have eD: ∀ {S4:Store K} {H4:Hp},Nxt S' F' H' S4 H4→H4 D=some (.lst acc):=fun n=>n.st.keep D _ (w'.dis D fD) e1
    refine c x0 S' F' _ H3 _ _ _ nx3.wd s3 hf.2 (fun b S4 H4 hb h4=> ?_) hanE_no
    cases b with
    | true=>
      refine iteT (e x0 S4 F' _ H4 _ _ _ h4.wd (s3.up h4.stp) (by have q:=hb;unfold wIf at q;rw[if_pos rfl] at q;exact q) (fun z S5 H5 v hz h5 hv=> ?_) hanE_no)
      have h35:=nx3.trans (h4.trans h5)
      refine⟨acc,eD h35,by rw[l.length,List.length_map];exact sl_lt (by omega),S5,ys++ [z],acc++ [v],upd_same,over (q1.trans h35.st),h5.wd.putF fD (.inl ⟨_,upd_same⟩),?_,by simp;omega,by simpa [bnd,ret] using hz⟩
      rw[List.map_append]
      have sp:Stp (Zd S5 F') H5 (Zd S5 F') (upd H5 D (.lst (acc++ [v]))):=Stp.put (.inr fD)
      exact AtL.append ((l.up h35.stp).up sp) (AtL.one (Dm.up _ sp hv))
    | false=>
      have h34:=nx3.trans h4
      exact iteF ⟨S4,ys,acc,eD h34,q1.trans h34.st,h4.wd,l.up h34.stp,by omega,by have q:=hb;unfold wIf at q;rw[if_neg (by decide)] at q;exact q⟩
  · rintro H' ⟨S',ys,acc,e1,q1,w',l,le,hf⟩
    rw[List.drop_eq_nil_of_le (Nat.le_refl _)] at hf
    have hq:Qp ys S':=by simpa using hf.2
    have nx:Nxt S1 F H1 S' H':=⟨q1,w'.lessF sub⟩
    have hD0:H D=none:=by
      cases e:H D with
      | none=>rfl
      | some o=>exact absurd hD (h1.st.occ D (by rw[e];exact fun z=>nomatch z))
    exact hQ ys S' H' D acc hq (h1.trans nx) hD0 w' nF e1 l
theorem sim_lc {wi:TI} {g:TG} {tt:TT} {te:TE} {vs:List Nat} {r:α→Dm K} {r2:β→Dm K} {sets:α→List (Nat×Dm K)} {m:W K (List α×(Store K→Prop))} {mc:α→W K Bool} {me:α→W K β}
    (i:SimI ε G wi r m) (t:SimG g r sets) (hs: ∀x,∀y∈(sets x).map (·.1),y∈vs)
    (c: ∀x,SimB (fun _ _ _ _=>False) (gsets (gwipe G vs) (sets x)) tt (mc x)) (e: ∀x,Sim (fun _ _ _ _=>False) (gsets (gwipe G vs) (sets x)) te r2 (me x)):
    Sim ε G (tLc wi g tt te vs) (kL r2) (bnd m fun xs=>wAss (xs.1.length≤50000) (wCalm (fmapW xs.2 mc me xs.1))):=sim_new (simN_lc i t hs c e)
end
end TL

set_option Elab.async false
set_option linter.all false
set_option maxRecDepth 100000
set_option maxHeartbeats 2000000
namespace TL
open PySem PySem.Spec PyProof.Rows L2 PC

section
variable {K : PySem.W.Frag} {ε : WX} {Gh : Option (Gm K)} {G : Gm K} {α β γ τ S' ρ : Type} {T : Type}
def runs:List TS→TS
  | []=>fun D σ H=>D.nx σ H
  | t::ts=>fun D σ H=>t { D with nx:=runs ts D } σ H
structure Cf (S0:Store K) (F:Pl) (H0:Hp) (G:Gm K) (S:Store K) (H:Hp) (σ:L2.St):Prop where
  nx:Nxt S0 F H0 S H
  sat:Sat G (Zd S F) H σ
def SatO:Option (Gm K)→Pl→Hp→L2.St→Prop
  | none,_,_,_=>True
  | some G,Z,H,σ=>Sat G Z H σ
def HanS (ε:WX) (Gh:Option (Gm K)) (S0:Store K) (F:Pl) (H0:Hp) (Ep:Err K→Store K→Prop):Prop:=
  ∀e S' H' c d σ',Ep e S'→Nxt S0 F H0 S' H'→SatO Gh (Zd S' F) H' σ'→ErrAt e (Zd S' F) H' c d→ε c d σ' H'
def SimS (ε:WX) (Gh:Option (Gm K)) (G:Gm K) (ts:List TS) {T ρ:Type} (Gof:T→Gm K) (rr:ρ→Dm K) (m:W K (Flow T ρ)):Prop:=
  ∀S0 F H0 S H σ (D:Ends) (Qp:Flow T ρ→Store K→Prop) (Ep:Err K→Store K→Prop),Cf S0 F H0 G S H σ→m Qp Ep S→
    (∀s S' H' σ',Qp (.nx s) S'→Cf S0 F H0 (Gof s) S' H' σ'→D.nx σ' H')→
    (∀s S' H' σ',Qp (.bk s) S'→Cf S0 F H0 (Gof s) S' H' σ'→D.bk σ' H')→
    (∀x S' H' v,Qp (.rt x) S'→Nxt S0 F H0 S' H'→(rr x).at_ (Zd S' F) H' v→D.rt v H')→
    HanS ε Gh S0 F H0 Ep→runs ts D σ H
def Le (G:Gm K):Option (Gm K)→Prop
  | none=>True
  | some G'=>Wk G G'
theorem le_none:Le G none:=trivial
theorem Le.sat {Z:Pl} {H:Hp} {σ:L2.St} (l:Le G Gh) (s:Sat G Z H σ):SatO Gh Z H σ:=by
  cases Gh with
  | none=>trivial
  | some G'=>exact s.wk l
variable {Gof : T → Gm K} {rr : ρ → Dm K} {ts : List TS}
section
variable {S0 S S1 : Store K} {F : Pl} {H0 H H1 : Hp} {σ : L2.St} {Ep : Err K → Store K → Prop}
theorem Cf.wd (c:Cf S0 F H0 G S H σ):Wd S F H:=c.nx.wd
theorem Cf.to (c:Cf S0 F H0 G S H σ) (r:Nxt S F H S1 H1):Cf S0 F H0 G S1 H1 σ:=⟨c.nx.trans r,c.sat.up r.stp⟩
theorem HanS.e (h:HanS ε Gh S0 F H0 Ep) (c:Cf S0 F H0 G S H σ) (l:Le G Gh):HanE ε S F H σ Ep:=
  fun e S' H' k d he r hk=>h e S' H' k d σ he (c.nx.trans r) (l.sat (c.sat.up r.stp)) hk
end
theorem HanS.to {S0 S1:Store K} {F:Pl} {H0 H1:Hp} {Ep:Err K→Store K→Prop} (h:HanS ε Gh S0 F H0 Ep) (n:Nxt S0 F H0 S1 H1):HanS ε Gh S1 F H1 Ep:=
  fun e S' H' c d σ' he r hs hk=>h e S' H' c d σ' he (n.trans r) hs hk
theorem Cf.base {S0 S1 S:Store K} {F:Pl} {H0 H1 H:Hp} {σ:L2.St} (c:Cf S1 F H1 G S H σ) (n:Nxt S0 F H0 S1 H1):Cf S0 F H0 G S H σ:=⟨n.trans c.nx,c.sat⟩
theorem simS_seq {a b:TS} {m:W K (Flow T ρ)} (h:SimS ε Gh G (a::b::ts) Gof rr m):SimS ε Gh G (tSeq a b::ts) Gof rr m:=h
theorem simS_end {s:T} (k:Wk G (Gof s)):SimS ε Gh G [] Gof rr (ret (.nx s)):=
  fun S0 F H0 S H σ D Qp Ep c hm h1 _ _ _=>h1 s S H σ hm ⟨c.nx,c.sat.wk k⟩
theorem simS_next {m:W K (Flow T ρ)} (h:SimS ε Gh G ts Gof rr m):SimS ε Gh G (tNext::ts) Gof rr m:=h
theorem simS_asg {te:TE} {g:TG} {r:α→Dm K} {sets:α→List (Nat×Dm K)} {m:W K α} {k:α→W K (Flow T ρ)} (t:SimG g r sets) (l:Le G Gh) (e:Sim ε G te r m) (h: ∀x,SimS ε Gh (gsets G (sets x)) ts Gof rr (k x)):
    SimS ε Gh G (tAsg te g::ts) Gof rr (bnd m k):=by
  intro S0 F H0 S H σ D Qp Ep c hm h1 h2 h3 h4
  refine e S F σ H _ _ Ep c.wd c.sat hm (fun x S1 H1 v hx r1 hv=> ?_) (h4.e c l)
  refine t _ H1 v x σ _ hv fun vs hvs=>h x S0 F H0 S1 H1 _ D _ Ep ⟨c.nx.trans r1,(c.sat.up r1.stp).sets hvs⟩ hx h1 h2 h3 h4
theorem simS_ret {te:TE} {m:W K ρ} (l:Le G Gh) (e:Sim ε G te rr m):SimS ε Gh G (tRet te::ts) Gof rr (bnd m fun x=>ret (.rt x)):=by
  intro S0 F H0 S H σ D Qp Ep c hm h1 h2 h3 h4
  exact e S F σ H _ _ Ep c.wd c.sat hm (fun x S1 H1 v hx r1 hv=>h3 x S1 H1 v hx (c.nx.trans r1) hv) (h4.e c l)
theorem simS_drop {te:TE} {r:α→Dm K} {m:W K α} {k:W K (Flow T ρ)} (l:Le G Gh) (e:Sim ε G te r m) (h:SimS ε Gh G ts Gof rr k):SimS ε Gh G (tDrop te::ts) Gof rr (bnd m fun _=>k):=by
  intro S0 F H0 S H σ D Qp Ep c hm h1 h2 h3 h4
  refine e S F σ H _ _ Ep c.wd c.sat hm (fun x S1 H1 v hx r1 hv=> ?_) (h4.e c l)
  exact h S0 F H0 S1 H1 σ D _ Ep (c.to r1) hx h1 h2 h3 h4
theorem simS_if {c:TT} {a b:TS} {mc:W K Bool} {m n:W K (Flow T ρ)} (l:Le G Gh) (hc:SimB ε G c mc) (ha:SimS ε Gh G (a::ts) Gof rr m) (hb:SimS ε Gh G (b::ts) Gof rr n):
    SimS ε Gh G (tIfS c a b::ts) Gof rr (bnd mc fun x=>wIf x m n):=by
  intro S0 F H0 S H σ D Qp Ep cf hm h1 h2 h3 h4
  refine hc S F σ H _ _ Ep cf.wd cf.sat hm (fun x S1 H1 hx r1=> ?_) (h4.e cf l)
  cases x with
  | true=>exact iteT (ha S0 F H0 S1 H1 σ D _ Ep (cf.to r1) (by have q:=hx;unfold wIf at q;rw[if_pos rfl] at q;exact q) h1 h2 h3 h4)
  | false=>exact iteF (hb S0 F H0 S1 H1 σ D _ Ep (cf.to r1) (by have q:=hx;unfold wIf at q;rw[if_neg (by decide)] at q;exact q) h1 h2 h3 h4)
theorem simS_par {i j:Nat} {ta:TA} {r:α→Dm K} {s:β→Dm K} {m:W K (α×β×Unit)} {k:α×β×Unit→W K (Flow T ρ)} (l:Le G Gh) (e:SimA ε G ta (fun x:α×β×Unit=> [r x.1,s x.2.1]) m)
    (h: ∀x,SimS ε Gh ((G.set i (some (r x.1))).set j (some (s x.2.1))) ts Gof rr (k x)):SimS ε Gh G (tPar i j ta::ts) Gof rr (bnd m k):=by
  intro S0 F H0 S H σ D Qp Ep c hm h1 h2 h3 h4
  refine e S F σ H _ _ Ep c.wd c.sat hm (fun x S1 H1 vs hx r1 hv=> ?_) (h4.e c l)
  obtain⟨v,_,rfl,q1,u,_,rfl,q2,rfl⟩:=hv
  refine⟨v,u,rfl,?_⟩
  exact h x S0 F H0 S1 H1 _ D _ Ep ⟨c.nx.trans r1,((c.sat.up r1.stp).set q1).set q2⟩ hx h1 h2 h3 h4
theorem simS_raise {C:Addr} {f:Str} {fs:List Str} {ta:TA} {δ:τ→List (Dm K)} {m:W K τ} (l:Le G Gh) (e:SimA ε G ta δ m) (er:τ→List (Str×Dm K))
    (he: ∀y Z H vs,AtL Z H (δ y) vs→ ∃v ws,vs=v::ws∧ws.length=fs.length∧AtK Z H (er y) ((fs.zip ws).reverse++ [(f,v)])):
    SimS ε Gh G ((fun _ σ H=>tErr C f fs ta σ H fun cls d H'=>ε cls d σ H')::ts) Gof rr (bnd m fun y=>wRaise (C,er y)):=by
  intro S0 F H0 S H σ D Qp Ep c hm h1 h2 h3 h4
  refine e S F σ H _ _ Ep c.wd c.sat hm (fun y S1 H1 vs hy r1 hv=> ?_) (h4.e c l)
  obtain⟨v,ws,rfl,hl,hf⟩:=he y _ H1 vs hv
  refine⟨v,ws,rfl,hl,fun d hd=> ?_⟩
  have nx:Nxt S1 F H1 S1 (upd H1 d (.xd ((fs.zip ws).reverse++ [(f,v)]))):=r1.wd.new hd
  exact h4 _ S1 _ _ _ σ hy (c.nx.trans (r1.trans nx)) (l.sat (c.sat.up (r1.trans nx).stp)) ⟨rfl,d,_,rfl,r1.wd.free hd,upd_same,hf.up nx.stp⟩
theorem one_run {t:TS} {D:Ends} {σ:L2.St} {H:Hp} (h:runs [t] D σ H):t D σ H:=h
def wSetF {K:PySem.W.Frag} {β:Type} (C:Addr) (f:Str) (a:Addr) (d:Dm K) (k:W K β):W K β:=fun Q E S=> ∃fs,S a=some (.ins C fs)∧fs.length<1000∧k Q E (S.set a (.ins C (setF f d fs)))
theorem simS_fld {te to:TE} {C:Addr} {f:Str} {r:α→Dm K} {m:W K α} {mo:W K Addr} {k:W K (Flow T ρ)} (c:Cls K C) (n:NoAttr K C f) (l:Le G Gh) (e:Sim ε G te r m) (o:Sim ε G to kRef mo) (h:SimS ε Gh G ts Gof rr k):
    SimS ε Gh G (sFld K to te f::ts) Gof rr (bnd m fun x=>bnd mo fun a=>wSetF C f a (r x) k):=by
  intro S0 F H0 S H σ D Qp Ep cf hm h1 h2 h3 h4
  refine e S F σ H _ _ Ep cf.wd cf.sat hm (fun x S1 H1 v hx r1 hv=> ?_) (h4.e cf l)
  have c1:=cf.to r1
  refine o S1 F σ H1 _ _ Ep c1.wd c1.sat hx (fun a S2 H2 u hy r2 hu=> ?_) (h4.e c1 l)
  have c2:=c1.to r2
  obtain⟨fs,ea,hl,hk⟩:=hy
  cases (show u= .ref a from hu)
  obtain⟨dx,vs,e2,q⟩:=c2.wd.cell a _ ea
  refine⟨a,C,dx,vs,rfl,e2,c,n,by rw[q.length];exact hl,?_⟩
  have st:Stp (Zd S2 F) H2 (Zd S2 F) (upd H2 a (.ins C dx (putF f v vs))):=Stp.put (.inl (by rw[ea];exact fun z=>nomatch z))
  have nx:Nxt S2 F H2 (S2.set a (.ins C (setF f (r x) fs))) (upd H2 a (.ins C dx (putF f v vs))):=
    c2.wd.putS ea ⟨dx,_,upd_same,(q.up st).setF (Dm.up _ st (r2.up hv))⟩
  exact h S0 F H0 _ _ σ D _ Ep (c2.to nx) hk h1 h2 h3 h4
def forW {K:PySem.W.Frag} {α T ρ:Type} (I:Store K→Prop) (f:α→T→W K (Flow T ρ)):List α→T→W K (Flow T ρ)
  | [],s=>fun Q E S=>I S∧Q (.nx s) S
  | x::xs,s=>fun Q E S=>I S∧f x s (fun q S'=>match q with
    | .nx s'=>forW I f xs s' Q E S'
    | .bk s'=>Q (.nx s') S'
    | .rt y=>Q (.rt y) S') E S
def aft {K:PySem.W.Frag} {T T' ρ:Type} (k:T'→W K (Flow T ρ)):Flow T' ρ→W K (Flow T ρ)
  | .nx s=>k s
  | .bk s=>k s
  | .rt x=>ret (.rt x)
theorem simS_for {T':Type} {wi:TI} {g:TG} {tb:TS} {r:α→Dm K} {sets:α→List (Nat×Dm K)} {m:W K (List α×(Store K→Prop))} {Gl:T'→Gm K} {s0:T'} {mb:α→T'→W K (Flow T' ρ)} {k:T'→W K (Flow T ρ)}
    (l:Le G Gh) (i:SimI ε G wi r m) (t:SimG g r sets) (w0:Wk G (Gl s0))
    (b: ∀x s,SimS ε Gh (gsets (Gl s) (sets x)) [tb] Gl rr (mb x s)) (h: ∀s,SimS ε Gh (Gl s) ts Gof rr (k s)):
    SimS ε Gh G (tFor wi g tb::ts) Gof rr (bnd m fun xs=>bnd (forW xs.2 mb xs.1 s0) (aft k)):=by
  intro S0 F H0 S H σ D Qp Ep c hm h1 h2 h3 h4
  refine i S F σ H _ _ Ep c.wd c.sat hm (fun xs I J S1 H1 hx r1 it=> ?_) (h4.e c l)
  obtain⟨Gi,Y,wk,hz⟩:=it.ex
  have n01:=c.nx.trans r1
  have cont: ∀s σ' S' H',k s Qp Ep S'→Cf S1 F H1 (Gl s) S' H' σ'→runs ts D σ' H':=fun s σ' S' H' hk c'=>h s S0 F H0 S' H' σ' D _ Ep (c'.base n01) hk h1 h2 h3 h4
  refine for_it wk (Pv:=fun i σ' H'=> ∃s S',Cf S1 F H1 (Gl s) S' H' σ'∧forW I mb (xs.drop i) s (fun q=>aft k q Qp Ep) Ep S') ?_ ?_ ?_ ?_
  · exact⟨s0,S1,⟨.refl r1.wd,(c.sat.up r1.stp).wk w0⟩,hx⟩
  · rintro i σ' H' hi ⟨s,S',c',hf⟩
    refine (hz F S' H' (.inl rfl) c'.nx.stp c'.wd ?_).1
    cases q:xs.drop i with
    | nil=>rw[q] at hf;exact hf.1
    | cons x t=>rw[q] at hf;exact hf.1
  · rintro i x σ' H' H3 hi ⟨s,S',c',hf⟩ y
    obtain⟨x0,hx0⟩: ∃x0,xs[i]?=some x0:=⟨_,List.getElem?_eq_getElem hi⟩
    have ed:xs.drop i=x0::xs.drop (i+1):=by
      rw[List.drop_eq_getElem_cons hi]
      have:=List.getElem?_eq_some_iff.mp hx0
      rw[this.2]
    rw[ed] at hf
    obtain⟨r3,hv⟩:=(hz F S' H' (.inl rfl) c'.nx.stp c'.wd hf.1).2 i x H3 x0 y hx0
    refine t _ H3 x x0 σ' _ hv fun ws hws=> ?_
    refine one_run (b x0 s S1 F H1 S' H3 _ _ _ Ep ⟨c'.nx.trans r3,(c'.sat.up r3.stp).sets hws⟩ hf.2 ?_ ?_ ?_ (h4.to n01))
    · intro s2 S4 H4 σ4 q c4
      exact⟨s2,S4,c4,q⟩
    · intro s2 S4 H4 σ4 q c4
      exact cont s2 σ4 S4 H4 q c4
    · intro x2 S4 H4 u q r4 hu
      exact h3 x2 S4 H4 u q (n01.trans r4) hu
  · rintro σ' H' ⟨s,S',c',hf⟩
    rw[List.drop_eq_nil_of_le (Nat.le_refl _)] at hf
    exact cont s σ' S' H' hf.2 c'
def whileW {K:PySem.W.Frag} {T ρ:Type} (c:T→W K Bool) (f:T→W K (Flow T ρ)) (s0:T):W K (Flow T ρ):=fun Q E S0=> ∃I:Nat→T→Store K→Prop,(∃n,I n s0 S0)∧ ∀n s S,I n s S→
  c s (fun b=>wIf b (fun Q' E=>f s (fun q S'=>match q with
    | .nx s'=> ∃n',n'<n∧I n' s' S'
    | .bk s'=>Q' (.nx s') S'
    | .rt y=>Q' (.rt y) S') E) (ret (.nx s)) Q E) E S
theorem simS_while {T':Type} {c:TT} {tb:TS} {Gl:T'→Gm K} {s0:T'} {mc:T'→W K Bool} {mb:T'→W K (Flow T' ρ)} {k:T'→W K (Flow T ρ)} (l: ∀s,Le (Gl s) Gh) (w0:Wk G (Gl s0))
    (hc: ∀s,SimB ε (Gl s) c (mc s)) (b: ∀s,SimS ε Gh (Gl s) [tb] Gl rr (mb s)) (h: ∀s,SimS ε Gh (Gl s) ts Gof rr (k s)):
    SimS ε Gh G (tWhile c tb::ts) Gof rr (bnd (whileW mc mb s0) (aft k)):=by
  intro S0 F H0 S H σ D Qp Ep cf hm h1 h2 h3 h4
  obtain⟨I,⟨n0,i0⟩,step⟩:=hm
  refine⟨fun n σ' H'=> ∃s S',Cf S0 F H0 (Gl s) S' H' σ'∧I n s S',⟨n0,s0,S,⟨cf.nx,cf.sat.wk w0⟩,i0⟩,?_⟩
  rintro n σ' H' ⟨s,S',c',hi⟩
  refine hc s S' F σ' H' _ _ Ep c'.wd c'.sat (step n s S' hi) (fun x S2 H2 hx r2=> ?_) (h4.e c' (l s))
  have c2:=c'.to r2
  cases x with
  | true=>
    refine iteT ⟨fun σ3 H3=> ∃n',n'<n∧ ∃s S',Cf S0 F H0 (Gl s) S' H3 σ3∧I n' s S',fun σ3 H3 q=>q,?_⟩
    refine one_run (b s S0 F H0 S2 H2 σ' _ _ Ep c2 (by have q:=hx;unfold wIf at q;rw[if_pos rfl] at q;exact q) ?_ ?_ ?_ h4)
    · rintro s2 S4 H4 σ4 ⟨n',hn,q⟩ c4
      exact⟨n',hn,s2,S4,c4,q⟩
    · intro s2 S4 H4 σ4 q c4
      exact h s2 S0 F H0 S4 H4 σ4 D _ Ep c4 q h1 h2 h3 h4
    · intro x2 S4 H4 u q r4 hu
      exact h3 x2 S4 H4 u q r4 hu
  | false=>
    exact iteF (h s S0 F H0 S2 H2 σ' D _ Ep c2 (by have q:=hx;unfold wIf at q;rw[if_neg (by decide)] at q;exact q) h1 h2 h3 h4)
def wTry {K:PySem.W.Frag} {α:Type} (m:W K α) (h:Err K→W K α):W K α:=fun Q E S=>m Q (fun e S'=>h e Q E S') S
def wCatch {K:PySem.W.Frag} {α:Type} (C:Addr) (h n:Err K→W K α):Err K→W K α:=fun e Q E S=> ∃b,PySem.W.exmOne K (.ref e.1) (.ref C)=some b∧(b=true→h e Q E S)∧(b=false→n e Q E S)
def kErr (a:Addr) (k:Value) (d:Option Addr) (e:Err K):Dm K:=⟨fun Z H v=>v= .ref a∧ErrAt e Z H k d,fun r h=>⟨h.1,h.2.up r⟩⟩
inductive SimC (ε:WX) (Gh:Option (Gm K)) (Gc:Gm K) {T ρ:Type} (Gof:T→Gm K) (rr:ρ→Dm K):List Clause→(Err K→W K (Flow T ρ))→Prop
  | nil (l:Le Gc Gh):SimC ε Gh Gc Gof rr [] wRaise
  | cons {C:Addr} {i:Nat} {t:Addr→Value→Option Addr→TS} {r:List Clause} {h n:Err K→W K (Flow T ρ)} {Gs:T→Gm K}
      (b: ∀a k d e,SimS ε Gh (Gc.set i (some (kErr a k d e))) [t a k d] Gs rr (h e)) (w: ∀s,Wk ((Gs s).set i none) (Gof s)) (rest:SimC ε Gh Gc Gof rr r n):
      SimC ε Gh Gc Gof rr ((.ref C,i,t)::r) (wCatch C h n)
theorem SimC.run {Gc:Gm K} {l:List Clause} {hd:Err K→W K (Flow T ρ)} (s:SimC ε Gh Gc Gof rr l hd): ∀ {S0:Store K} {F:Pl} {H0:Hp} {S:Store K} {H:Hp} {σ:L2.St} {D:Ends} {Qp:Flow T ρ→Store K→Prop} {Ep:Err K→Store K→Prop} {e:Err K} {c:Value} {d:Option Addr},
    Cf S0 F H0 Gc S H σ→ErrAt e (Zd S F) H c d→hd e Qp Ep S→
    (∀s S' H' σ',Qp (.nx s) S'→Cf S0 F H0 (Gof s) S' H' σ'→D.nx σ' H')→
    (∀s S' H' σ',Qp (.bk s) S'→Cf S0 F H0 (Gof s) S' H' σ'→D.bk σ' H')→
    (∀x S' H' v,Qp (.rt x) S'→Nxt S0 F H0 S' H'→(rr x).at_ (Zd S' F) H' v→D.rt v H')→
    HanS ε Gh S0 F H0 Ep→wCl K ε D l c d σ H:=by
  induction s with
  | nil l=>
    intro S0 F H0 S H σ D Qp Ep e c d cf hk hm h1 h2 h3 h4
    exact h4 e S H c d σ hm cf.nx (l.sat cf.sat) hk
  | @cons C i t r h n Gs b w rest ih=>
    intro S0 F H0 S H σ D Qp Ep e c d cf hk hm h1 h2 h3 h4
    obtain⟨bb,e1,hy,hn⟩:=hm
    obtain rfl:c= .ref e.1:=hk.1
    refine⟨bb,e1,fun eb a ha=> ?_,fun eb=>ih cf hk (hn eb) h1 h2 h3 h4⟩
    refine one_run (b a (.ref e.1) d e S0 F H0 S H _ _ _ Ep ⟨cf.nx,cf.sat.set ⟨rfl,hk⟩⟩ (hy eb) ?_ ?_ ?_ h4)
    · intro s S' H' σ' q c'
      exact h1 s S' H' _ q ⟨c'.nx,(Sat.wipe1 (i:=i) c'.sat).wk (w s)⟩
    · intro s S' H' σ' q c'
      exact h2 s S' H' _ q ⟨c'.nx,(Sat.wipe1 (i:=i) c'.sat).wk (w s)⟩
    · intro x S' H' v q n' hv
      exact h3 x S' H' v q n' hv
def aftT {K:PySem.W.Frag} {T T' ρ:Type} (k:T'→W K (Flow T ρ)):Flow T' ρ→W K (Flow T ρ)
  | .nx s=>k s
  | .bk _=>fun _ _ _=>False
  | .rt x=>ret (.rt x)
theorem simS_try {T':Type} {tb:WX→TS} {l:List Clause} {Gc:Gm K} {G1:T'→Gm K} {mb:W K (Flow T' ρ)} {hd:Err K→W K (Flow T' ρ)} {k:T'→W K (Flow T ρ)}
    (b: ∀ε',SimS ε' (some Gc) G [tb ε'] G1 rr mb) (c:SimC ε Gh Gc G1 rr l hd) (h: ∀s,SimS ε Gh (G1 s) ts Gof rr (k s)):
    SimS ε Gh G ((fun D σ H=>tb (wCl K ε D l) D σ H)::ts) Gof rr (bnd (wTry mb hd) (aftT k)):=by
  intro S0 F H0 S H σ D Qp Ep cf hm h1 h2 h3 h4
  have g1: ∀s S' H' σ',aftT k (.nx s) Qp Ep S'→Cf S0 F H0 (G1 s) S' H' σ'→runs ts D σ' H':=fun s S' H' σ' q c'=>h s S0 F H0 S' H' σ' D _ Ep c' q h1 h2 h3 h4
  show runs [tb (wCl K ε { D with nx:=runs ts D } l)] { D with nx:=runs ts D } σ H
  refine b _ S0 F H0 S H σ { D with nx:=runs ts D } _ _ cf hm g1 (fun s S' H' σ' q c'=>q.elim) h3 ?_
  intro e S' H' c' d σ' he n' hs hk
  exact c.run ⟨n',hs⟩ hk he g1 (fun s S' H' σ' q c'=>q.elim) h3 h4
def outW {K:PySem.W.Frag} {α:Type} (m:W K (Flow Unit α)) (d:Option α):W K α:=fun Q E S=>m (fun q S'=>match q with
  | .rt y=>Q y S'
  | .nx _=>match d with | some y=>Q y S' | none=>False
  | .bk _=>False) E S
def envOf (ds:List (Dm K)) (n:Nat):Gm K:=ds.map some++List.replicate (n - ds.length) none
theorem sat_start {N:List Str} {ds:List (Dm K)} {vs:List V} {Z:Pl} {H:Hp} (h:AtL Z H ds vs):Sat (envOf ds N.length) Z H (L2.start N vs):=by
  have hl:=h.length
  refine⟨by simp[L2.start,envOf,hl],fun i d e=> ?_⟩
  unfold envOf at e
  rw[List.getElem?_append] at e
  unfold L2.start
  rw[List.getElem?_append]
  simp only[List.length_map] at e ⊢
  by_cases c:i<ds.length
  · rw[if_pos c,List.getElem?_map] at e
    rw[if_pos (by omega),List.getElem?_map]
    cases q:ds[i]? with
    | none=>rw[q] at e;cases e
    | some x=>
      rw[q] at e
      cases e
      obtain⟨v,e1,e2⟩:=h.get q
      exact⟨v,by rw[e1];rfl,e2⟩
  · rw[if_neg c,List.getElem?_replicate] at e
    split at e <;> cases e
variable {P : Program} {w : World} {mg : Str → Option Value} {base : Heap}
theorem okL {x qual:Str} {st:Stmt} {f:Addr} {fd:FuncData} {N ps:List Str} {k:Nat} {δ:τ→List (Dm K)} {r:α→Dm K} {wf:τ→W K α}
    (F:Fun K x qual st f fd) (S:FnScope N ps (defScope st)) (hl: ∀x,(δ x).length=ps.length) (d:Option α) (hd: ∀y,d=some y→r y=dPy .none)
    (body: ∀(cdv:Value) (A:Around) (outer:List Env) (s:Shared) (H:Hp) (E:XK),GOkA K A base→Room k (A.deeper (envOfC qual (defScope st) s.heap.objs.size f cdv))→
      ∃t,PSs (cxg P w K mg base N qual st f cdv A outer s H E) (defBody st) t∧ ∃m:τ→W K (Flow Unit α),
        (∀x,SimS (fun c d _ H=>E c d H) none (envOf (δ x) N.length) [t] (fun _:Unit=>List.replicate N.length none) r (m x))∧ ∀x Q E S,wf x Q E S→outW (m x) d Q E S):
    FnG P w K mg base (k+1) f fd ps (lift K δ r wf):=by
  refine FnG.okX F S (fun vs H Q E h=> ?_) (fun cdv A outer s H vs Q E hg hr h=> ?_)
  · obtain⟨S0,F0,x,Qp,Ep,wd,ha,_⟩:=h
    rw[ha.length,hl]
  · obtain⟨t,ht,m,hs,hw⟩:=body cdv A outer s H E hg hr
    refine⟨t,ht,?_⟩
    obtain⟨S0,F0,x,Qp,Ep,wd,ha,hf,hQ,hE⟩:=h
    have q:=hw x Qp Ep S0 hf
    refine hs x S0 F0 H S0 H _ { nx:=fun _ H'=>Q .non H',rt:=Q } _ Ep ⟨.refl wd,sat_start ha⟩ q (fun _ S' H' σ' z c'=> ?_) (fun _ _ _ _ z _=>z.elim) (fun y S' H' v z r' hv=>hQ y S' H' v z r' hv)
      (fun e S' H' c dd σ' he r' _ hk=>hE e S' H' c dd he r' hk)
    cases d with
    | none=>exact z.elim
    | some y=>exact hQ y S' H' .non z c'.nx (by rw[hd y rfl];exact mk_non)
end
end TL

set_option Elab.async false
set_option linter.all false
set_option maxRecDepth 100000
set_option maxHeartbeats 2000000
namespace TL
open PySem PySem.Spec PyProof.Rows L2 PC

section
variable {K : PySem.W.Frag} {ε : WX} {G : Gm K} {α β γ τ : Type} {S : Store K} {F : Pl}
theorem os_I0 {g:Int→Int→Int}:OpS K (rI0 fun i j=> .int (g i j)) kI kI kI (fun x y=>ret (g x y)):=by
  intro S F H x y v w Q Qp Ep wd hv hw hf hQ
  obtain rfl:=at_int hv
  obtain rfl:=at_int hw
  exact⟨x,y,rfl,rfl,hQ _ S H _ hf (.refl wd) mk_int⟩
theorem os_I {C:Int→Int→Prop} {g:Int→Int→Int}:OpS K (rI C fun i j=> .int (g i j)) kI kI kI (fun x y=>wAss (C x y) (ret (g x y))):=by
  intro S F H x y v w Q Qp Ep wd hv hw hf hQ
  obtain rfl:=at_int hv
  obtain rfl:=at_int hw
  exact⟨x,y,rfl,rfl,hf.1,hQ _ S H _ hf.2 (.refl wd) mk_int⟩
theorem os_B0 {g:Int→Int→Bool}:OpS K (rI0 fun i j=> .bl (g i j)) kI kI kB (fun x y=>ret (g x y)):=by
  intro S F H x y v w Q Qp Ep wd hv hw hf hQ
  obtain rfl:=at_int hv
  obtain rfl:=at_int hw
  exact⟨x,y,rfl,rfl,hQ _ S H _ hf (.refl wd) mk_bl⟩
theorem os_add:OpS K (rAdd K) kI kI kI (fun x y=>ret (x+y)):=by
  intro S F H x y v w Q Qp Ep wd hv hw hf hQ
  obtain rfl:=at_int hv
  obtain rfl:=at_int hw
  exact s_add_int (hQ _ S H _ hf (.refl wd) mk_int)
theorem os_addL {r:α→Dm K}:OpS K (rAdd K) (kL r) (kL r) (kL r) (fun x y=>wAss (x.length+y.length≤50000) (ret (x++y))):=by
  intro S F H x y v w Q Qp Ep wd ⟨a,xs,e1,na,ha,la⟩ ⟨b,ys,e2,nb,hb,lb⟩ hf hQ
  subst e1 e2
  refine .inr (.inr (.inl ⟨a,b,xs,ys,rfl,rfl,.inl ha,.inl hb,by rw[la.length,lb.length,List.length_map,List.length_map];exact sl_of hf.1,?_⟩))
  exact new_lst wd (la.append lb) fun H' v r' h=>hQ _ S H' v hf.2 r' (by rw[← List.map_append] at h;exact h)
def wIx {K:PySem.W.Frag} {α:Type} (xs:List α) (i:Int):W K α:=fun Q _ S=>0≤i∧ ∃x,xs[i.toNat]?=some x∧Q x S
theorem at_map {r:α→Dm K} {Z:Pl} {H:Hp} {xs:List α} {vs:List V} {i:Nat} {x:α} (l:AtL Z H (xs.map r) vs) (e:xs[i]?=some x): ∃v,vs[i]?=some v∧(r x).at_ Z H v:=
  l.get (by rw[List.getElem?_map,e];rfl)
theorem os_ixL {r:α→Dm K}:OpS K (rIx K) (kL r) kI r (fun xs i=>wIx xs i):=by
  intro S F H xs i v w Q Qp Ep wd ⟨a,vs,e1,na,ha,la⟩ hw ⟨h0,x,ex,hf⟩ hQ
  obtain rfl:=at_int hw
  subst e1
  obtain⟨u,hu,hd⟩:=at_map la ex
  have e:((i.toNat:Nat):Int)=i:=Int.toNat_of_nonneg h0
  exact .inl ⟨a,vs,i,u,rfl,rfl,.inl (.inl ha),by rw[← e];exact atI_nat hu,hQ x S H u hf (.refl wd) hd⟩
theorem os_eqI:OpS K (rEqA K) kI kI kB (fun x y=>ret (decide (x=y))):=by
  intro S F H x y v w Q Qp Ep wd hv hw hf hQ
  obtain rfl:=at_int hv
  obtain rfl:=at_int hw
  exact s_eq_int (hQ _ S H _ hf (.refl wd) mk_bl)
theorem os_neI:OpS K (rNeA K) kI kI kB (fun x y=>ret (!decide (x=y))):=by
  intro S F H x y v w Q Qp Ep wd hv hw hf hQ
  obtain rfl:=at_int hv
  obtain rfl:=at_int hw
  exact s_ne_int (hQ _ S H _ hf (.refl wd) mk_bl)
theorem os_eqS:OpS K (rEqA K) kS kS kB (fun x y=>ret (decide (x=y))):=by
  intro S F H x y v w Q Qp Ep wd hv hw hf hQ
  obtain rfl:=at_str hv
  obtain rfl:=at_str hw
  exact s_eq_str (hQ _ S H _ hf (.refl wd) mk_bl)
theorem os_neS:OpS K (rNeA K) kS kS kB (fun x y=>ret (!decide (x=y))):=by
  intro S F H x y v w Q Qp Ep wd hv hw hf hQ
  obtain rfl:=at_str hv
  obtain rfl:=at_str hw
  exact s_ne_str (hQ _ S H _ hf (.refl wd) mk_bl)
theorem os_eqP:OpS K (rEqA K) kPy kPy kB (fun d e=>wAss (SeqAt.shaped d=true∧SeqAt.shaped e=true) (ret (PyData.eqv d e))):=by
  intro S F H x y v w Q Qp Ep wd hv hw hf hQ
  exact .inr ⟨[],x,y,wd.one,DatP.dat _ _ hv,DatP.dat _ _ hw,hf.1.1,hf.1.2,hQ _ S H _ hf.2 (.refl wd) mk_bl⟩
def isNone:PyData→Bool
  | .none=>true
  | _=>false
theorem atL_ints {Z:Pl} {H:Hp} {ns:List Int} {vs:List V} (l:AtL Z H (ns.map (kI (K:=K))) vs):vs=ns.map V.int:=by
  exact (DatPL.dat _ _ (AtL.dat (K:=K) (f:=PyData.int) (r:=kI) (fun x Z H v h=>h) l)).ints
theorem atL_bls {Z:Pl} {H:Hp} {ns:List Bool} {vs:List V} (l:AtL Z H (ns.map (kB (K:=K))) vs):vs=ns.map V.bl:=by
  exact (DatPL.dat _ _ (AtL.dat (K:=K) (f:=PyData.bool) (r:=kB) (fun x Z H v h=>h) l)).bls
theorem ints_at {Z:Pl} {H:Hp}: ∀ns:List Int,AtL Z H (ns.map (kI (K:=K))) (ns.map V.int)
  | []=>rfl
  | n::ns=>⟨.int n,_,rfl,mk_int,ints_at ns⟩
theorem at1 {Z:Pl} {H:Hp} {d:Dm K} {vs:List V} (h:AtL Z H [d] vs): ∃v,vs= [v]∧d.at_ Z H v:=by
  obtain⟨v,r,rfl,h1,rfl⟩:=h
  exact⟨v,rfl,h1⟩
theorem at2 {Z:Pl} {H:Hp} {d e:Dm K} {vs:List V} (h:AtL Z H [d,e] vs): ∃v w,vs= [v,w]∧d.at_ Z H v∧e.at_ Z H w:=by
  obtain⟨v,r,rfl,h1,w,r,rfl,h2,rfl⟩:=h
  exact⟨v,w,rfl,h1,h2⟩
theorem cb_lenL {r:α→Dm K}:CalB K (PC.rLen K) (fun x:List α×Unit=> [kL r x.1]) kI (fun x=>ret (x.1.length:Int)):=by
  intro S F H x vs Q Qp Ep wd h hf hQ
  obtain⟨v,rfl,⟨a,xs,rfl,n,s,l⟩⟩:=at1 h
  exact .inl ⟨a,xs,rfl,.inl (.inl (.inl s)),by rw[l.length,List.length_map];exact hQ _ S H _ hf (.refl wd) mk_int⟩
theorem cb_tupleL {r:α→Dm K}:CalB K (rTuple K) (fun x:List α×Unit=> [kL r x.1]) (kT r) (fun x=>ret x.1):=by
  intro S F H x vs Q Qp Ep wd h hf hQ
  obtain⟨v,rfl,⟨a,xs,rfl,n,s,l⟩⟩:=at1 h
  exact⟨a,xs,rfl,.inl ⟨.inl (.inl s),new_tup wd l fun H' v r' h=>hQ _ S H' v hf r' (dP_dT h)⟩⟩
theorem cb_sum:CalB K (rSum K) (fun x:List Int×Unit=> [kL kI x.1]) kI (fun x=>ret x.1.sum):=by
  intro S F H x vs Q Qp Ep wd h hf hQ
  obtain⟨v,rfl,⟨a,xs,rfl,n,s,l⟩⟩:=at1 h
  obtain rfl:=atL_ints l
  exact⟨a,x.1,rfl,.inl (.inl s),hQ _ S H _ hf (.refl wd) mk_int⟩
theorem cb_all:CalB K (rAll K) (fun x:List Bool×Unit=> [kL kB x.1]) kB (fun x=>ret (x.1.all id)):=by
  intro S F H x vs Q Qp Ep wd h hf hQ
  obtain⟨v,rfl,⟨a,xs,rfl,n,s,l⟩⟩:=at1 h
  obtain rfl:=atL_bls l
  exact⟨a,x.1,rfl,.inl (.inl s),hQ _ S H _ hf (.refl wd) mk_bl⟩
theorem cb_max2:CalB K (fun xs H Q=> ∃i j,xs= [.int i,.int j]∧Q (.int (if j > i then j else i)) H) (fun x:Int×Int×Unit=> [kI x.1,kI x.2.1]) kI (fun x=>ret (max x.1 x.2.1)):=by
  intro S F H x vs Q Qp Ep wd h hf hQ
  obtain⟨v,w,rfl,h1,h2⟩:=at2 h
  obtain rfl:=at_int h1
  obtain rfl:=at_int h2
  refine⟨_,_,rfl,?_⟩
  have e:(if x.2.1 > x.1 then x.2.1 else x.1)=max x.1 x.2.1:=by omega
  rw[e]
  exact hQ _ S H _ hf (.refl wd) mk_int
theorem cb_min2:CalB K (fun xs H Q=> ∃i j,xs= [.int i,.int j]∧Q (.int (if j<i then j else i)) H) (fun x:Int×Int×Unit=> [kI x.1,kI x.2.1]) kI (fun x=>ret (min x.1 x.2.1)):=by
  intro S F H x vs Q Qp Ep wd h hf hQ
  obtain⟨v,w,rfl,h1,h2⟩:=at2 h
  obtain rfl:=at_int h1
  obtain rfl:=at_int h2
  refine⟨_,_,rfl,?_⟩
  have e:(if x.2.1<x.1 then x.2.1 else x.1)=min x.1 x.2.1:=by omega
  rw[e]
  exact hQ _ S H _ hf (.refl wd) mk_int
theorem cb_intB:CalB K (fun xs H Q=>(∃i,xs= [.int i]∧Q (.int i) H)∨ ∃k,xs= [.bl k]∧Q (.int (if k then 1 else 0)) H) (fun x:Bool×Unit=> [kB x.1]) kI (fun x=>ret (if x.1 then 1 else 0)):=by
  intro S F H x vs Q Qp Ep wd h hf hQ
  obtain⟨v,rfl,h1⟩:=at1 h
  obtain rfl:=at_bl h1
  exact .inr ⟨_,rfl,hQ _ S H _ hf (.refl wd) mk_int⟩
theorem cb_sortedT:CalB K (PC.rSorted K) (fun x:List Int×Unit=> [kT kI x.1]) (kL kI) (fun x=>ret (isort x.1)):=by
  intro S F H x vs Q Qp Ep wd h hf hQ
  obtain⟨v,rfl,⟨a,xs,rfl,n,s,l⟩⟩:=at1 h
  obtain rfl:=atL_ints l
  refine⟨a,x.1,rfl,.inr s,fun ms b hp hs hb=> ?_⟩
  obtain rfl:=isort_is hp hs
  exact hQ _ S _ _ hf (wd.new hb) ⟨b,_,rfl,wd.free hb,upd_same,ints_at _⟩
theorem cb_repr:CalB K (rRepr K) (fun x:PyData×Unit=> [kPy x.1]) kS (fun x=>wAss (Tame x.1 40 50000) (ret x.1.shown)):=by
  intro S F H x vs Q Qp Ep wd h hf hQ
  obtain⟨v,rfl,h1⟩:=at1 h
  exact⟨[],v,x.1,rfl,wd.one,DatP.dat _ _ h1,hf.1,hQ _ S H _ hf.2 (.refl wd) mk_str⟩
def kTy:String→Dm K:=fun T=>⟨fun _ _ v=>v= .ty T,fun _ h=>h⟩
theorem sim_ty {T:String}:Sim ε G (tC (.ty T)) kTy (ret T):=fun S F σ H Q Qp Ep w s hm hQ _=>hQ _ S H _ hm (.refl w) rfl
theorem sim_cls {C:Addr}:Sim ε G (tC (.ref C)) kRef (ret C):=fun S F σ H Q Qp Ep w s hm hQ _=>hQ _ S H _ hm (.refl w) rfl
def IsTy (T:String):Prop:=T= "int" ∨T= "bool" ∨T= "str" ∨T= "list" ∨T= "tuple" ∨T= "dict"
theorem cb_isi:CalB K (rIsi K) (fun x:PyData×String×Unit=> [kPy x.1,kTy x.2.1]) kB (fun x=>wAss (IsTy x.2.1) (ret (isD x.1 x.2.1))):=by
  intro S F H x vs Q Qp Ep wd h hf hQ
  obtain⟨v,w,rfl,h1,h2⟩:=at2 h
  obtain rfl:w= .ty x.2.1:=h2
  exact s_isi (DatP.dat _ _ h1) hf.1 (hQ _ S H _ hf.2 (.refl wd) mk_bl)
theorem cb_isC {C:Addr} {fs:α→List (Str×Dm K)} {r:α→Dm K} (e: ∀x,r x=dI C (fs x)) (c:Cls K C) (t:InstT K C) (q0:ClsQ K):CalB K (rIsi K) (fun x:α×Addr×Unit=> [r x.1,kRef x.2.1]) kB (fun x=>wAss (x.2.1=C) (ret true)):=by
  intro S F H x vs Q Qp Ep wd h hf hQ
  obtain⟨v,w,rfl,h1,h2⟩:=at2 h
  obtain rfl:w= .ref x.2.1:=h2
  rw[e] at h1
  obtain⟨a,dx,xs,rfl,_,e2,_⟩:=h1
  rw[hf.1]
  exact s_isiC c t q0 e2 (hQ _ S H _ hf.2 (.refl wd) mk_bl)
theorem sim_bits {te:TE} {m:W K Int} (h:Sim ε G te kI m):Sim ε G (tBits te) kI (bnd m fun i=>ret (Builtin.Int.intBits i:Int)):=by
  intro S F σ H Q Qp Ep w s hm hQ hE
  exact h S F σ H _ _ Ep w s hm (fun x S' H' v hx hr hv=>⟨x,at_int hv,hQ _ S' H' _ hx hr mk_int⟩) hE
theorem at_rng {Z:Pl} {H:Hp} (a b:Int):AtL Z H ((rng a b).map (kI (K:=K))) (rgV a b):=by
  have e:(rng a b).map V.int=rgV a b:=by simp[rng,rgV,List.map_map,Function.comp_def]
  rw[← e]
  exact ints_at _
def SimO (ε:WX) (G:Gm K) (to:TO) (m:W K (Option Int)):Prop:=
  ∀S F σ H (Q:Option Int→Hp→Prop) (Qp:Option Int→Store K→Prop) (Ep:Err K→Store K→Prop),Wd S F H→Sat G (Zd S F) H σ→m Qp Ep S→
    (∀x S' H',Qp x S'→Nxt S F H S' H'→Q x H')→HanE ε S F H σ Ep→to σ H Q
theorem simO_no:SimO ε G tNoPart (ret none):=fun S F σ H Q Qp Ep w s hm hQ hE=>hQ none S H hm (.refl w)
theorem simO_some {te:TE} {m:W K Int} (h:Sim ε G te kI m):SimO ε G (tPart te) (bnd m fun i=>ret (some i)):=by
  intro S F σ H Q Qp Ep w s hm hQ hE
  exact h S F σ H _ _ Ep w s hm (fun x S' H' v hx hr hv=>⟨x,at_int hv,hQ _ S' H' hx hr⟩) hE
def sli {α:Type} (xs:List α) (lo hi:Option Int):List α:=(xs.drop (HT.sIx xs.length 0 lo)).take (HT.sIx xs.length xs.length hi - HT.sIx xs.length 0 lo)
theorem atL_cut {Z:Pl} {H:Hp} {r:α→Dm K} {xs:List α} {vs:List V} {lo hi:Option Int} (l:AtL Z H (xs.map r) vs):AtL Z H ((sli xs lo hi).map r) (cutV vs lo hi):=by
  unfold sli cutV
  rw[l.length,List.length_map,List.map_take,List.map_drop]
  exact (l.drop _).take _
def SlS (K:PySem.W.Frag) (r:V→Option Int→Option Int→Hp→VK→Prop) {α γ:Type} (r1:α→Dm K) (r3:γ→Dm K) (f:α→Option Int→Option Int→W K γ):Prop:=
  ∀S F H x lo hi v Q (Qp:γ→Store K→Prop) (Ep:Err K→Store K→Prop),Wd S F H→(r1 x).at_ (Zd S F) H v→f x lo hi Qp Ep S→(∀z S' H' u,Qp z S'→Nxt S F H S' H'→(r3 z).at_ (Zd S' F) H' u→Q u H')→r v lo hi H Q
theorem sim_sl {r:V→Option Int→Option Int→Hp→VK→Prop} {te:TE} {tl th:TO} {r1:α→Dm K} {r3:γ→Dm K} {m:W K α} {ml mh:W K (Option Int)} {f:α→Option Int→Option Int→W K γ}
    (o:SlS K r r1 r3 f) (a:Sim ε G te r1 m) (l:SimO ε G tl ml) (h:SimO ε G th mh):Sim ε G (tSl r te tl th) r3 (bnd m fun x=>bnd ml fun lo=>bnd mh fun hi=>f x lo hi):=by
  intro S F σ H Q Qp Ep w s hm hQ hE
  refine a S F σ H _ _ Ep w s hm (fun x S1 H1 v hx h1 hv=> ?_) hE
  refine l S1 F σ H1 _ _ Ep h1.wd (s.up h1.stp) hx (fun lo S2 H2 hy h2=> ?_) (hE.to h1)
  have h12:=h1.trans h2
  refine h S2 F σ H2 _ _ Ep h2.wd (s.up h12.stp) hy (fun hi S3 H3 hz h3=> ?_) (hE.to h12)
  have h13:=h12.trans h3
  exact o S3 F H3 x lo hi v Q _ Ep h3.wd ((h2.trans h3).up hv) hz (fun z S' H' u q r' hu=>hQ z S' H' u q (h13.trans r') hu)
theorem ss_L {r:α→Dm K}:SlS K (PC.rSl K) (kL r) (kL r) (fun x lo hi=>ret (sli x lo hi)):=by
  intro S F H x lo hi v Q Qp Ep wd ⟨a,xs,e,n,s,l⟩ hf hQ
  subst e
  exact .inl ⟨a,xs,rfl,.inl (.inl s),new_lst wd (atL_cut l) fun H' v r' h=>hQ _ S H' v hf r' h⟩
section
variable {δ : Type} {r : α → Dm K} {s : β → Dm K} {t : γ → Dm K} {u : δ → Dm K} {ta : TE} {m : W K (α × β × γ × δ)}
end
theorem sim_pair {tr:TA} {r:α→Dm K} {s:β→Dm K} {n:W K (α×β×Unit)} (h:SimA ε G tr (fun x:α×β×Unit=> [r x.1,s x.2.1]) n):Sim ε G (tTup tr) (kP r s) (bnd n fun y=>ret (y.1,y.2.1)):=
  sim_tup (f:=fun y=>(y.1,y.2.1)) h (fun _=>rfl) (fun _=>by simp)
theorem os_ixC {r:α→Dm K}:OpS K (rIx K) kRef kI r (fun a i=>wPk r a fun xs=>wIx xs i):=by
  intro S F H a i v w Q Qp Ep wd hv hw ⟨xs,ea,h0,x,ex,hf⟩ hQ
  obtain rfl:=at_int hw
  cases (show v= .ref a from hv)
  obtain⟨vs,e1,l⟩:=wd.cell a _ ea
  obtain⟨u,hu,hd⟩:=at_map l ex
  have e:((i.toNat:Nat):Int)=i:=Int.toNat_of_nonneg h0
  exact .inl ⟨a,vs,i,u,rfl,rfl,.inl (.inl e1),by rw[← e];exact atI_nat hu,hQ x S H u hf (.refl wd) hd⟩
def wLenC {K:PySem.W.Frag} (a:Addr):W K Int:=fun Q _ S=> ∃ds,S a=some (.lst ds)∧Q (ds.length:Int) S
theorem cb_lenC:CalB K (PC.rLen K) (fun x:Addr×Unit=> [kRef x.1]) kI (fun x=>wLenC x.1):=by
  intro S F H x vs Q Qp Ep wd h ⟨ds,ea,hf⟩ hQ
  obtain⟨v,rfl,hv⟩:=at1 h
  cases (show v= .ref x.1 from hv)
  obtain⟨vs,e1,l⟩:=wd.cell _ _ ea
  exact .inl ⟨x.1,vs,rfl,.inl (.inl (.inl e1)),by rw[l.length];exact hQ _ S H _ hf (.refl wd) mk_int⟩
theorem cb_tupleC {r:α→Dm K}:CalB K (rTuple K) (fun x:Addr×Unit=> [kRef x.1]) (kT r) (fun x=>wPk r x.1 ret):=by
  intro S F H x vs Q Qp Ep wd h ⟨xs,ea,hf⟩ hQ
  obtain⟨v,rfl,hv⟩:=at1 h
  cases (show v= .ref x.1 from hv)
  obtain⟨vs,e1,l⟩:=wd.cell _ _ ea
  exact⟨x.1,vs,rfl,.inl ⟨.inl (.inl e1),new_tup wd l fun H' v r' h=>hQ _ S H' v hf r' (dP_dT h)⟩⟩
def IsLst {K:PySem.W.Frag} (a:Addr) (S:Store K):Prop:= ∃ds,S a=some (.lst ds)
def wApp {K:PySem.W.Frag} {α:Type} (a:Addr) (d:Dm K) (k:W K α):W K α:=fun Q E S=> ∃ds,S a=some (.lst ds)∧ds.length<50000∧k Q E (S.set a (.lst (ds++ [d])))
theorem sim_append {to te:TE} {r:α→Dm K} {mo:W K Addr} {m:W K α} (o:Sim ε G to kRef mo) (e:Sim ε G te r m):
    Sim ε G (tBM K "list" rAppend to (tCons te tNil)) kN (bnd mo fun a=>wRcv (IsLst a) (bnd m fun x=>wApp a (r x) (ret ()))):=by
  intro S F σ H Q Qp Ep w st hm hQ hE
  refine o S F σ H _ _ Ep w st hm (fun a S1 H1 v hx h1 hv=> ?_) hE
  obtain⟨⟨ds0,ea0⟩,hx⟩:=hx
  cases (show v= .ref a from hv)
  obtain⟨vs0,e0,l0⟩:=h1.wd.cell _ _ ea0
  refine⟨ty_lst e0,?_⟩
  refine e S1 F σ H1 _ _ Ep h1.wd (st.up h1.stp) hx (fun x S2 H2 u hy h2 hu=> ?_) (hE.to h1)
  obtain⟨ds,ea,hl,hf⟩:=hy
  obtain⟨vs,e1,l⟩:=h2.wd.cell _ _ ea
  refine s_append e1 (by rw[l.length];exact sl_lt (by omega)) ?_
  have sp:Stp (Zd S2 F) H2 (Zd S2 F) (upd H2 a (.lst (vs++ [u]))):=Stp.put (.inl (by rw[ea];exact fun z=>nomatch z))
  have nx:Nxt S2 F H2 (S2.set a (.lst (ds++ [r x]))) (upd H2 a (.lst (vs++ [u]))):=h2.wd.putS ea ⟨_,upd_same,(l.up sp).append (AtL.one (Dm.up _ sp hu))⟩
  exact hQ () _ _ _ hf ((h1.trans h2).trans nx) mk_non
def wSetI {K:PySem.W.Frag} {α:Type} (a:Addr) (i:Int) (d:Dm K) (k:W K α):W K α:=fun Q E S=> ∃ds,S a=some (.lst ds)∧0≤i∧i<ds.length∧k Q E (S.set a (.lst (ds.set i.toNat d)))
def wPop {K:PySem.W.Frag} {α:Type} (r:α→Dm K) (a:Addr) (i:Int):W K α:=fun Q E S=> ∃ds x,S a=some (.lst ds)∧0≤i∧i<50000∧ds[i.toNat]?=some (r x)∧Q x (S.set a (.lst (ds.eraseIdx i.toNat)))
theorem sim_popAt {to te:TE} {r:α→Dm K} {mo:W K Addr} {m:W K Int} (o:Sim ε G to kRef mo) (e:Sim ε G te kI m):
    Sim ε G (tBM K "list" rPopAt to (tCons te tNil)) r (bnd mo fun a=>wRcv (IsLst a) (bnd m fun i=>wPop r a i)):=by
  intro S F σ H Q Qp Ep w st hm hQ hE
  refine o S F σ H _ _ Ep w st hm (fun a S1 H1 v hx h1 hv=> ?_) hE
  obtain⟨⟨ds0,ea0⟩,hx⟩:=hx
  cases (show v= .ref a from hv)
  obtain⟨vs0,e0,l0⟩:=h1.wd.cell _ _ ea0
  refine⟨ty_lst e0,?_⟩
  refine e S1 F σ H1 _ _ Ep h1.wd (st.up h1.stp) hx (fun i S2 H2 u hy h2 hu=> ?_) (hE.to h1)
  obtain⟨ds,x,ea,h0,hb,ex,hf⟩:=hy
  obtain rfl:=at_int hu
  obtain⟨vs,e1,l⟩:=h2.wd.cell _ _ ea
  obtain⟨v,ev,hv⟩:=l.get ex
  have hi:((i.toNat:Nat):Int)=i:=Int.toNat_of_nonneg h0
  rw[← hi]
  refine s_popAt e1 (List.getElem?_eq_some_iff.mp ev).1 (by omega) (fun y ey=> ?_)
  rw[ev] at ey;cases ey
  have sp:Stp (Zd S2 F) H2 (Zd S2 F) (upd H2 a (.lst (vs.eraseIdx i.toNat))):=Stp.put (.inl (by rw[ea];exact fun z=>nomatch z))
  have nx:Nxt S2 F H2 (S2.set a (.lst (ds.eraseIdx i.toNat))) (upd H2 a (.lst (vs.eraseIdx i.toNat))):=h2.wd.putS ea ⟨_,upd_same,(l.up sp).erase _⟩
  exact hQ x _ _ _ hf ((h1.trans h2).trans nx) (nx.up hv)
theorem Nxt.old {S1:Store K} {H1:Hp} (n:Nxt S F H S1 H1) {a:Addr} (h:H1 a=none):H a=none:=by
  cases e:H a with
  | none=>rfl
  | some o=>exact absurd h (n.st.occ a (by rw[e];exact fun z=>nomatch z))
theorem new_out {α:Type} {r:α→Dm K} {xs:List α} {vs:List V} {Q:VK} (w:Wd S F H) (h:AtL (Zd S F) H (xs.map r) vs)
    (q: ∀H' a vs,Nxt S F H S H'→H a=none→Wd S (fun b=>F b∨b=a) H'→ ¬ F a→H' a=some (.lst vs)→AtL (Zd S fun b=>F b∨b=a) H' (xs.map r) vs→Q (.ref a) H'): ∀n,H n=none→Q (.ref n) (upd H n (.lst vs)):=fun n hn=>
  q _ n vs (w.new hn) hn (w.moreF hn (.inl ⟨_,upd_same⟩)) (fun z=>w.free hn (.inr z)) upd_same (h.up (Stp.moreF w hn))
def CalN (K:PySem.W.Frag) (r:List V→Hp→VK→Prop) {τ α:Type} (δ:τ→List (Dm K)) (r3:α→Dm K) (w:τ→W K (List α)):Prop:=
  ∀S F H x vs Q (Qp:List α→Store K→Prop) (Ep:Err K→Store K→Prop),Wd S F H→AtL (Zd S F) H (δ x) vs→w x Qp Ep S→
    (∀xs S' H' a vs,Qp xs S'→Nxt S F H S' H'→H a=none→Wd S' (fun b=>F b∨b=a) H'→ ¬ F a→H' a=some (.lst vs)→AtL (Zd S' fun b=>F b∨b=a) H' (xs.map r3) vs→Q (.ref a) H')→r vs H Q
theorem simN_callB {r:List V→Hp→VK→Prop} {ta:TA} {δ:τ→List (Dm K)} {r3:α→Dm K} {w:τ→W K (List α)} {ma:W K τ}
    (c:CalN K r δ r3 w) (a:SimA ε G ta δ ma):SimN ε G (tCB r ta) r3 (bnd ma w):=by
  intro S F σ H Q Qp Ep wd s hm hQ hE
  refine a S F σ H _ _ Ep wd s hm (fun x S1 H1 vs hx h1 hvs=> ?_) hE
  exact c S1 F H1 x vs Q _ _ h1.wd hvs hx (fun xs S' H' a us hy h2 ha hs hf e l=>hQ xs S' H' a us hy (h1.trans h2) (h1.old ha) hs hf e l)
theorem cn_listL {r:α→Dm K}:CalN K (rList K) (fun x:List α×Unit=> [kL r x.1]) r (fun x=>ret x.1):=by
  intro S F H x vs Q Qp Ep wd h hf hQ
  obtain⟨v,rfl,⟨a,xs,rfl,n,s,l⟩⟩:=at1 h
  exact⟨a,xs,rfl,.inl (.inl (.inl s)),new_out wd l fun H' a vs n1 n2 n3 n4 n5 n6=>hQ _ S H' a vs hf n1 n2 n3 n4 n5 n6⟩
theorem simN_lstR2 {te tf:TE} {m n:W K Int} (h:Sim ε G te kI m) (g:Sim ε G tf kI n):SimN ε G (tLstRg (tRg2 te tf)) kI (bnd m fun a=>bnd n fun b=>wAss (RgOk a b) (ret (rng a b))):=by
  intro S F σ H Q Qp Ep w s hm hQ hE
  refine h S F σ H _ _ Ep w s hm (fun x S1 H1 v hx h1 hv=> ?_) hE
  refine g S1 F σ H1 _ _ Ep h1.wd (s.up h1.stp) hx (fun y S2 H2 u hy h2 hu=>⟨x,y,at_int hv,at_int hu,hy.1,?_⟩) (hE.to h1)
  exact new_out h2.wd (at_rng x y) fun H3 a vs n1 n2 n3 n4 n5 n6=>hQ _ S2 H3 a vs hy.2 (h1.trans (h2.trans n1)) ((h1.trans h2).old n2) n3 n4 n5 n6
def wPutK {K:PySem.W.Frag} {β:Type} (a:Addr) (k:Key) (d:Dm K) (c:W K β):W K β:=fun Q E S=> ∃es,S a=some (.dic es)∧es.length<50000∧c Q E (S.set a (.dic (putD es k d)))
def wPutT {K:PySem.W.Frag} {β:Type} (a:Addr) (k:List Key) (d:Dm K) (c:W K β):W K β:=fun Q E S=> ∃es,S a=some (.dct es)∧es.length<50000∧c Q E (S.set a (.dct (putD es k d)))
section
variable {T ρ : Type} {Gh : Option (Gm K)} {Gof : T → Gm K} {rr : ρ → Dm K} {ts : List TS} {te to ti : TE} {r : α → Dm K} {rk : β → Dm K} {m : W K α} {mo : W K Addr} {mi : W K β} {k : W K (Flow T ρ)}
end
end
end TL

set_option Elab.async false
set_option linter.all false
set_option maxRecDepth 100000
set_option maxHeartbeats 2000000
namespace TL
open PySem PySem.Spec PyProof.Rows L2 PC

section
variable {K : PySem.W.Frag} {ε : WX} {G : Gm K} {α β γ τ : Type} {S : Store K} {F : Pl}
theorem sim_neg {te:TE} {m:W K Int} (h:Sim ε G te kI m):Sim ε G (tUn (rU fun i=> .int (-i)) te) kI (bnd m fun i=>ret (-i)):=
  sim_un (r1:=kI) (r3:=kI) (f:=fun i=>ret (-i)) (fun S F H x v Q Qp Ep wd hv hf hQ=>⟨x,at_int hv,hQ _ S H _ hf (.refl wd) mk_int⟩) h
theorem cb_lenSc:CalB K (PC.rLen K) (fun x:List Int×Unit=> [kSc x.1]) kI (fun x=>ret (x.1.length:Int)):=by
  intro S F H x vs Q Qp Ep wd h hf hQ
  obtain⟨v,rfl,⟨a,rfl,n,s⟩⟩:=at1 h
  exact .inl ⟨a,_,rfl,.inl s,by rw[List.length_map];exact hQ _ S H _ hf (.refl wd) mk_int⟩
def wXf {K:PySem.W.Frag} {C:Addr} {α:Type} (f:Str) (r:α→Dm K) (e:Err K):W K α:=fun Q _ S=>e.1=C∧ ∃x,e.2.lookup f=some (r x)∧Q x S
theorem sim_xf {te:TE} {a C:Addr} {k:Value} {d:Option Addr} {f:Str} {r:α→Dm K} {m:W K (Err K)} (h:Sim ε G te (kErr a k d) m):Sim ε G (tXf a k d C f te) r (bnd m (wXf (C:=C) f r)):=by
  intro S F σ H Q Qp Ep w s hm hQ hE
  refine h S F σ H _ _ Ep w s hm (fun e S1 H1 v hx h1 hv=> ?_) hE
  obtain⟨ec,x,ex,hq⟩:=hx
  obtain⟨rfl,e1,b,kvs,e2,e3,e4,l⟩:=hv
  subst e1
  rcases l.look (f:=f) with ⟨z,_⟩ | ⟨dd,u,z1,z2,z3⟩
  · rw[ex] at z;cases z
  · rw[ex] at z1;cases z1
    exact⟨rfl,by rw[ec],b,kvs,u,e2,e4,z2,hQ x S1 H1 u hq h1 z3⟩
section
variable {T ρ : Type} {Gh : Option (Gm K)} {Gof : T → Gm K} {rr : ρ → Dm K} {ts : List TS} {te to ti : TE} {m : W K Int} {mo : W K Addr} {mi : W K Int} {k : W K (Flow T ρ)} {f : Int → Int → Int}
end
end
end TL
namespace TL
open PySem PySem.Spec PyProof.Rows L2 PC
theorem FnG.ex {P:Program} {w:World} {K:PySem.W.Frag} {mg:Str→Option Value} {base:Heap} {k:Nat} {f:Addr} {fd:FuncData} {ps:List Str} {ι:Type 1} {sp:ι→Sp}
    (F: ∀i,FnG P w K mg base k f fd ps (sp i)):FnG P w K mg base k f fd ps (fun vs H Q E=> ∃i,sp i vs H Q E):=
  ⟨fun vs H Q E ⟨i,h⟩=>(F i).len vs H Q E h,fun A o s H a us vs Q E g r e0 b rv ⟨i,h⟩=>(F i).run A o s H a us vs Q E g r e0 b rv h⟩
section
variable {K : PySem.W.Frag} {ε : WX} {α τ : Type}
end
end TL
namespace TL
open PySem PySem.Spec PyProof.Rows L2 PC
section
variable {K : PySem.W.Frag} {ε : WX} {G : Gm K} {α β γ τ : Type} {S : Store K} {F : Pl} {Z : Pl} {H : Hp}
theorem atL_py: ∀ {ds:List PyData} {vs:List V},DatPL K Z H ds vs→AtL Z H (ds.map (kPy (K:=K))) vs
  | [],_,h=>by simp only[DatPL] at h;exact h
  | d::ds,_,h=>by
    simp only[DatPL] at h
    obtain⟨v,r,e,h1,t⟩:=h
    exact⟨v,r,e,h1,atL_py t⟩
theorem datp_seq {d:PyData} {v:V} {ds:List PyData} (h:DatP K Z H d v) (e:seqD d=some ds):
    ∃a xs,v= .ref a∧AtL Z H (ds.map (kPy (K:=K))) xs∧((¬ Z a∧Rd H a (.lst xs))∨((¬ Z a∨SqT K (fun _=>none) a xs)∧SqT K H a xs)):=by
  cases d with
  | list l=>
    simp only[DatP] at h
    obtain⟨a,xs,e1,n,s,l⟩:=h
    cases e
    exact⟨a,xs,e1,atL_py l,.inl ⟨n,s⟩⟩
  | tuple l=>
    simp only[DatP] at h
    obtain⟨a,xs,e1,n,s,l⟩:=h
    cases e
    exact⟨a,xs,e1,atL_py l,.inr ⟨n,s⟩⟩
  | none=>cases e
  | bool _=>cases e
  | int _=>cases e
  | str _=>cases e
  | dict _=>cases e
def Oc {K:PySem.W.Frag} {α:Type} (r:α→Dm K) (f:α→PyData):Prop:= ∀x Z H v,DatP K Z H (f x) v→(r x).at_ Z H v
def wAs {K:PySem.W.Frag} {α:Type} (f:α→PyData) (d:PyData):W K α:=fun Q _ S=> ∃x,d=f x∧Q x S
theorem sim_as {te:TE} {r:α→Dm K} {f:α→PyData} {m:W K PyData} (o:Oc r f) (h:Sim ε G te kPy m):Sim ε G te r (bnd m (wAs f)):=by
  intro S F σ H Q Qp Ep w s hm hQ hE
  refine h S F σ H _ _ Ep w s hm (fun d S1 H1 v hx h1 hv=> ?_) hE
  obtain⟨x,rfl,hq⟩:=hx
  exact hQ x S1 H1 v hq h1 (o _ _ _ _ hv)
theorem oc_I:Oc (K:=K) kI PyData.int:=fun _ _ _ _ h=>h
def wSeq {K:PySem.W.Frag} {β:Type} (d:PyData) (k:List PyData→W K β):W K β:=fun Q E S=> ∃ds,seqD d=some ds∧k ds Q E S
theorem simI_py {i:Nat} {d:PyData} (h:G[i]?=some (some (kPy d))):SimI ε G (iOr (iList K (tVar i)) (iTup K (tVar i))) kPy (wSeq d fun xs=>ret (xs,nI)):=by
  intro S F σ H RI Qp Ep w s ⟨ds,e,hq⟩ hQ hE
  obtain⟨v,ev,hv⟩:=s.slot i _ h
  obtain⟨a,xs,rfl,l,q | q⟩:=datp_seq hv e
  · exact .inl ⟨_,ev,a,rfl,⟨xs,.inl q.2⟩,hQ ds _ _ S H hq (.refl w) (iter_list q.1 q.2 l)⟩
  · exact .inr ⟨_,ev,a,rfl,⟨xs,q.2⟩,hQ ds _ _ S H hq (.refl w) (iter_tup q.1 q.2 l)⟩
def wSortPy {K:PySem.W.Frag} (d:PyData):W K (List Int):=fun Q _ S=> ∃ns,seqD d=some (ns.map .int)∧Q (isort ns) S
theorem cb_sortedPy:CalB K (PC.rSorted K) (fun x:PyData×Unit=> [kPy x.1]) (kL kI) (fun x=>wSortPy x.1):=by
  intro S F H x vs Q Qp Ep wd h ⟨ns,e,hf⟩ hQ
  obtain⟨v,rfl,hv⟩:=at1 h
  obtain⟨a,xs,rfl,l,q⟩:=datp_seq hv e
  have el:xs=ns.map V.int:=by
    have:AtL (Zd S F) H (ns.map (kI (K:=K))) xs:=by rw[List.map_map] at l;exact l
    exact atL_ints this
  subst el
  refine⟨a,ns,rfl,q.imp (fun q=> .inl q.2) (fun q=>q.2),fun ms b hp hs hb=> ?_⟩
  obtain rfl:=isort_is hp hs
  exact hQ _ S _ _ hf (wd.new hb) ⟨b,_,rfl,wd.free hb,upd_same,ints_at _⟩
theorem cb_isiT2:CalB K (rIsiT K) (fun x:PyData×(String×String)×Unit=> [kPy x.1,kP kTy kTy x.2.1]) kB (fun x=>wAss (x.2.1=("list","tuple")) (ret (isD x.1 "list" || isD x.1 "tuple"))):=by
  intro S F H x vs Q Qp Ep wd h hf hQ
  obtain⟨v,w,rfl,h1,h2⟩:=at2 h
  obtain⟨a,xs,rfl,n,s,u1,r1,rfl,q1,u2,r2,rfl,q2,rfl⟩:=h2
  have e1:u1= .ty x.2.1.1:=q1
  have e2:u2= .ty x.2.1.2:=q2
  rw[hf.1] at e1 e2
  subst e1 e2
  exact s_isiLT (DatP.dat _ _ h1) s (hQ _ S H _ hf.2 (.refl wd) mk_bl)
end
end TL
namespace TL
open PySem PySem.Spec PyProof.Rows L2 PC
theorem nxt_pot {K:PySem.W.Frag} {S:Store K} {F:Pl} {H H':Hp} {p:Addr} (w:Wd S F H) (hp:S p=some .pot) (r:R p H H'):Nxt S F H S H':=by
  have st:Stp (Zd S F) H (Zd S F) H':=⟨fun b o n e=>r.keep b o (fun z=>n (.inl (by rw[z,hp];exact fun w=>nomatch w))) e,fun _ z=> .inl z⟩
  refine⟨⟨fun b o n e=>r.keep b o (fun z=>by rw[z,hp] at n;cases n) e,fun _ z=> .inl z,fun b z=> ?_⟩,r.one w.one,fun a c e=> ?_,fun a z=>(w.foc a z).keep fun o e=>r.keep a o (fun q=>by rw[q] at z;rw[w.dis _ z] at hp;cases hp) e,w.dis⟩
  · by_cases q:b=p
    · subst q;exact r.occ z
    · cases e:H b with
      | none=>exact absurd e z
      | some o=>rw[r.keep b o q e];exact fun w=>nomatch w
  · by_cases q:a=p
    · subst q
      rw[hp] at e
      cases e
      exact r.pot (w.cell _ _ hp)
    · exact (w.cell a c e).up st fun o e=>r.keep a o q e
end TL
namespace TL
open PySem PySem.Spec PyProof.Rows L2 PC
section
variable {K : PySem.W.Frag} {ε : WX} {G : Gm K} {α : Type} {S : Store K} {F : Pl}
end
end TL
namespace TL
open PySem PySem.Spec PyProof.Rows L2 PC
end TL

set_option Elab.async false
set_option linter.all false
set_option maxRecDepth 100000
set_option maxHeartbeats 2000000
namespace TL
open PySem PySem.Spec PyProof.Rows L2 PC
section
variable {K : PySem.W.Frag} {α β γ T ρ : Type} {S : Store K} {Q : α → Store K → Prop} {E : Err K → Store K → Prop}
theorem ret_bnd (x:α) (k:α→W K β):bnd (ret x) k=k x:=id rfl
theorem bnd_ret (m:W K α):bnd m (fun x=>ret x)=m:=id rfl
theorem bnd_bnd (m:W K α) (k:α→W K β) (l:β→W K γ):bnd (bnd m k) l=bnd m fun x=>bnd (k x) l:=id rfl
theorem raise_bnd (e:Err K) (k:α→W K β):bnd (wRaise e:W K α) k=wRaise e:=id rfl
theorem ass_bnd (c:Prop) (m:W K α) (k:α→W K β):bnd (wAss c m) k=wAss c (bnd m k):=id rfl
theorem if_bnd (b:Bool) (m n:W K α) (k:α→W K β):bnd (wIf b m n) k=wIf b (bnd m k) (bnd n k):=by cases b <;> exact id rfl
theorem if_t (m n:W K α):wIf true m n=m:=by funext Q E S;unfold wIf;rw[if_pos rfl]
theorem if_f (m n:W K α):wIf false m n=n:=by funext Q E S;unfold wIf;rw[if_neg (by decide)]
theorem if_not (b:Bool) (m n:W K α):wIf (!b) m n=wIf b n m:=by cases b <;> exact id rfl
theorem if_rets (b c d:Bool):(wIf b (ret c) (ret d):W K Bool)=ret (if b=true then c else d):=by cases b <;> exact id rfl
theorem ass_t {c:Prop} {m:W K α} (h:c):wAss c m=m:=by funext Q E S;exact propext ⟨fun x=>x.2,fun x=>⟨h,x⟩⟩
theorem ass_true (m:W K α):wAss True m=m:=ass_t trivial
theorem calm_ret (x:α):wCalm (ret x:W K α)=ret x:=id rfl
theorem calm_bnd (m:W K α) (k:α→W K β):wCalm (bnd m k)=bnd (wCalm m) fun x=>wCalm (k x):=id rfl
theorem calm_ass (c:Prop) (m:W K α):wCalm (wAss c m)=wAss c (wCalm m):=id rfl
theorem out_rt (x:α) (d:Option α):outW (ret (Flow.rt x)) d=(ret x:W K α):=id rfl
theorem out_nx (x:α):outW (ret (Flow.nx ())) (some x)=(ret x:W K α):=id rfl
theorem out_bnd (m:W K β) (k:β→W K (Flow Unit α)) (d:Option α):outW (bnd m k) d=bnd m fun x=>outW (k x) d:=id rfl
theorem out_raise (e:Err K) (d:Option α):outW (wRaise e) d=(wRaise e:W K α):=id rfl
theorem out_ass (c:Prop) (m:W K (Flow Unit α)) (d:Option α):outW (wAss c m) d=wAss c (outW m d):=id rfl
theorem out_if (b:Bool) (m n:W K (Flow Unit α)) (d:Option α):outW (wIf b m n) d=wIf b (outW m d) (outW n d):=by cases b <;> exact id rfl
theorem aft_nx {T':Type} (k:T'→W K (Flow T ρ)) (s:T'):aft k (.nx s)=k s:=id rfl
theorem aft_rt {T':Type} (k:T'→W K (Flow T ρ)) (x:ρ):aft k (.rt x)=ret (.rt x):=id rfl
theorem seq_bnd (d:PyData) (k:List PyData→W K α) (l:α→W K β):bnd (wSeq d k) l=wSeq d fun ds=>bnd (k ds) l:=by
  funext Q E S;exact id rfl
theorem pk_bnd {δ:Type} (r:δ→Dm K) (a:Addr) (k:List δ→W K α) (l:α→W K β):bnd (wPk r a k) l=wPk r a fun ds=>bnd (k ds) l:=id rfl
theorem setF_bnd {δ:Type} (C:Addr) (f:Str) (a:Addr) (d:Dm K) (k:W K α) (l:α→W K β):bnd (wSetF C f a d k) l=wSetF C f a d (bnd k l):=id rfl
theorem setI_bnd (a:Addr) (i:Int) (d:Dm K) (k:W K α) (l:α→W K β):bnd (wSetI a i d k) l=wSetI a i d (bnd k l):=id rfl
theorem app_bnd (a:Addr) (d:Dm K) (k:W K α) (l:α→W K β):bnd (wApp a d k) l=wApp a d (bnd k l):=id rfl
theorem putK_bnd (a:Addr) (i:Key) (d:Dm K) (k:W K α) (l:α→W K β):bnd (wPutK a i d k) l=wPutK a i d (bnd k l):=id rfl
theorem putT_bnd (a:Addr) (i:List Key) (d:Dm K) (k:W K α) (l:α→W K β):bnd (wPutT a i d k) l=wPutT a i d (bnd k l):=id rfl
theorem rcv_bnd (g:Store K→Prop) (m:W K α) (l:α→W K β):bnd (wRcv g m) l=wRcv g (bnd m l):=id rfl
theorem pk_out {δ:Type} (r:δ→Dm K) (a:Addr) (k:List δ→W K (Flow Unit α)) (d:Option α):outW (wPk r a k) d=wPk r a fun ds=>outW (k ds) d:=id rfl
theorem setF_out (C:Addr) (f:Str) (a:Addr) (d:Dm K) (k:W K (Flow Unit α)) (l:Option α):outW (wSetF C f a d k) l=wSetF C f a d (outW k l):=id rfl
theorem setI_out (a:Addr) (i:Int) (d:Dm K) (k:W K (Flow Unit α)) (l:Option α):outW (wSetI a i d k) l=wSetI a i d (outW k l):=id rfl
theorem app_out (a:Addr) (d:Dm K) (k:W K (Flow Unit α)) (l:Option α):outW (wApp a d k) l=wApp a d (outW k l):=id rfl
theorem putK_out (a:Addr) (i:Key) (d:Dm K) (k:W K (Flow Unit α)) (l:Option α):outW (wPutK a i d k) l=wPutK a i d (outW k l):=id rfl
theorem rcv_out (g:Store K→Prop) (m:W K (Flow Unit α)) (l:Option α):outW (wRcv g m) l=wRcv g (outW m l):=id rfl
theorem calm_calm (m:W K α):wCalm (wCalm m)=wCalm m:=id rfl
theorem aftT_nx {T':Type} (k:T'→W K (Flow T ρ)) (s:T'):aftT k (.nx s)=k s:=id rfl
theorem aftT_rt {T':Type} (k:T'→W K (Flow T ρ)) (x:ρ):aftT k (.rt x)=ret (.rt x):=id rfl
theorem as_int (i:Int):wAs PyData.int (.int i)=(ret i:W K Int):=by
  funext Q E S
  exact propext ⟨fun⟨x,e,h⟩=>by cases e;exact h,fun h=>⟨i,rfl,h⟩⟩
theorem seq_of {d:PyData} {ds:List PyData} {k:List PyData→W K α} (h:seqD d=some ds):wSeq d k=k ds:=by
  funext Q E S
  exact propext ⟨fun⟨x,e,h'⟩=>by rw[h] at e;cases e;exact h',fun q=>⟨ds,h,q⟩⟩
theorem sortPy_of {d:PyData} {ns:List Int} (h:seqD d=some (ns.map .int)):wSortPy d=(ret (isort ns):W K (List Int)):=by
  funext Q E S
  refine propext ⟨fun⟨x,e,h'⟩=> ?_,fun q=>⟨ns,h,q⟩⟩
  rw[h] at e
  have:=congrArg intsD (Option.some.inj e)
  rw[intsD_map,intsD_map] at this
  subst this;exact h'
theorem rcv_tt (m:W K α):wRcv (fun _=>True) m=m:=by funext Q E S;exact propext ⟨fun x=>x.2,fun x=>⟨trivial,x⟩⟩
theorem rng_0 (b:Nat):rng 0 (b:Int)=intsTo b:=by
  simp[rng,intsTo]
theorem fmap_eq {c:α→W K Bool} {f:α→W K β} {c':α→Bool} {f':α→β}: ∀ {xs:List α},(∀x∈xs,c x=ret (c' x))→(∀x∈xs,c' x=true→f x=ret (f' x))→fmapW nI c f xs=ret ((xs.filter c').map f')
  | [],_,_=>by funext Q E S;exact propext ⟨fun h=>h.2,fun h=>⟨trivial,h⟩⟩
  | x::xs,h,g=>by
    have ih:=fmap_eq (xs:=xs) (fun y m=>h y (List.mem_cons_of_mem _ m)) (fun y m=>g y (List.mem_cons_of_mem _ m))
    have h0:=h x List.mem_cons_self
    have g0:=g x List.mem_cons_self
    have e: ∀Q E S,fmapW nI c f (x::xs) Q E S=(bnd (c x) (fun b=>wIf b (bnd (f x) fun y=>bnd (fmapW nI c f xs) fun ys=>ret (y::ys)) (fmapW nI c f xs))) Q E S:=fun Q E S=>propext ⟨fun h=>h.2,fun h=>⟨trivial,h⟩⟩
    funext Q E S
    rw[e,h0,ret_bnd,ih]
    cases hc:c' x with
    | true=>rw[if_t,g0 hc,ret_bnd,ret_bnd,List.filter_cons_of_pos hc,List.map_cons]
    | false=>rw[if_f,List.filter_cons_of_neg (by rw[hc];decide)]
theorem fmap_all {f:α→W K β} {f':α→β} {xs:List α} (g: ∀x∈xs,f x=ret (f' x)):fmapW nI (fun _=>ret true) f xs=ret (xs.map f'):=by
  rw[fmap_eq (c':=fun _=>true) (f':=f') (fun _ _=>rfl) fun x m _=>g x m,List.filter_eq_self.mpr fun _ _=>rfl]
theorem fmap_ret (f:α→β) (xs:List α):fmapW nI (fun _=>(ret true:W K Bool)) (fun x=>ret (f x)) xs=ret (xs.map f):=fmap_all fun _ _=>rfl
theorem fmap_filt {c:α→W K Bool} {c':α→Bool} {xs:List α} (h: ∀x∈xs,c x=ret (c' x)):fmapW nI c (fun x=>ret x) xs=ret (xs.filter c'):=by
  rw[fmap_eq (f':=fun x=>x) h fun _ _ _=>rfl,List.map_id']
theorem ix_eq {xs:List α} {i:Int} {x:α} (h0:0≤i) (h:xs[i.toNat]?=some x):wIx xs i=(ret x:W K α):=by
  funext Q E S
  exact propext ⟨fun⟨_,y,e,q⟩=>by rw[h] at e;cases e;exact q,fun q=>⟨h0,x,h,q⟩⟩
theorem sli_one {α:Type} (xs:List α):sli xs (some 1) none=xs.drop 1:=by
  unfold sli
  rw[show HT.sIx xs.length 0 (some 1)=min 1 xs.length from HT.sIx_nat _ _ 1,HT.sIx_none]
  cases xs with
  | nil=>rfl
  | cons x xs=>
    rw[show min 1 (x::xs).length=1 by rw[List.length_cons];omega]
    exact List.take_of_length_le (by rw[List.length_drop];exact Nat.le_refl _)
theorem enum_bits (n m:Nat):enumI (bitsOf n m)=(List.range n).map fun i=>(((i:Nat):Int),bitI m i):=by
  unfold enumI bitsOf
  refine List.ext_getElem (by simp) fun i h1 h2=> ?_
  simp
theorem sli_take {α:Type} (xs:List α) {i:Int} (h0:0≤i):sli xs none (some i)=xs.take i.toNat:=by
  obtain⟨k,rfl⟩:=Int.eq_ofNat_of_zero_le h0
  unfold sli
  rw[HT.sIx_nat,HT.sIx_none,List.drop_zero,Nat.sub_zero,Int.toNat_natCast]
  by_cases h:k≤xs.length
  · rw[Nat.min_eq_left h]
  · rw[Nat.min_eq_right (by omega),List.take_of_length_le (Nat.le_refl _),List.take_of_length_le (by omega)]
def Spec (m:W K α) (S:Store K) (P:α→Prop):Prop:= ∀Q E,(∀y,P y→Q y S)→m Q E S
theorem Spec.ap {m:W K β} {k:β→W K α} {P:β→Prop} (h:Spec m S P) (g: ∀y,P y→k y Q E S):(bnd m k) Q E S:=h _ _ g
variable {P : α → Prop}
theorem Spec.ret {x:α} (h:P x):Spec (TL.ret x) S P:=fun Q E q=>q x h
theorem Spec.bnd {m:W K β} {k:β→W K α} {R:β→Prop} (h:Spec m S R) (g: ∀y,R y→Spec (k y) S P):Spec (TL.bnd m k) S P:=fun Q E q=>h _ _ fun y r=>g y r Q E q
theorem Spec.bndc {m:W K β} {k:β→W K α} {R:β→Prop} (h:Spec m S R) (g: ∀y,R y→Spec (k y) S P):Spec (TL.bnd (wCalm m) k) S P:=fun Q E q=>h _ _ fun y r=>g y r Q E q
theorem Spec.calm {m:W K α} (h:Spec m S P):Spec (wCalm m) S P:=fun Q E q=>h _ _ q
theorem Spec.ite {b:Bool} {m n:W K α} (h:b=true→Spec m S P) (g:b=false→Spec n S P):Spec (wIf b m n) S P:=by
  cases b with
  | true=>rw[if_t];exact h rfl
  | false=>rw[if_f];exact g rfl
theorem Spec.ass {c:Prop} {m:W K α} (hc:c) (h:Spec m S P):Spec (wAss c m) S P:=fun Q E q=>⟨hc,h Q E q⟩
theorem Spec.imp {m:W K α} {R:α→Prop} (h:Spec m S R) (g: ∀x,R x→P x):Spec m S P:=fun Q E q=>h Q E fun y r=>q y (g y r)
theorem Spec.eq {m:W K α} {x:α} (h:Spec m S (· =x)) (q:P x):Spec m S P:=h.imp fun _ e=>e ▸ q
theorem Spec.ix {xs:List α} {i:Int} (h0:0≤i) (h:i<xs.length):Spec (wIx xs i) S (fun y=>y∈xs):=fun Q E q=>by
  have hi:i.toNat<xs.length:=by omega
  exact⟨h0,xs[i.toNat],List.getElem?_eq_getElem hi,q _ (List.getElem_mem _)⟩
def All2 (P:α→β→Prop):List α→List β→Prop
  | [],ys=>ys= []
  | x::xs,ys=> ∃y r,ys=y::r∧P x y∧All2 P xs r
theorem All2.len {P:α→β→Prop}: ∀ {xs:List α} {ys:List β},All2 P xs ys→ys.length=xs.length
  | [],_,h=>by cases h;rfl
  | _::_,_,⟨y,r,e,_,h⟩=>by subst e;rw[List.length_cons,List.length_cons,h.len]
theorem All2.mem {P:α→β→Prop} {y:β}: ∀ {xs:List α} {ys:List β},All2 P xs ys→y∈ys→ ∃x∈xs,P x y
  | [],_,h,m=>by cases h;simp at m
  | x::xs,_,⟨z,r,e,p,h⟩,m=>by
    subst e
    rcases List.mem_cons.mp m with rfl | m
    · exact⟨x,List.mem_cons_self,p⟩
    · obtain⟨x',m',p'⟩:=h.mem m
      exact⟨x',List.mem_cons_of_mem _ m',p'⟩
theorem All2.map {P:α→β→Prop} {f:α→γ} {g:β→γ} (hf: ∀x y,P x y→f x=g y): ∀ {xs:List α} {ys:List β},All2 P xs ys→xs.map f=ys.map g
  | [],_,h=>by cases h;rfl
  | x::xs,_,⟨z,r,e,p,h⟩=>by rw[e,List.map_cons,List.map_cons,hf _ _ p,All2.map hf h]
theorem All2.of {P:α→β→Prop} {f:α→β}: ∀ {xs:List α},(∀x∈xs,P x (f x))→All2 P xs (xs.map f)
  | [],_=>rfl
  | x::xs,h=>⟨f x,xs.map f,rfl,h x List.mem_cons_self,All2.of fun y m=>h y (List.mem_cons_of_mem _ m)⟩
theorem All2.swap {δ:Type} {P:α→γ→Prop} {R:β→δ→Prop} {g:δ→α} {F:γ→β}: ∀ {ms:List δ} {ys:List γ},All2 P (ms.map g) ys→(∀m∈ms,∀y,P (g m) y→R (F y) m)→All2 R (ys.map F) ms
  | [],_,h,_=>by cases h;rfl
  | m::ms,_,⟨y,r,e,p,h⟩,k=>by
    subst e
    exact⟨m,ms,rfl,k m List.mem_cons_self y p,All2.swap h fun z hz=>k z (List.mem_cons_of_mem _ hz)⟩
theorem All2.imp {P R:α→β→Prop} (hf: ∀x y,P x y→R x y): ∀ {xs:List α} {ys:List β},All2 P xs ys→All2 R xs ys
  | [],_,h=>h
  | x::xs,_,⟨z,r,e,p,h⟩=>⟨z,r,e,hf _ _ p,h.imp hf⟩
theorem Spec.fmap {f:α→W K β} {P:α→β→Prop}: ∀ {xs:List α},(∀x∈xs,Spec (f x) S (P x))→Spec (fmapW nI (fun _=>TL.ret true) f xs) S (All2 P xs)
  | [],_=>fun Q E q=>⟨trivial,q _ rfl⟩
  | x::xs,h=>fun Q E q=>⟨trivial,by
    have ih:=Spec.fmap (xs:=xs) fun y m=>h y (List.mem_cons_of_mem _ m)
    rw[ret_bnd,if_t]
    exact h x List.mem_cons_self _ _ fun y p=>ih _ _ fun ys ps=>q _ ⟨y,ys,rfl,p,ps⟩⟩
theorem Spec.filt {c:α→W K Bool}: ∀ {xs:List α},(∀x∈xs,Spec (c x) S (fun _=>True))→Spec (fmapW nI c (fun x=>TL.ret x) xs) S (fun ys=>ys.Sublist xs)
  | [],_=>fun Q E q=>⟨trivial,q _ (List.Sublist.refl _)⟩
  | x::xs,h=>fun Q E q=>⟨trivial,by
    have ih:=Spec.filt (xs:=xs) fun y m=>h y (List.mem_cons_of_mem _ m)
    refine h x List.mem_cons_self _ _ fun b _=> ?_
    cases b with
    | true=>exact if_t (K:=K) _ _ ▸ ih _ _ fun ys ps=>q _ (ps.cons_cons _)
    | false=>exact if_f (K:=K) _ _ ▸ ih _ _ fun ys ps=>q _ (ps.cons _)⟩
def LQ (N:T→Store K→Prop) (Q:Flow T ρ→Store K→Prop):Flow T ρ→Store K→Prop
  | .nx s,S=>N s S
  | .bk s,S=>Q (.nx s) S
  | .rt y,S=>Q (.rt y) S
theorem for_ap {I:Store K→Prop} {f:α→T→W K (Flow T ρ)} {Q:Flow T ρ→Store K→Prop} (J:Nat→T→Store K→Prop) {xs:List α}
    (st: ∀i x s S N,xs[i]?=some x→J i s S→(∀s S,J (i+1) s S→N s S)→I S∧f x s (LQ N Q) E S)
    (en: ∀s S,J xs.length s S→I S∧Q (.nx s) S) {s:T} {S:Store K} (h0:J 0 s S):forW I f xs s Q E S:=by
  have go: ∀(zs:List α) (n:Nat),(∀i x,zs[i]?=some x→xs[n+i]?=some x)→n+zs.length=xs.length→ ∀s S,J n s S→forW I f zs s Q E S:=by
    intro zs
    induction zs with
    | nil=>intro n _ hn s S h;exact en s S (by rw[← hn];exact h)
    | cons z zs ih=>
      intro n hz hn s S h
      have hf:=st n z s S (fun s' S'=>forW I f zs s' Q E S') (hz 0 z rfl) h (fun s' S' g=>ih (n+1) (fun i x e=>by rw[show n+1+i=n+(i+1) by omega];exact hz (i+1) x (by simpa using e)) (by rw[List.length_cons] at hn;omega) s' S' g)
      refine⟨hf.1,?_⟩
      have e:(LQ (fun s' S'=>forW I f zs s' Q E S') Q)=(fun q S'=>match q with | .nx s'=>forW I f zs s' Q E S' | .bk s'=>Q (.nx s') S' | .rt y=>Q (.rt y) S'):=by
        funext q S';cases q <;> rfl
      have h2:=hf.2
      rw[e] at h2
      exact h2
  exact go xs 0 (fun i x e=>by rw[Nat.zero_add];exact e) (by omega) s S h0
theorem Spec.try {m:W K α} {h:Err K→W K α} (g:Spec m S P):Spec (wTry m h) S P:=fun Q E q=>g _ _ q
theorem setF_ap {C a:Addr} {f:Str} {d:Dm K} {k:W K α} {fs:List (Str×Dm K)} (e:S a=some (.ins C fs)) (l:fs.length<1000) (h:k Q E (S.set a (.ins C (setF f d fs)))):wSetF C f a d k Q E S:=⟨fs,e,l,h⟩
theorem fmap_ap {I:Store K→Prop} {c:α→W K Bool} {f:α→W K β} {Q:List β→Store K→Prop} (J:Nat→List β→Store K→Prop) {xs:List α}
    (st: ∀i x ys S N,xs[i]?=some x→J i ys S→(∀zs S,J (i+1) zs S→N zs S)→I S∧(TL.bnd (c x) fun b=>wIf b (TL.bnd (f x) fun y=>TL.ret (ys++ [y])) (TL.ret ys)) N E S)
    (en: ∀ys S,J xs.length ys S→I S∧Q ys S) {S:Store K} (h0:J 0 [] S):fmapW I c f xs Q E S:=by
  have go: ∀(zs:List α) (n:Nat),(∀i x,zs[i]?=some x→xs[n+i]?=some x)→n+zs.length=xs.length→ ∀ys S,J n ys S→fmapW I c f zs (fun r S=>Q (ys++r) S) E S:=by
    intro zs
    induction zs with
    | nil=>intro n _ hn s S h;have:=en s S (by rw[← hn];exact h);exact⟨this.1,by show Q (s++ []) S;rw[List.append_nil];exact this.2⟩
    | cons z zs ih=>
      intro n hz hn ys S h
      have hf:=st n z ys S (fun ys' S'=>fmapW I c f zs (fun r S=>Q (ys'++r) S) E S') (hz 0 z rfl) h (fun s' S' g=>ih (n+1) (fun i x e=>by rw[show n+1+i=n+(i+1) by omega];exact hz (i+1) x (by simpa using e)) (by rw[List.length_cons] at hn;omega) s' S' g)
      refine⟨hf.1,?_⟩
      have h2:=hf.2
      have e:(fun b=>(wIf b (TL.bnd (f z) fun y=>TL.ret (ys++ [y])) (TL.ret ys)) (fun ys' S'=>fmapW I c f zs (fun r S=>Q (ys'++r) S) E S') E)=
          (fun b=>(wIf b (TL.bnd (f z) fun y=>TL.bnd (fmapW I c f zs) fun ys=>TL.ret (y::ys)) (fmapW I c f zs)) (fun r S=>Q (ys++r) S) E):=by
        funext b S'
        cases b with
        | true=>rw[if_t,if_t];show f z _ E S'=f z _ E S';congr 1;funext y S2;show fmapW I c f zs _ E S2=fmapW I c f zs _ E S2;congr 1;funext r S3;show Q _ S3=Q _ S3;rw[List.append_assoc];rfl
        | false=>rw[if_f,if_f];rfl
      have h3:c z (fun b=>(wIf b (TL.bnd (f z) fun y=>TL.ret (ys++ [y])) (TL.ret ys)) (fun ys' S'=>fmapW I c f zs (fun r S=>Q (ys'++r) S) E S') E) E S:=h2
      rw[e] at h3
      exact h3
  exact go xs 0 (fun i x e=>by rw[Nat.zero_add];exact e) (by omega) [] S h0
theorem mkfrz {C:Addr} {τ:Type} {w:Addr×τ→W K Unit} {fs:α→List (Str×Dm K)} {x:τ}
    (h: ∀a,S a=none→w (a,x) (fun _ S'=> ∃y,S' a=some (.ins C (fs y))∧Q y (S'.del a)) (fun e S'=>E e (S'.del a)) (S.set a (.ins C []))):(TL.bnd (wMk C w x) (wFrz C fs)) Q E S:=h
theorem while_ap {c:T→W K Bool} {f:T→W K (Flow T ρ)} {Q:Flow T ρ→Store K→Prop} {s0:T} {S0:Store K} (I:Nat→T→Store K→Prop) (n:Nat) (h0:I n s0 S0)
    (st: ∀n s S,I n s S→ ∃b,(∀R:Bool→Store K→Prop,R b S→c s R E S)∧(b=true→ ∀N:T→Store K→Prop,(∀s' S' n',n'<n→I n' s' S'→N s' S')→f s (LQ N Q) E S)∧(b=false→Q (.nx s) S)):whileW c f s0 Q E S0:=by
  refine⟨I,⟨n,h0⟩,fun n s S h=> ?_⟩
  obtain⟨b,h1,h2,h3⟩:=st n s S h
  refine h1 _ ?_
  cases b with
  | true=>
    show f s _ E S
    have e:(LQ (fun s' S'=> ∃n',n'<n∧I n' s' S') Q)=(fun q S'=>match q with | .nx s'=> ∃n',n'<n∧I n' s' S' | .bk s'=>Q (.nx s') S' | .rt y=>Q (.rt y) S'):=by
      funext q S';cases q <;> rfl
    exact e ▸ h2 rfl _ fun s' S' n' l i=>⟨n',l,i⟩
  | false=>exact h3 rfl
theorem while_eq {b:T→Bool} {g:T→T} {f:T→W K (Flow T ρ)} {Q:Flow T ρ→Store K→Prop} (J:T→Prop) (μ:T→Nat) (hf: ∀s,J s→b s=true→f s=ret (.nx (g s))∧J (g s)∧μ (g s)<μ s) {s0:T} {S0:Store K} (h0:J s0)
    (q: ∀s,J s→b s=false→Q (.nx s) S0):whileW (fun s=>ret (b s)) f s0 Q E S0:=
  while_ap (fun n s S=>S=S0∧J s∧n=μ s) (μ s0) ⟨rfl,h0,rfl⟩ fun n s S ⟨hS,hJ,hn⟩=>⟨b s,fun R r=>r,fun hb N hN=>by
    obtain⟨e,j,l⟩:=hf s hJ hb
    rw[e]
    exact hN _ _ _ (by omega) ⟨hS,j,rfl⟩,fun hb=>hS ▸ q s hJ hb⟩
theorem thaw_ap {r:β→Dm K} {xs:List β} {k:Addr→W K α} (h: ∀a,S a=none→k a Q E (S.set a (.lst (xs.map r)))):(TL.bnd (wThaw r xs) k) Q E S:=h
theorem pk_ap {a:Addr} {r:β→Dm K} {c:List β→W K α} {xs:List β} (e:S a=some (.lst (xs.map r))) (h:c xs Q E S):wPk r a c Q E S:=⟨xs,e,h⟩
theorem map_erase {r:α→β}: ∀(xs:List α) (n:Nat),(xs.map r).eraseIdx n=(xs.eraseIdx n).map r
  | [],_=>rfl
  | _::_,0=>rfl
  | x::xs,n+1=>congrArg (r x:: ·) (map_erase xs n)
theorem pop_ap {a:Addr} {r:β→Dm K} {i:Int} {c:β→W K α} {xs:List β} {x:β} (e:S a=some (.lst (xs.map r))) (h0:0≤i) (h1:i<50000) (g:xs[i.toNat]?=some x) (h:c x Q E (S.set a (.lst ((xs.eraseIdx i.toNat).map r)))):(TL.bnd (wPop r a i) c) Q E S:=
  ⟨_,x,e,h0,h1,by rw[List.getElem?_map,g];rfl,by show c x Q E (S.set a (.lst ((xs.map r).eraseIdx i.toNat)));rw[map_erase];exact h⟩
def Ext (S S':Store K):Prop:= ∀p c,S p=some c→S' p=some c
theorem Ext.refl:Ext S S:=fun _ _ h=>h
theorem Ext.trans {S1 S2:Store K} (a:Ext S S1) (b:Ext S1 S2):Ext S S2:=fun p c h=>b p c (a p c h)
theorem Ext.set {a:Addr} {c:Cell K} (h:S a=none):Ext S (S.set a c):=fun p d e=>by
  rw[set_ne (fun z=>by rw[z,h] at e;cases e)];exact e
theorem Ext.over {S1:Store K} {a:Addr} {c:Cell K} (x:Ext S S1) (h:S a=none):Ext S (S1.set a c):=fun p d e=>by
  rw[set_ne (fun z=>by rw[z,h] at e;cases e)];exact x p d e
theorem Ext.del {S1:Store K} {a:Addr} (x:Ext S S1) (h:S a=none):Ext S (S1.del a):=fun p d e=>by
  rw[del_ne (fun z=>by rw[z,h] at e;cases e)];exact x p d e
def SpecX (m:W K α) (S:Store K) (P:α→Prop):Prop:= ∀Q E,(∀y S',Ext S S'→P y→Q y S')→m Q E S
theorem Spec.x {m:W K α} (h:Spec m S P):SpecX m S P:=fun Q E q=>h _ _ fun y r=>q y S Ext.refl r
theorem SpecX.ap {m:W K β} {k:β→W K α} {P:β→Prop} (h:SpecX m S P) (g: ∀y S',Ext S S'→P y→k y Q E S'):(TL.bnd m k) Q E S:=h _ _ g
theorem SpecX.ret {x:α} (h:P x):SpecX (TL.ret x) S P:=fun Q E q=>q x S Ext.refl h
theorem SpecX.bnd {m:W K β} {k:β→W K α} {R:β→Prop} (h:SpecX m S R) (g: ∀y S',Ext S S'→R y→SpecX (k y) S' P):SpecX (TL.bnd m k) S P:=fun Q E q=>h _ _ fun y S' x r=>g y S' x r Q E fun z S2 x2 p=>q z S2 (x.trans x2) p
theorem SpecX.bndc {m:W K β} {k:β→W K α} {R:β→Prop} (h:SpecX m S R) (g: ∀y S',Ext S S'→R y→SpecX (k y) S' P):SpecX (TL.bnd (wCalm m) k) S P:=fun Q E q=>h _ _ fun y S' x r=>g y S' x r Q E fun z S2 x2 p=>q z S2 (x.trans x2) p
theorem SpecX.sb {m:W K β} {k:β→W K α} {R:β→Prop} (h:Spec m S R) (g: ∀y,R y→SpecX (k y) S P):SpecX (TL.bnd m k) S P:=fun Q E q=>h _ _ fun y r=>g y r Q E q
theorem SpecX.calm {m:W K α} (h:SpecX m S P):SpecX (wCalm m) S P:=fun Q E q=>h _ _ q
theorem SpecX.ite {b:Bool} {m n:W K α} (h:b=true→SpecX m S P) (g:b=false→SpecX n S P):SpecX (wIf b m n) S P:=by
  cases b with
  | true=>rw[if_t];exact h rfl
  | false=>rw[if_f];exact g rfl
theorem SpecX.ass {c:Prop} {m:W K α} (hc:c) (h:SpecX m S P):SpecX (wAss c m) S P:=fun Q E q=>⟨hc,h Q E q⟩
theorem SpecX.imp {m:W K α} {R:α→Prop} (h:SpecX m S R) (g: ∀x,R x→P x):SpecX m S P:=fun Q E q=>h Q E fun y S' x r=>q y S' x (g y r)
theorem SpecX.fmap {f:α→W K β} {P:α→β→Prop}: ∀ {xs:List α} {S:Store K},(∀x∈xs,∀S',Ext S S'→SpecX (f x) S' (P x))→SpecX (fmapW nI (fun _=>TL.ret true) f xs) S (All2 P xs)
  | [],S,_=>fun Q E q=>⟨trivial,q _ _ Ext.refl rfl⟩
  | x::xs,S,h=>fun Q E q=>⟨trivial,by
    rw[ret_bnd,if_t]
    exact h x List.mem_cons_self S Ext.refl _ _ fun y S1 x1 p=>SpecX.fmap (fun z m S2 x2=>h z (List.mem_cons_of_mem _ m) S2 (x1.trans x2)) _ _ fun ys S3 x3 ps=>q _ S3 (x1.trans x3) ⟨y,ys,rfl,p,ps⟩⟩
theorem seqD_is {d:PyData} {ds:List PyData} (h:seqD d=some ds):(isD d "list" || isD d "tuple")=true:=by
  cases d <;> first | rfl | cases h
end
def Shp (n:Nat) (d:PyData):Prop:=d.canLay0=true∧d.depth≤n
theorem Shp.shaped {n:Nat} {d:PyData} (h:Shp n d) (hn:n≤64):SeqAt.shaped d=true:=by
  unfold SeqAt.shaped
  rw[h.1,decide_eq_true (Nat.le_trans h.2 hn)];rfl
theorem shp_int {i:Int} {n:Nat}:Shp n (.int i):=⟨by simp[PyData.canLay0],by simp[PyData.depth]⟩
theorem shp_all {n:Nat}: ∀ {ds:List PyData},(∀d∈ds,Shp n d)→PyData.canLayAll0 ds=true∧PyData.depthAll ds≤n
  | [],_=>⟨by simp[PyData.canLayAll0],by simp[PyData.depthAll]⟩
  | d::ds,h=>by
    have h1:=h d List.mem_cons_self
    have h2:=shp_all (ds:=ds) fun e m=>h e (List.mem_cons_of_mem _ m)
    exact⟨by simp[PyData.canLayAll0,h1.1,h2.1],by simp only[PyData.depthAll];exact Nat.max_le.mpr ⟨h1.2,h2.2⟩⟩
theorem shp_lst {n:Nat} {ds:List PyData} (h: ∀d∈ds,Shp n d):Shp (n+1) (.list ds):=
  ⟨by simp[PyData.canLay0,(shp_all h).1],by simp only[PyData.depth];exact Nat.succ_le_succ (shp_all h).2⟩
theorem shp_ints (ns:List Int):Shp 1 (.list (ns.map .int)):=shp_lst fun d h=>by obtain⟨_,_,rfl⟩:=List.mem_map.mp h;exact shp_int
def EqC {α:Type} [DecidableEq α] (f:α→PyData):Prop:= ∀a b,PyData.eqv (f a) (f b)=decide (a=b)
theorem eqc_int:EqC PyData.int:=fun a b=>by simp[PyData.eqv];rfl
theorem eqv_same {d:PyData} {n:Nat} (h:Shp n d):PyData.eqv d d=true:=PySem.SeqAt.eqv_refl d h.1
section
variable {X : Cx} {K : PySem.W.Frag} {T ρ : Type}
end
end TL

set_option Elab.async false
set_option linter.all false
set_option maxRecDepth 100000
set_option maxHeartbeats 2000000
namespace PC
open PySem PySem.SeqAt PySem.Spec PyProof.Rows L2
open AutoSeq1 (wpAny_loadPart')
open MeetsSeq MeetsSeq2 MeetsSeq3 SeqRoads2
section
variable {prog : Program} {w : World} {A : Around} {R : Result → Shared → Prop}
theorem ne_turns (p q:Addr) (N:Nat) (J:Nat→Shared→Prop) (each:GQ.ListI prog w A (fun x t=>R (.error x) t) p q N J) (last: ∀t,J N t→R (.ok (.ret (.bool false))) t):
    ∀(m i:Nat),N - i=m→i≤N→ ∀t,J i t→wpAny (model prog w) A.in1 (Builtin.«list.__eq__.loop» ⟨[.ref p,.ref q,rawInt i,rawInt 3],[]⟩) (GQ.FinOf prog w A R) (fun x t=>R (.error x) t) t
  | 0,i,em,le,t,now=>by
    obtain⟨us,vs,ku,kv,stp,stq,nu,nv,-⟩:=each i t now
    obtain rfl:i=N:=by omega
    have goal:=last t now
    obtain⟨x1,x2,x3,x4,x5⟩:=t
    wp_walk using wpAny_loadPart' stp,wpAny_loadPart' stq
    rw[show us[((i:Nat):Int).toNat]?=none by simp;omega,show vs[((i:Nat):Int).toNat]?=none by simp;omega]
    wp_walk using wpAny_loadPart' stp,wpAny_loadPart' stq
    show R (.ok (.ret (.bool (us.size !=vs.size)))) _
    simpa [nu,nv] using goal
  | m+1,i,em,le,t,now=>by
    obtain⟨us,vs,ku,kv,stp,stq,nu,nv,two⟩:=each i t now
    have iu:i<us.size:=by omega
    have iv:i<vs.size:=by omega
    have told:=two iu iv
    obtain⟨x1,x2,x3,x4,x5⟩:=t
    wp_walk using wpAny_loadPart' stp,wpAny_loadPart' stq
    rw[show us[((i:Nat):Int).toNat]?=some us[i] by simp[iu],show vs[((i:Nat):Int).toNat]?=some vs[i] by simp[iv]]
    refine wpAny_bind (wpAny_mono told (fun z t2 both=> ?_) fun _ _ err=>err)
    obtain⟨rfl,now2⟩:=both
    have more:=ne_turns p q N J each last m (i+1) (by omega) (by omega) t2 now2
    obtain⟨y1,y2,y3,y4,y5⟩:=t2
    wp_walk
    rw[show ((i:Int)+1)=((i+1:Nat):Int) by omega]
    refine⟨plainId_quiet plain_eq_loop _,codeAny_builtin entry_eq_loop ?_⟩
    rw[Around.under_plainId plain_eq_loop _]
    exact more
theorem ne_lists {E:Value→Shared→Prop} {t:Shared} {p q:Addr} {N:Nat} {Q:Value→Shared→Prop} (room:A.units<cLine) (J:Nat→Shared→Prop) (each:GQ.ListI prog w A E p q N J)
    (last: ∀t,J N t→Q (.bool false) t) (now:J 0 t):wpAny (model prog w) A (richCompare .NotEq (.ref p) (.ref q)) Q E t:=by
  obtain⟨us,vs,ku,kv,stp,stq,nu,nv,-⟩:=each 0 t now
  refine wpAny_richCompare_same_room (op:= .NotEq) ⟨_,stp,rfl⟩ ⟨_,stq,rfl⟩ F.slot_list_ne (GQ.call_here F.slot_list_ne ⟨_,stp,rfl⟩ F.entry_list_ne (F.args_list_ne_2 _ _) ?_) room
  have run:=ne_turns (A:=A) (R:=wants (fun v u=>v≠ .notImplemented∧Q v u) E) p q N J each (fun u h=>⟨nofun,last u h⟩) N 0 rfl (Nat.zero_le _) t now
  obtain⟨x1,x2,x3,x4,x5⟩:=t
  have sub:=AutoSeq1.sub_list_list
  have same: ¬ (us.size !=vs.size)=true:=by simp[nu,nv]
  wp_walk using wpAny_loadPart' stp,wpAny_loadPart' stq
  refine⟨plainId_quiet plain_eq_loop _,codeAny_builtin entry_eq_loop ?_⟩
  rw[Around.under_plainId plain_eq_loop _]
  exact run
end
end PC
namespace PC
open PySem PySem.Spec PyProof.Rows L2
section
variable {X : Cx} {k : Nat} {f C : Addr} {fd : FuncData} {ps : List Str} {sp : Sp}
end
end PC
namespace TL
open PySem PySem.Spec PyProof.Rows L2 PC
section
variable {K : PySem.W.Frag} {α : Type}
end
end TL
namespace PC
open PySem PySem.Spec PyProof.Rows L2
end PC
namespace TL
open PySem PySem.Spec PyProof.Rows L2 PC
section
variable {K : PySem.W.Frag} {ε : WX} {G : Gm K}
end
end TL
namespace TL
open PySem PySem.Spec PyProof.Rows L2 PC
end TL
namespace PC
open PySem PySem.Spec PyProof.Rows L2
def rEqE (b:Bool):R2:=fun x y H Q=> ∃p q xs,x= .ref p∧y= .ref q∧H p=some (.lst xs)∧H q=some (.lst [])∧Q (.bl (if b then xs.isEmpty else !xs.isEmpty)) H
theorem op_neE {X:Cx} {k:Nat} (hr:Room k X.A):OpR X (compareOp .NotEq) (rEqE false):=by
  intro pins s σ H x y v u Q I rx ry h
  obtain⟨p,q,xs,rfl,rfl,hp,hq,h⟩:=h
  cases (show v=Value.ref p from rx)
  cases (show u=Value.ref q from ry)
  obtain⟨_,us,n1,r1,e1⟩:=I.hok p _ hp
  obtain⟨_,vs,n2,r2,e2⟩:=I.hok q _ hq
  have l1:=r1.length
  have l2:=r2.length
  cases xs with
  | nil=>
    refine ne_lists (N:=0) hr.units0 (fun _ t=>t=s) ?_ ?_ rfl
    · rintro i _ rfl
      exact⟨us.toArray,vs.toArray,n1,n2,e1,e2,by simpa using l1.symm,by simpa using l2.symm,fun h1=>by simp[← l1] at h1⟩
    · rintro _ rfl
      exact⟨.bl false,H,I,rfl,h⟩
  | cons z zs=>
    exact PySem.SeqAt.RcNeAt.lists_lengths (items:=us.toArray) (items2:=vs.toArray) ⟨_,e1,rfl,_,rfl⟩ ⟨_,e2,rfl,_,rfl⟩ (by simp[← l1,← l2]) hr.units0 _ _ _ _ ⟨.bl true,H,I,rfl,h⟩
end PC
namespace TL
open PySem PySem.Spec PyProof.Rows L2 PC
section
variable {K : PySem.W.Frag} {α : Type}
theorem os_neEC:OpS K (rEqE false) kRef (kL kPy) kB (fun a y=>wAss (y= []) (bnd (wLenC a) fun n=>ret (!decide (n=0)))):=by
  rintro S F H a y v u Q Qp Ep wd hv ⟨q,ys,rfl,zq,hq,lq⟩ ⟨rfl,ds,ea,hf⟩ hQ
  cases (show v= .ref a from hv)
  obtain⟨vs,e1,l⟩:=wd.cell _ _ ea
  cases lq
  refine⟨a,q,vs,rfl,rfl,e1,hq,?_⟩
  have e:vs.isEmpty=decide ((ds.length:Int)=0):=by
    have:=l.length
    cases vs with
    | nil=>exact (decide_eq_true (by rw[← this];rfl)).symm
    | cons _ _=>exact (decide_eq_false (by rw[← this,List.length_cons];omega)).symm
  rw[if_neg (by decide),e]
  exact hQ _ S H _ hf (.refl wd) mk_bl
end
end TL
namespace TL
open PySem PySem.Spec PyProof.Rows L2 PC
section
variable {K : PySem.W.Frag} {α β : Type} {S : Store K} {Q : α → Store K → Prop} {E : Err K → Store K → Prop}
theorem app_ap {a:Addr} {r:β→Dm K} {xs:List β} {x:β} {k:W K α} (e:S a=some (.lst (xs.map r))) (l:xs.length<50000) (h:k Q E (S.set a (.lst ((xs++ [x]).map r)))):(wApp a (r x) k) Q E S:=
  ⟨_,e,by rw[List.length_map];exact l,by rw[List.map_append] at h;exact h⟩
end
end TL
namespace TL
open PySem PySem.Spec PyProof.Rows L2 PC
section
variable {K : PySem.W.Frag} {α : Type} {ε : WX} {G : Gm K}
def wSome (o:Option α):W K α:=fun Q _ S=> ∃y,o=some y∧Q y S
theorem some_bnd {β:Type} (y:α) (k:α→W K β):bnd (wSome (some y)) k=k y:=by
  funext Q E S
  exact propext ⟨fun⟨_,e,h⟩=>by cases e;exact h,fun h=>⟨y,rfl,h⟩⟩
end
end TL
namespace TL
open PySem PySem.Spec PyProof.Rows L2 PC
section
variable {K : PySem.W.Frag} {α : Type}
end
end TL
namespace TL
open PySem PySem.Spec PyProof.Rows L2 PC
section
variable {K : PySem.W.Frag} {α : Type} {S : Store K}
end
end TL

set_option Elab.async false
set_option linter.all false
set_option maxRecDepth 100000
set_option maxHeartbeats 2000000
namespace PC
open PySem PySem.Spec PyProof.Rows L2
section
variable {prog : Program} {w : World} {A : Around} {E : Value → Shared → Prop} {s : Shared}
end
end PC

namespace TL
open PySem PySem.Spec PyProof.Rows L2 PC
section
variable {K : PySem.W.Frag} {ε : WX} {G : Gm K} {α β : Type}
end
end TL

namespace PC
open PySem PySem.Spec PyProof.Rows L2
section
variable {X : Cx} {pos p2 : Pos}
end
end PC
namespace TL
open PySem PySem.Spec PyProof.Rows L2 PC
section
variable {K : PySem.W.Frag} {ε : WX} {G : Gm K} {α β : Type}
end
end TL
namespace TL
open PySem PySem.Spec PyProof.Rows L2 PC
section
variable {K : PySem.W.Frag} {ε : WX} {G : Gm K} {α β : Type}
theorem Wd.same {S:Store K} {F:Pl} {H H':Hp} (w:Wd S F H) (s:Same H H'):Nxt S F H S H':=by
  refine⟨⟨fun b o _ e=>s b o e,fun _ z=> .inl z,fun b z=> ?_⟩,⟨?_,fun a c e=>(w.cell a c e).up (Stp.same s) (fun o q=>s a o q),fun a z=>(w.foc a z).keep fun o q=>s a o q,w.dis⟩⟩
  · cases e:H b with
    | none=>exact absurd e z
    | some o=>rw[s b o e];exact nofun
  · obtain⟨o,u,e⟩:=w.one
    exact⟨o,u,s _ _ e⟩
end
end TL
namespace TL
open PySem PySem.Spec PyProof.Rows L2 PC
section
variable {K : PySem.W.Frag}
end
end TL
namespace TL
open PySem PySem.Spec PyProof.Rows L2 PC
section
variable {K : PySem.W.Frag} {ε : WX} {G : Gm K} {α β : Type}
end
end TL
namespace TL
open PySem PySem.Spec PyProof.Rows L2 PC
section
variable {K : PySem.W.Frag} {ε : WX} {G : Gm K} {α β γ : Type}
def kX (r:α→Dm K):List α→Dm K:=fun xs=>dP (xs.map r)
theorem co_XT {r:α→Dm K}:Co (kX r) (kT r) id:=fun _ _ _ _ h=>dP_dT h
theorem cb_tupleLX {r:α→Dm K}:CalB K (rTuple K) (fun x:List α×Unit=> [kL r x.1]) (kX r) (fun x=>ret x.1):=by
  intro S F H x vs Q Qp Ep wd h hf hQ
  obtain⟨v,rfl,⟨a,xs,rfl,n,s,l⟩⟩:=at1 h
  exact⟨a,xs,rfl,.inl ⟨.inl (.inl s),new_tup wd l fun H' v r' h=>hQ _ S H' v hf r' h⟩⟩
end
section
variable {K : PySem.W.Frag} {ε : WX} {G : Gm K} {α β : Type} {T ρ : Type} {Gh : Option (Gm K)} {Gof : T → Gm K} {rr : ρ → Dm K} {ts : List TS} {te to ti : TE} {r : α → Dm K} {rk : β → Dm K} {m : W K α} {mo : W K Addr} {mi : W K β} {k : W K (Flow T ρ)}
end
section
variable {K : PySem.W.Frag} {α β γ : Type} {S : Store K} {E : Err K → Store K → Prop}
theorem putT_out (a:Addr) (i:List Key) (d:Dm K) (k:W K (Flow Unit α)) (l:Option α):outW (wPutT a i d k) l=wPutT a i d (outW k l):=id rfl
end
end TL
namespace TL
open PySem PySem.Spec PyProof.Rows L2 PC
section
variable {K : PySem.W.Frag}
end
end TL

set_option Elab.async false
set_option linter.all false
set_option maxRecDepth 100000
set_option maxHeartbeats 2000000
namespace TL
open PySem PySem.Spec PyProof.Rows L2 PC
section
variable {K : PySem.W.Frag} {ε : WX} {G : Gm K} {α β γ τ : Type} {S : Store K}
theorem sim_dnewP:Sim ε G tDNewK kPy (ret (PyData.dict [])):=by
  intro S F σ H Q Qp Ep w s hm hQ hE d hd
  refine hQ _ S _ _ hm (w.new hd) ?_
  show DatP K _ _ (.dict []) _
  simp only[DatP]
  exact⟨d,[],rfl,w.free hd,upd_same,by simp only[DatPK]⟩
def kCls:Value→Dm K:=fun u=>⟨fun _ _ v=>ClsV v u,fun _ h=>h⟩
theorem sim_clsR {C:Addr}:Sim ε G (tC (.ref C)) kCls (ret (Value.ref C)):=fun S F σ H Q Qp Ep w s hm hQ _=>hQ _ S H _ hm (.refl w) (ClsV.own _)
theorem sim_clsT {T:String}:Sim ε G (tC (.ty T)) kCls (ret (Value.type T)):=fun S F σ H Q Qp Ep w s hm hQ _=>hQ _ S H _ hm (.refl w) (ClsV.ty _)
def wIsE (e:Err K) (u:Value):W K Bool:=fun Q _ S=>ErrQ K e.1∧ClsQ K∧ ∃b,PySem.W.kitOne K (.ref e.1) u=some b∧Q b S
def wIsGo (e:Err K):List Value→W K Bool
  | []=>ret false
  | u::us=>bnd (wIsE e u) fun b=>wIf b (ret true) (wIsGo e us)
def wIsEs (e:Err K) (us:List Value):W K Bool:=fun Q E S=>ErrQ K e.1∧ClsQ K∧wIsGo e us Q E S
theorem cb_isE {a:Addr} {k:Value} {d:Option Addr}:CalB K (rIsErr K a k d) (fun x:Err K×Value×Unit=> [kErr a k d x.1,kCls x.2.1]) kB (fun x=>wIsE x.1 x.2.1):=by
  intro S F H x vs Q Qp Ep wd h ⟨hq,hc,b,hb,hQ⟩ q
  obtain⟨v,w,rfl,⟨rfl,hk,dd,kvs,hd,_,hH,_⟩,hw⟩:=at2 h
  exact⟨x.1.1,w,b,dd,kvs,rfl,hk,hd,hH,hq,hc,.inl ⟨_,hw,hb⟩,q b S H _ hQ (.refl wd) mk_bl⟩
theorem isE_of {C:Addr} {fs:List (Str×Dm K)} {u:Value} {b:Bool} (q:ErrQ K C) (c:ClsQ K) (h:PySem.W.kitOne K (.ref C) u=some b):wIsE (C,fs) u=ret b:=by
  funext Q E S
  refine propext ⟨fun⟨_,_,b',hb,hQ⟩=> ?_,fun hQ=>⟨q,c,b,h,hQ⟩⟩
  have:b'=b:=by
    have e:some b'=some b:=hb.symm.trans h
    exact Option.some.inj e
  subst this;exact hQ
theorem isEs_of {C:Addr} {fs:List (Str×Dm K)} {us:List Value} (q:ErrQ K C) (c:ClsQ K):wIsEs (C,fs) us=wIsGo (C,fs) us:=by
  funext Q E S
  exact propext ⟨fun h=>h.2.2,fun h=>⟨q,c,h⟩⟩
theorem isGo_nil {e:Err K}:wIsGo e []=ret false:=id rfl
theorem isGo_cons {e:Err K} {u:Value} {us:List Value}:wIsGo e (u::us)=bnd (wIsE e u) fun b=>wIf b (ret true) (wIsGo e us):=id rfl
theorem catch_y {C D:Addr} {fs:List (Str×Dm K)} {h n:Err K→W K α} (e:PySem.W.exmOne K (.ref C) (.ref D)=some true):wCatch D h n (C,fs)=h (C,fs):=by
  funext Q E S
  refine propext ⟨fun⟨b,hb,h1,_⟩=> ?_,fun hh=>⟨true,e,fun _=>hh,fun z=>nomatch z⟩⟩
  have:b=true:=Option.some.inj ((show some b=some true from hb.symm.trans e))
  exact h1 this
theorem catch_n {C D:Addr} {fs:List (Str×Dm K)} {h n:Err K→W K α} (e:PySem.W.exmOne K (.ref C) (.ref D)=some false):wCatch D h n (C,fs)=n (C,fs):=by
  funext Q E S
  refine propext ⟨fun⟨b,hb,_,h1⟩=> ?_,fun hh=>⟨false,e,fun z=>(nomatch z),fun _=>hh⟩⟩
  have:b=false:=Option.some.inj ((show some b=some false from hb.symm.trans e))
  exact h1 this
theorem xf_of {β:Type} {C:Addr} {f:Str} {s:β→Dm K} {fs:List (Str×Dm K)} {x:β} {k:β→W K α} {Q:α→Store K→Prop} {E:Err K→Store K→Prop} (l:fs.lookup f=some (s x)) (h:k x Q E S):(bnd (wXf (C:=C) f s (C,fs)) k) Q E S:=⟨rfl,x,l,h⟩
end
end TL

set_option Elab.async false
set_option linter.all false
set_option maxRecDepth 100000
set_option maxHeartbeats 2000000
namespace PC
open PySem PySem.Spec PyProof.Rows L2

section
variable {M : Model} {A : Around} {E : Value → Shared → Prop} {s : Shared}
end

section
variable {M : Model} {A : Around} {E : Value → Shared → Prop} {s : Shared} {Z : Obj → Prop} {B : Heap} {env : Env} {outer : List Env} {L C a : Addr}
end

section
variable {X : Cx} {σ : L2.St} {H : Hp} {s : Shared}
end
end PC

namespace TL
open PySem PySem.Spec PyProof.Rows L2 PC
section
variable {K : PySem.W.Frag} {ε : WX} {G : Gm K} {α β γ τ : Type}
end
end TL

set_option Elab.async false
set_option linter.all false
set_option maxRecDepth 100000
set_option maxHeartbeats 2000000
namespace PC
open PySem PySem.Spec PyProof.Rows L2

section
variable {M : Model} {A : Around} {E : Value → Shared → Prop} {s : Shared} {K : PySem.W.Frag} {x C f : Addr} {ox : Obj} {od : Option Obj}
end

section
variable {H : Hp} {a : Addr}
end
section
variable {X : Cx} {k : Nat} {f C : Addr} {fd : FuncData} {p : Str} {sp : Sp}
structure LoopAt (X:Cx) (A:Around) (base:Heap) (a:Addr):Prop where
  fr:A.frames=some X.stack
  gd:GOkA X.K A base
  mod:Mod X.K X.mg base
  at_: ∃o,base.get? a=some o
  na:X.K.lookup a=none
  sub: ∀b o,base.get? b=some o→X.base.get? b=some o∨b=a
end
section
variable {X : Cx} {k : Nat} {f C : Addr} {fd : FuncData} {p : Str} {sp : Sp} {pins : List (Addr × Obj)} {σ : L2.St} {H : Hp} {s : Shared} {a : Addr} {vs : List V}
end
end PC

namespace TL
open PySem PySem.Spec PyProof.Rows L2 PC
section
variable {K : PySem.W.Frag} {α : Type} {H : Hp} {a : Addr}
variable {S : Store K} {E : Err K → Store K → Prop}
variable {ε : WX} {G : Gm K} {β : Type}
end
end TL

set_option Elab.async false
set_option linter.all false
set_option maxRecDepth 100000
set_option maxHeartbeats 2000000
namespace PC
open PySem PySem.Spec PyProof.Rows PySem.SeqAt L2
open AutoSeq1 (wpAny_loadPart')
section
variable {M : Model} {A : Around} {E : Value → Shared → Prop} {s : Shared} {K : PySem.W.Frag} {x C f : Addr} {ox : Obj} {od : Option Obj}
end
section
variable {K : PySem.W.Frag} {x C f dx : Addr}
end
section
variable {prog : Program} {w : World} {A : Around} {E : Value → Shared → Prop} {s : Shared} {K : PySem.W.Frag} {x C f : Addr} {ox : Obj} {od : Option Obj} {u tb : Value}
end

def BT:List String:= ["NoneType","bool","int","str","list","tuple","dict"]
structure AlT (K:PySem.W.Frag) (C:Addr):Prop where
  sub: ∀T∈BT,PySem.W.subIn K (.ref C) (.type T)=some false
  tc:PySem.W.typeIn K (.ref C)=some (.type "type")
  ic:PySem.W.isClsIn K C=true
theorem rev_no {K:PySem.W.Frag} {C:Addr}: ∀T∈BT,PySem.W.subIn K (.type T) (.ref C)=some false:=by
  intro T h
  simp only[BT,List.mem_cons,List.not_mem_nil,or_false] at h
  rcases h with rfl | rfl | rfl | rfl | rfl | rfl | rfl <;> rfl
theorem AlT.first {K:PySem.W.Frag} {C:Addr} {T:String} (h:T∈BT):PySem.W.notFirst K C (.type T)=true:=by
  unfold PySem.W.notFirst
  rw[rev_no T h]
  simp
theorem AlT.is {K:PySem.W.Frag} {C:Addr} {T:String} (t:AlT K C) (h:T∈BT):PySem.W.kitOne K (.type T) (.ref C)=some false:=by
  have e:(Value.type T == Value.ref C)=false:=rfl
  have ic:(PySem.W.clsIn K C).isSome=true:=t.ic
  unfold PySem.W.kitOne PySem.W.kitCls
  rw[if_neg (by rw[e];decide)]
  dsimp only
  rw[ic,t.tc,if_pos (by simp)]
  exact rev_no T h
inductive TyA (K:PySem.W.Frag) (H:Hp):V→String→Prop where
  | non:TyA K H .non "NoneType"
  | bl (b:Bool):TyA K H (.bl b) "bool"
  | int (i:Int):TyA K H (.int i) "int"
  | str (x:Str):TyA K H (.str x) "str"
  | lst {a:Addr} {xs:List V} (e:Rd H a (.lst xs)):TyA K H (.ref a) "list"
  | tup {a:Addr} {xs:List V} (e:SqT K H a xs):TyA K H (.ref a) "tuple"
  | dct {a:Addr} {es:List (Key×V)} (e:H a=some (.dK es)):TyA K H (.ref a) "dict"
section
variable {K : PySem.W.Frag} {H : Hp} {x : V} {T : String}
theorem TyA.mem (h:TyA K H x T):T∈BT:=by cases h <;> simp[BT]
end
section
variable {X : Cx} {pins : List (Addr × Obj)} {σ : L2.St} {H : Hp} {s : Shared} {x : V} {u : Value} {T : String} {a C dx : Addr} {fs : List (Str × V)}
end
section
variable {X : Cx} {k : Nat} {f C : Addr} {fd : FuncData} {ps : List Str} {sp : Sp}
end
end PC
namespace TL
open PySem PySem.Spec PyProof.Rows L2 PC
section
variable {K : PySem.W.Frag} {α β : Type}
inductive AlD:Dm K→Prop where
  | py (d:PyData):AlD (kPy d)
  | lst (ds:List (Dm K)):AlD (dL ds)
end
end TL

set_option Elab.async false
set_option linter.all false
set_option maxRecDepth 100000
set_option maxHeartbeats 2000000
namespace PC
open PySem PySem.Spec PyProof.Rows L2 LamX

abbrev LamTl:=XK→Hp→VK→Prop
def tCall (i:Nat) (f c':Addr) (q:Str) (W:WX) (tl:LamTl):TE:=fun σ H Q=>σ[i]?=some (some (.ref f))∧H c'=some (CodeO c' q)∧tl (fun c d H=>W c d σ H) H Q
section
variable {X : Cx} {pins : List (Addr × Obj)} {σ : L2.St} {H : Hp} {s : Shared}
theorem pe_actG {CXg:CXT} {Eg:XK} {Ng:List Str} {qg:Str} {sg:Scope} {g f c':Addr} {cdg pm ctv:Value} {params:Arguments} {body:Expr} {scope:Scope} {k i:Nat} {a:Str} {pn:List (Addr×Obj)} {xe:Value→Shared→Prop} {W:WX} {tb:XK→TE} {p1 p2:Pos}
    (I:Inv X pins σ H s) (L:LamS X.env.scope scope) (hf:s.heap.get? f=some (PySem.W.kla_obj "<lambda>" (X.env.qual++ "<lambda>") params body scope (cloFrom X.env.cells scope.names []) pm c' ctv)) (nf:H f=none) (of:f ∉ frs X.stack)
    (hbind:bindArgs (PySem.W.kla_fn "<lambda>" (X.env.qual++ "<lambda>") params body scope (cloFrom X.env.cells scope.names []) pm (.ref c') ctv) ⟨[],[]⟩=pure []) (tk:Takes ((cxOf CXg X.prog X.w X.K X.mg X.base Ng qg sg g cdg X.A X.stack s H Eg).tr pn xe) W)
    (hr:Room (k+1) (X.A.deeper (envOfC qg sg s.heap.objs.size g cdg))) (hbody: ∀(E:XK) (A:Around) (outer:List Env) (s:Shared) (H:Hp),GOkA X.K A X.base→Room k (A.deeper (lamEnv X scope s.heap.objs.size f c'))→PE (lamCx X A outer s H E scope f c') body (tb E))
    (hg:GOkA X.K X.A X.base) (hN:Ng[i]?=some a) (hv:Vis sg a) (hd:(a == ("__debug__" :Str))=false) (hcd:(a == ("__classdict__" :Str))=false):
    PE ((cxOf CXg X.prog X.w X.K X.mg X.base Ng qg sg g cdg X.A X.stack s H Eg).tr pn xe) (.Call (.Name a p1) [] [] p2) (tCall i f c' (X.env.qual++ "<lambda>") W (fun E=>tb E σ)):=by
  refine⟨fun pZ sZ σZ HZ Q IZ ⟨hs,hc,hq⟩=> ?_⟩
  refine wpAny_Call_Name_kw (thn ((pe_var (pos:=p1) (i:=i) hN hv hd hcd).run pZ sZ σZ HZ (fun v H1=>v= .ref f∧H1=HZ) IZ ⟨.ref f,hs,rfl,rfl⟩) ?_)
  rintro u s1 ⟨v,H1,I1,r1,rfl,rfl⟩
  cases (show u=Value.ref f from r1)
  have at1:=I1.base.keep f _ hf nf of (fun z=>nomatch (show f∈([]:List Addr) from z))
  have un:Un (frs X.stack) [] H H1 s.heap s1.heap:=I1.base
  obtain⟨⟨oc,vs,t,e1,e2,e3⟩,_⟩:=I1.hok c' _ hc
  have rc:codeAny (model X.prog X.w) (X.A.deeper (envOfC qg sg s.heap.objs.size g cdg)) (.call (.ref f) ⟨[],[]⟩) (CR (L2.CX X.prog X.w) (envOfC qg sg s.heap.objs.size g cdg::X.stack) X.prog X.w H1 s1 Q (fun c d H=>W c d σZ H)) s1:=by
    refine PySem.W.kla_callFunE hr.depth at1 rfl L.co L.gen rfl ⟨c',oc,vs,t,rfl,e1,e2,e3⟩ ?_
    rw[hbind]
    refine wpAny_pure (wpAny_newFunctionEnv (fun y hy=>(L.own y hy).2) (fun y hy=>absurd hy (by simp)) (fun h₁ hns hsb=>⟨I1.nolimit.fresh _ hsb,?_⟩) L.kind)
    show codeAny _ _ (.expr body (lamEnv X scope s1.heap.objs.size f c')) _ _
    have J:=lam_start2 (A:=X.A.deeper (envOfC qg sg s.heap.objs.size g cdg)) (outer:=envOfC qg sg s.heap.objs.size g cdg::X.stack) (E:=fun c d H=>W c d σZ H) (f:=f) (c':=c') (tk:=s1.toks+([]:List (Str×Value)).length) I L I1.env0 hr.hd un hns (fun b o e=>hsb.extBut b o (Nat.ne_of_lt (Heap.lt_size e)) (Heap.get?_push_of_some _ e))
    refine PySem.W.kla_codeExpr (wpAny_mono ((hbody _ (X.A.deeper (envOfC qg sg s.heap.objs.size g cdg)) _ s1 H1 hg (hr.deeper _)).run [] _ _ H1 Q J hq) (fun v s' ⟨w',H',J',rv,q⟩=> ?_) fun e s' hq=>hq)
    exact⟨w',H',J'.os,J'.bare,J'.base,J'.hok,rv,q⟩
  refine PySem.W.callWith_F0 ⟨_,_,_,_,at1⟩ (wpAny_call (codeAny_mono rc fun r s' hq=> ?_))
  match r,hq with
  | .error e,hq=>exact tk e s' (XE.of_call I1 (fun _ _ _ h=>h) hq)
  | .ok (.ret u),hq=>exact I1.after hq
  | .ok .next,hq=>exact hq.elim
  | .ok .brk,hq=>exact hq.elim
  | .ok .cont,hq=>exact hq.elim
def TabN (q:Str) (ps:Array Value) (H H1:Hp):Prop:=TriplesOk ps.toList∧ ∀(pos:Pos) (cv:Value),codeAmong pos ps.toList=some cv→ ∃c,cv= .ref c∧H1 c=some (CodeO c q)∧(H c=none∨H c=some (CodeO c q))
theorem lam_new {c P:Addr} {q:Str} {params:Arguments} {body:Expr} {scope:Scope} {pos:Pos} {E Q:Value→Shared→Prop} {ps:Array Value} (I:Inv X pins σ H s) (TB:TabB X.base X.mg c P) (hcode:X.env.code= .ref c) (eq:X.env.qual++ "<lambda>" =q)
    (hP:H P=some (.tbl ps)) (hT:TabN q ps H H) (hdef:defaultsOf params X.env=([],[])) (hfree: ∀y∈scope.names,y.2= .free→ ∃c,X.env.cells.lookup y.1=some c)
    (h: ∀(f c':Addr) (pm ctv:Value) (H1:Hp) (s':Shared) (ps1:Array Value),Inv X pins σ H1 s'→H1 P=some (.tbl ps1)→TabN q ps1 H H1→(∀b o,b≠P→H b=some o→H1 b=some o)→
      s'.heap.get? f=some (PySem.W.kla_obj "<lambda>" q params body scope (cloFrom X.env.cells scope.names []) pm c' ctv)→H1 f=none→f ∉ frs X.stack→H1 c'=some (CodeO c' q)→(H c'=none∨H c'=some (CodeO c' q))→Q (.ref f) s'):
    wpAny (model X.prog X.w) X.A (eval (.Lambda params body scope pos) X.env) Q E s:=by
  subst eq
  have bP:=TB.bm.keeps I.bk
  have gP:s.heap.get? P=some { cls:= .none,data:= .fields ps }:=I.hok P _ hP
  have out: ∀f,s.heap.objs.size≤f→f ∉ frs X.stack:=fun f hf z=>by
    rcases List.mem_cons.mp (I.stkSub _ z) with e | e
    · exact Nat.lt_irrefl _ (Nat.lt_of_lt_of_le (e ▸ I.lt) hf)
    · exact I.nofs hf e
  obtain⟨ht,ha⟩:=hT
  refine PySem.W.kla_eval hdef ?_
  cases hc:codeAmong pos ps.toList with
  | some cv=>
    obtain⟨c',rfl,hco,_⟩:=ha pos cv hc
    refine PySem.W.kla_makeFunctionHit (mg:=X.mg) (c:=c) (P:=P) (ps:=ps) (closure_ok hfree) I.ok.glob (I.mod.glob.keeps I.bk) hcode (TB.code.keeps I.bk) gP ht hc bP fun ctv h' tk hx hsz=> ?_
    exact h h'.objs.size c' _ ctv H _ ps (I.kept fun b o e=>Heap.get?_push_of_some _ (hx b o e)) hP ⟨ht,ha⟩ (fun _ _ _ e=>e) (Heap.get?_push_size _ rfl) (I.hok.fresh hsz) (out _ hsz) hco (.inr hco)
  | none=>
    refine PySem.W.kla_makeFunction (mg:=X.mg) (c:=c) (P:=P) (ps:=ps) (closure_ok hfree) I.ok.glob (I.mod.glob.keeps I.bk) hcode (TB.code.keeps I.bk) gP ht hc TB.gP bP fun c' ctv h' tk hx hge hlt hrec htb=> ?_
    obtain⟨c2,oc,vs,t,e2,hoc,hd,hv⟩:=hrec
    cases e2
    have sz:=Nat.le_trans hge (Nat.le_of_lt hlt)
    have nC:H c'=none:=I.hok.fresh hge
    have nPC:P≠c':=ne_of_none hP nC
    let ps1:=ps++ #[rawInt pos.line,rawInt pos.col,.ref c']
    have I1:=inv_table (t':=tk) (more:= #[rawInt pos.line,rawInt pos.col,.ref c']) (h':=h'.push (PySem.W.kla_obj "<lambda>" (X.env.qual++ "<lambda>") params body scope (cloFrom X.env.cells scope.names []) ((X.mg "__name__").getD .none) c' ctv)) I hP
      (fun b o hb e=>Heap.get?_push_of_some _ (hx b o hb e)) (Heap.get?_push_of_some _ htb) hge ⟨oc,vs,t,Heap.get?_push_of_some _ hoc,hd,hv⟩
    have kp: ∀b o,b≠P→H b=some o→upd (upd H P (.tbl ps1)) c' (CodeO c' (X.env.qual++ "<lambda>")) b=some o:=fun b o nb e=>by
      rw[upd_ne (ne_of_none e nC),upd_ne nb];exact e
    have el:ps1.toList=ps.toList++ [rawInt pos.line,rawInt pos.col,.ref c']:=by simp[ps1]
    refine h h'.objs.size c' _ ctv _ _ ps1 I1 (by rw[upd_ne nPC,upd_same]) ⟨by rw[el];exact PySem.TriplesOk_snoc _ _ _ _ ht,fun p' cv hcv=> ?_⟩ kp (Heap.get?_push_size _ rfl) ?_ (out _ sz) upd_same (.inl nC)
    · rw[el] at hcv
      rcases among_app _ ht hcv with z | z
      · obtain⟨c0,e1,e2,e3⟩:=ha p' cv z
        exact⟨c0,e1,kp _ _ (fun w=>by rw[w,hP] at e2;exact absurd e2 (by unfold CodeO;simp)) e2,e3⟩
      · exact⟨c',z,upd_same,.inl nC⟩
    · rw[upd_ne (Nat.ne_of_gt hlt),upd_ne (Nat.ne_of_gt (Nat.lt_of_lt_of_le (Heap.lt_size gP) sz))]
      exact I.hok.fresh sz
end
def GivesT (P:Program) (w:World) (K:PySem.W.Frag) (mg:Str→Option Value) (base:Heap) (k:Nat) (g:Addr) (x:Str) (st:Stmt) (Ng:List Str) (a:Str) (TT:LamTl→Addr→Addr→Str→Hp→VK→Prop):Prop:=
  ∀(cdv:Value) (A:Around) (outer:List Env) (s:Shared) (H:Hp) (Q:VK) (f c':Addr) (q:Str) (tl:LamTl),GOkA K A base→Room k (A.deeper (envOfC x (defScope st) s.heap.objs.size g cdv))→
    (∀(W:WX) (pn:List (Addr×Obj)) (xe:Value→Shared→Prop) (p1 p2:Pos),Takes ((cxg P w K mg base Ng x st g cdv A outer s H E0).tr pn xe) W→PE ((cxg P w K mg base Ng x st g cdv A outer s H E0).tr pn xe) (.Call (.Name a p1) [] [] p2) (tCall 0 f c' q W tl))→
    TT tl f c' q H Q→ ∃t,PSs (cxg P w K mg base Ng x st g cdv A outer s H E0) (defBody st) t∧t { nx:=fun _ H'=>Q .non H',rt:=Q } (L2.start Ng [.ref f]) H
def tLamC (P:Addr) (q:Str) (TT:LamTl→Addr→Addr→Str→Hp→VK→Prop) (t:XK→TE):TE:=fun σ H Q=> ∃ps,H P=some (.tbl ps)∧TabN q ps H H∧
  ∀(f c':Addr) (H1:Hp) (ps1:Array Value),H1 P=some (.tbl ps1)→TabN q ps1 H H1→(∀b o,b≠P→H b=some o→H1 b=some o)→H1 c'=some (CodeO c' q)→(H c'=none∨H c'=some (CodeO c' q))→TT (fun E=>t E σ) f c' q H1 Q
theorem pe_lamT {X:Cx} {x a q:Str} {g c P:Addr} {k:Nat} {st:Stmt} {fd:FuncData} {Ng:List Str} {TT:LamTl→Addr→Addr→Str→Hp→VK→Prop} {params:Arguments} {body:Expr} {scope:Scope} {t:XK→TE} {p lpos pos:Pos}
    (G:GivesT X.prog X.w X.K X.mg X.base (k+1) g x st Ng a TT) (F:Fun X.K x x st g fd) (S:FnScope Ng [a] (defScope st)) (hN:Ng[0]?=some a) (hva:Vis (defScope st) a) (hb:Binds X.K fd [a] []) (hgl:Gl X x) (hm:X.mg x=some (.ref g)) (hg:GOk X) (hr:Room (k+2) X.A)
    (TB:TabB X.base X.mg c P) (hcode:X.env.code= .ref c) (eq:X.env.qual++ "<lambda>" =q) (L:LamS X.env.scope scope) (hdef:defaultsOf params X.env=([],[]))
    (hbind: ∀(q:Str) (cl:List (Str×Addr)) (pm cv ctv:Value),bindArgs (PySem.W.kla_fn "<lambda>" q params body scope cl pm cv ctv) ⟨[],[]⟩=pure [])
    (hbody: ∀(f c':Addr) (E:XK) (A:Around) (outer:List Env) (s:Shared) (H:Hp),GOkA X.K A X.base→Room k (A.deeper (lamEnv X scope s.heap.objs.size f c'))→PE (lamCx X A outer s H E scope f c') body (t E))
    (hdb:(x == ("__debug__" :Str))=false:=by decide) (hd:(a == ("__debug__" :Str))=false:=by decide) (hcd:(a == ("__classdict__" :Str))=false:=by decide):
    PE X (.Call (.Name x p) [.Lambda params body scope lpos] [] pos) (tLamC P q TT t):=by
  obtain⟨oc,od,kV,doc,pm,an,cdv,ct,osl,rfl,lk,hcd'⟩:=F.ex
  refine⟨fun pins s σ H Q I ⟨ps,hP,hT,h⟩=>wpAny_Call_Name_kw (ld_glob I hgl hm ?_ hdb)⟩
  refine PySem.W.callWith_K (h₀:=X.base) I.ok.mod.kin F.kp ?_ (by rfl) (by rfl)
  show wpAny _ _ (spliced ((false,eval (.Lambda params body scope lpos) X.env)::backTo pos (starEach [] X.env))) _ _ s
  refine Calls.spliced_cons (lam_new I TB hcode eq hP hT hdef (L.has I.ok) fun f c' pm' ctv H1 s' ps1 I1 h1 h2 h3 hf nf of hc ho=>Calls.spliced_nil ⟨I1.kIn,?_⟩)
  refine wpAny_call (codeAny_mono (R:=CR (L2.CX X.prog X.w) X.stack X.prog X.w H1 s' Q E0) ?_ fun r s2 hq=> ?_)
  · refine run_ofS (N:=Ng) (ps:= [a]) (us:= [.ref f]) (vs:= [.ref f]) lk hcd' S hr I1.env0 (hb s' [.ref f] I1.kIn rfl) (.cons rfl .nil) rfl fun hr'=> ?_
    subst eq
    exact G cdv X.A X.stack s' H1 Q f c' _ (fun E=>t E σ) hg hr' (fun W pn xe p1 p2 tk=>pe_actG (i:=0) I1 L hf nf of (hbind _ _ _ _ _) tk hr' (hbody f c') hg hN hva hd hcd) (h f c' H1 ps1 h1 h2 h3 hc ho)
  · match r,hq with
    | .error e,hq=>exact passN pins σ H1 s' e s2 I1 hq
    | .ok (.ret u),hq=>exact I1.after hq
    | .ok .next,hq=>exact hq.elim
    | .ok .brk,hq=>exact hq.elim
    | .ok .cont,hq=>exact hq.elim
end PC
namespace TL
open PySem PySem.Spec PyProof.Rows L2 PC LamX
section
variable {K : PySem.W.Frag} {α ρ : Type} {ε : WX} {G : Gm K}
theorem Wd.kind {S:Store K} {F:Pl} {H:Hp} {c:Addr} {q:Str} (w:Wd S F H) (h:H c=none∨H c=some (CodeO c q)): ¬ Zd S F c:=fun z=>by
  have lst: ∀ {o:HO},H c=some o→(∀φ,o≠ .ext φ)→False:=fun {o} e n=>by
    rcases h with h | h
    · rw[h] at e;cases e
    · rw[h] at e;cases e;exact n _ rfl
  rcases z with z | z
  · cases e:S c with
    | none=>exact z e
    | some x=>
      have k:=w.cell c x e
      cases x with
      | pot=>obtain⟨_,_,e,_⟩:=k;exact lst e fun _ z=>nomatch z
      | lst ds=>obtain⟨_,e,_⟩:=k;exact lst e fun _ z=>nomatch z
      | dic es=>obtain⟨_,e,_⟩:=k;exact lst e fun _ z=>nomatch z
      | dct es=>obtain⟨_,e,_⟩:=k;exact lst e fun _ z=>nomatch z
      | tab q=>obtain⟨_,e,_⟩:=k;exact lst e fun _ z=>nomatch z
      | ins C fs=>obtain⟨_,_,e,_⟩:=k;exact lst e fun _ z=>nomatch z
  · rcases w.foc c z with ⟨_,e⟩ | ⟨_,e⟩ | ⟨_,e⟩ <;> exact lst e fun _ z=>nomatch z
def kLam (f c':Addr) (q:Str) (Pc:Pl→Hp→Prop) (st: ∀Z H Z' H',Stp Z H Z' H'→Pc Z H→Pc Z' H'):Unit→Dm K:=fun _=>⟨fun Z H v=>v= .ref f∧ ¬ Z c'∧H c'=some (CodeO c' q)∧Pc Z H,
  fun r ⟨e,n,h,p⟩=>⟨e,nz_stp r n (by rw[h];exact fun z=>nomatch z),r.keep _ _ n h,st _ _ _ _ r p⟩⟩
def LamSim (Pc:Pl→Hp→Prop) (r:α→Dm K) (m:W K α) (tl:LamTl):Prop:= ∀(E:XK) S F H (Q:VK) (Qp:α→Store K→Prop) (Ep:Err K→Store K→Prop),Wd S F H→Pc (Zd S F) H→m Qp Ep S→
  (∀x S' H' v,Qp x S'→Nxt S F H S' H'→(r x).at_ (Zd S' F) H' v→Q v H')→(∀e S' H' c d,Ep e S'→Nxt S F H S' H'→ErrAt e (Zd S' F) H' c d→E c d H')→tl E H Q
theorem sim_tcall {i:Nat} {f c':Addr} {q:Str} {Pc:Pl→Hp→Prop} {st: ∀Z H Z' H',Stp Z H Z' H'→Pc Z H→Pc Z' H'} {x:Unit} {r:α→Dm K} {m:W K α} {tl:LamTl} (h:LamSim Pc r m tl) (hx:G[i]?=some (some (kLam f c' q Pc st x))):
    Sim ε G (tCall i f c' q ε tl) r m:=by
  intro S F σ H Q Qp Ep w s hm hQ hE
  obtain⟨v,e,rfl,n,hc,hp⟩:=s.slot i _ hx
  exact⟨e,hc,h _ S F H Q Qp Ep w hp hm hQ fun e S' H' c d he r' ha=>hE e S' H' c d he r' ha⟩
def ttL (r3:ρ→Dm K) (wt: ∀α:Type,(α→Dm K)→W K α→W K ρ):LamTl→Addr→Addr→Str→Hp→VK→Prop:=fun tl f c' q H Q=>
  ∃(S:Store K) (F:Pl) (Pc:Pl→Hp→Prop) (α:Type) (r:α→Dm K) (m:W K α) (Qp:ρ→Store K→Prop) (Ep:Err K→Store K→Prop),(∀ {Z H Z' H'},Stp Z H Z' H'→Pc Z H→Pc Z' H')∧Wd S F H∧Pc (Zd S F) H∧ ¬ Zd S F c'∧H c'=some (CodeO c' q)∧LamSim Pc r m tl∧
    wt α r m Qp Ep S∧(∀y S' H' v,Qp y S'→Nxt S F H S' H'→(r3 y).at_ (Zd S' F) H' v→Q v H')∧ ∀e S',Ep e S'→False
theorem givesL {P:Program} {w:World} {mg:Str→Option Value} {base:Heap} {k:Nat} {g:Addr} {x:Str} {st:Stmt} {Ng:List Str} {a:Str} {r3:ρ→Dm K} {wt: ∀α:Type,(α→Dm K)→W K α→W K ρ}
    (body: ∀(cdv:Value) (A:Around) (outer:List Env) (s:Shared) (H:Hp) (f c':Addr) (q:Str) (tl:LamTl),GOkA K A base→Room k (A.deeper (envOfC x (defScope st) s.heap.objs.size g cdv))→
      (∀(W:WX) (pn:List (Addr×Obj)) (xe:Value→Shared→Prop) (p1 p2:Pos),Takes ((cxg P w K mg base Ng x st g cdv A outer s H E0).tr pn xe) W→PE ((cxg P w K mg base Ng x st g cdv A outer s H E0).tr pn xe) (.Call (.Name a p1) [] [] p2) (tCall 0 f c' q W tl))→
      ∃t,PSs (cxg P w K mg base Ng x st g cdv A outer s H E0) (defBody st) t∧ ∀(Pc:Pl→Hp→Prop) (st: ∀Z H Z' H',Stp Z H Z' H'→Pc Z H→Pc Z' H') (α:Type) (r:α→Dm K) (m:W K α),LamSim Pc r m tl→
        ∃mm:W K (Flow Unit ρ),SimS (fun c d _ H=>E0 c d H) none (envOf [kLam f c' q Pc st ()] Ng.length) [t] (fun _:Unit=>List.replicate Ng.length none) r3 mm∧ ∀Q E S,wt α r m Q E S→outW mm none Q E S):
    GivesT P w K mg base k g x st Ng a (ttL r3 wt):=by
  intro cdv A outer s H Q f c' q tl hg hr act h
  obtain⟨S0,F0,Pc,α,r,m,Qp,Ep,stb,wd,hp,n,hc,hl,hw,hQ,hE⟩:=h
  obtain⟨t,ht,hh⟩:=body cdv A outer s H f c' q tl hg hr act
  obtain⟨mm,hs,hm⟩:=hh Pc (fun _ _ _ _=>stb) α r m hl
  refine⟨t,ht,?_⟩
  have q':=hm Qp Ep S0 hw
  refine hs S0 F0 H S0 H _ { nx:=fun _ H'=>Q .non H',rt:=Q } _ Ep ⟨.refl wd,sat_start ⟨.ref f,[],rfl,⟨rfl,n,hc,hp⟩,rfl⟩⟩ q' (fun _ S' H' σ' z c'=>z.elim) (fun _ _ _ _ z _=>z.elim) (fun y S' H' v z r' hv=>hQ y S' H' v z r' hv)
    (fun e S' H' c dd σ' he r' _ hk=>(hE e S' he).elim)
def wLam (P:Addr) (q:Str) (m:W K α):W K α:=fun Q E S=>S P=some (.tab q)∧m Q (fun e S'=>False) S
theorem sim_lam {P:Addr} {q:Str} {r:α→Dm K} {m:W K α} {r3:ρ→Dm K} {wt: ∀α:Type,(α→Dm K)→W K α→W K ρ} {tb:XK→TE} (hb: ∀E:XK,Sim (fun c d _ H=>E c d H) G (tb E) r m):
    Sim ε G (tLamC P q (ttL r3 wt) tb) r3 (wLam P q (wt α r m)):=by
  intro S F σ H Q Qp Ep w s ⟨hS,hm⟩ hQ hE
  obtain⟨ps,e,t,g⟩:=w.cell P _ hS
  refine⟨ps,e,⟨t,fun pos cv h=>by obtain⟨c,e1,n,e2⟩:=g pos cv h;exact⟨c,e1,e2,.inr e2⟩⟩,fun f c' H1 ps1 h1 ⟨t1,g1⟩ kp hc ho=> ?_⟩
  have zP:Zd S F P:= .inl (by rw[hS];exact fun z=>nomatch z)
  have stp:Stp (Zd S F) H (Zd S F) H1:=⟨fun b o n e=>kp b o (fun z=>n (z ▸ zP)) e,fun b z=> .inl z⟩
  have sq:Stq S H S H1:=⟨fun b o n e=>kp b o (fun z=>by rw[z,hS] at n;cases n) e,fun b n=> .inl n,fun b n=>by
    by_cases z:b=P
    · rw[z,h1];exact fun z=>nomatch z
    · cases e:H b with
      | none=>exact absurd e n
      | some o=>rw[kp b o z e];exact fun z=>nomatch z⟩
  have w1:Wd S F H1:=by
    refine⟨sq.one w,fun a x ea=> ?_,fun a fa=> ?_,w.dis⟩
    · by_cases z:a=P
      · subst z
        rw[hS] at ea
        cases ea
        exact⟨ps1,h1,t1,fun pos cv h=>by
          obtain⟨c,e1,e2,e3⟩:=g1 pos cv h
          exact⟨c,e1,w.kind e3,e2⟩⟩
      · exact (w.cell a x ea).up stp fun o e=>kp a o z e
    · have z:a≠P:=fun z=>by have:=w.dis a fa;rw[z,hS] at this;cases this
      exact (w.foc a fa).keep fun o e=>kp a o z e
  have nx:Nxt S F H S H1:=⟨sq,w1⟩
  refine⟨S,F,fun Z H=>Sat G Z H σ,α,r,m,Qp,fun _ _=>False,fun r s=>s.up r,w1,s.up stp,w.kind ho,hc,?_,hm,fun y S' H' v hy r' hv=>hQ y S' H' v hy (nx.trans r') hv,fun _ _ z=>z⟩
  intro E S2 F2 H2 Q2 Qp2 Ep2 w2 s2 hm2 hQ2 hE2
  exact hb E S2 F2 σ H2 Q2 Qp2 Ep2 w2 s2 hm2 hQ2 fun e S' H' c d he r' ha=>hE2 e S' H' c d he r' ha
end
end TL

set_option Elab.async false
set_option linter.all false
set_option maxRecDepth 100000
set_option maxHeartbeats 2000000
namespace PC
open PySem PySem.Spec PyProof.Rows L2 LamX
section
variable {P : Program} {w : World} {K : PySem.W.Frag} {mg : Str → Option Value} {base : Heap}
theorem FnG.okXC {x qual:Str} {st:Stmt} {f:Addr} {fd:FuncData} {N ps:List Str} {k:Nat} {sp:Sp} {cv:Value}
    (F:Fun K x qual st f fd) (hcv:fd.code=cv) (S:FnScope N ps (defScope st)) (len: ∀vs H Q E,sp vs H Q E→vs.length=ps.length)
    (body: ∀(A:Around) (outer:List Env) (s:Shared) (H:Hp) (vs:List V) (Q:VK) (E:XK),GOkA K A base→Room k (A.deeper (envOfC qual (defScope st) s.heap.objs.size f cv))→sp vs H Q E→
      ∃t,PSs (cxg P w K mg base N qual st f cv A outer s H E) (defBody st) t∧t { nx:=fun _ H'=>Q .non H',rt:=Q } (start N vs) H):
    FnG P w K mg base (k+1) f fd ps sp:=by
  obtain⟨oc,od,kV,doc,pm,an,cdv,ct,osl,rfl,lk,hcd⟩:=F.ex
  obtain rfl:cdv=cv:=hcv
  refine⟨len,fun A outer s H args us vs Q E hg hr e0 hb rv hsp=> ?_⟩
  exact run_ofS (N:=N) (ps:=ps) (us:=us) (vs:=vs) lk hcd S hr e0 hb rv (len _ _ _ _ hsp) fun hr'=>body A outer s H vs Q E hg hr' hsp
theorem GivesT.mono {j k:Nat} {g:Addr} {x:Str} {st:Stmt} {Ng:List Str} {a:Str} {TT:LamTl→Addr→Addr→Str→Hp→VK→Prop} (G:GivesT P w K mg base j g x st Ng a TT) (h:j≤k):GivesT P w K mg base k g x st Ng a TT:=
  fun cdv A outer s H Q f c' q tl hg hr=>G cdv A outer s H Q f c' q tl hg (hr.mono h)
end
section
variable {P : Program} {w : World} {K : PySem.W.Frag} {mg mb : Str → Option Value} {k : Nat} {fa a : Addr} {fd : FuncData}
  {x : Str} {sp : Sp} {s₁ : Shared} {vs : List Value} {ns : List Int} {cs : List (Addr × Addr)}
theorem lawGT (KX:K.In s₁.heap) (k1:K.lookup sysModules=none) (ha1:a≠sysModules) (hs: ∃o es ep,s₁.heap.get? sysModules=some o∧o.data= .dict es ep)
    (hns:s₁.heap.Ns mainGlobals mg) (hb:s₁.heap.Ns builtinsNs mb) (hbb: ∀x:Str,x≠ "__name__" →mb x=bootBuiltins x) (hlim:s₁.heap.NoLimit) (hg:s₁.gens= #[])
    (C: ∀p∈cs,PySem.W.CodeHd s₁.heap p.1 p.2∧s₁.heap.get? p.2=some (PySem.W.tabObj #[])) (nT: ∀p∈cs,K.lookup p.2=none)
    (hbm: ∃(bm:Addr) (ob:Obj),mg "__builtins__" =some (.ref bm)∧bm≠builtinsNs∧s₁.heap.get? bm=some ob∧ob.cls= .type "module" ∧ob.dict=some builtinsNs∧ob.data= .plain)
    (ha:s₁.heap.get? a=some { cls:= .type "list",data:= .seq vs.toArray }) (hi:IntsAre vs ns) (hl:ns.length≤sizeLine) (hr:Room k callerA)
    (F: ∀base:Heap,K.In base→base.Ns mainGlobals mg→(∀p∈cs,TabB base mg p.1 p.2)→FnG P w K mg base k fa fd [x] sp)
    (hbind: ∀(s:Shared) (u:Value),BindsTo s fd ⟨[u],[]⟩ [(x,u)])
    (hsp: ∀H:Hp,One H→(∀p∈cs,H p.2=some (.tbl #[]))→SqL K H a (ns.map V.int)→sp [.ref a] H (fun v _=>v= .bl true) E0):
    codeAny (model P w) callerA (.call (.ref fa) ⟨[.ref a],[]⟩)
      (fun r s'=>r= .ok (.ret (.bool true))∧OldK s₁.heap s'.heap∧s'.os=s₁.os∧AllBare s'.gens) s₁:=by
  obtain⟨om,mes,mep,em,dm⟩:=hs
  obtain⟨H0,R⟩:=root_of (P:=P) (w:=w) KX k1 ha1 ⟨om,em⟩ ha hi hl
  have isT: ∀b,b∈cs.map (·.2)→s₁.heap.get? b=some (PySem.W.tabObj #[]):=fun b hb=>by
    obtain⟨p,hp,rfl⟩:=List.mem_map.mp hb
    exact (C p hp).2
  have noT: ∀ {b:Addr} {o:Obj},s₁.heap.get? b=some o→o.data≠ .fields #[]→b ∉ cs.map (·.2):=fun {b o} e n z=>by
    rw[isT b z] at e
    cases e
    exact n rfl
  have aT:a ∉ cs.map (·.2):=noT ha (fun z=>nomatch z)
  have mT:sysModules ∉ cs.map (·.2):=noT em (fun z=>by rw[dm] at z;cases z)
  obtain⟨H,eH⟩: ∃H:Hp,H=fun b=>if b∈cs.map (·.2) then some (.tbl #[]) else H0 b:=⟨_,rfl⟩
  have inT: ∀b,b∈cs.map (·.2)→H b=some (.tbl #[]):=fun b h=>by rw[eH];exact if_pos h
  have ouT: ∀b,b ∉ cs.map (·.2)→H b=H0 b:=fun b h=>by rw[eH];exact if_neg h
  have gone: ∀ {b:Addr} {o:Obj},s₁.heap.get? b=some o→b ∉ cs.map (·.2)→b≠sysModules→
      (b=a→K.lookup a=some o∨ ∃es ep,o.data= .dict es ep)→H b=none:=by
    intro b o e nb hs h
    rw[ouT b nb]
    cases q:H0 b with
    | none=>rfl
    | some u=>
      rcases R.two b (by rw[q];simp) with z | ⟨eb,kn⟩
      · exact absurd z hs
      rcases h eb with z | ⟨es,ep,z⟩
      · rw[kn] at z
        cases z
      · subst eb
        rw[ha] at e
        cases e
        cases z
  have nsK: ∀ {b:Addr} {m:Str→Option Value},b≠sysModules→s₁.heap.Ns b m→(hidT s₁.heap H).Ns b m:=by
    rintro b m hs ⟨o,es,ep,e,d,r⟩
    exact⟨o,es,ep,hidT_get e (gone e (noT e (fun z=>by rw[d] at z;cases z)) hs fun _=> .inr ⟨es,ep,d⟩),d,r⟩
  have kb:K.In (hidT s₁.heap H):=fun b o e=>
    hidT_get (KX b o e) (gone (KX b o e) (fun z=>by
      obtain⟨p,hp,rfl⟩:=List.mem_map.mp z
      rw[nT p hp] at e;cases e) (fun z=>by rw[z,k1] at e;cases e) fun q=> .inl (q ▸ e))
  obtain⟨mc,l1,l2⟩:=hlim
  have M:Mod K mg (hidT s₁.heap H):=
    ⟨kb,nsK (by decide) hns,⟨mb,nsK (by decide) hb,hbb⟩,⟨mc,nsK (by decide) l1,l2⟩⟩
  have nofr: ∀b∈frs ([]:List Env),H b=none:=by
    intro b hb
    cases (show b∈([]:List Addr) from hb)
  have one:One H:=by
    obtain⟨o,b,e⟩:=R.one
    exact⟨o,b,(ouT _ mT).trans e⟩
  have list:SqL K H a (ns.map V.int):=by
    rcases R.list with (e | ⟨o,e⟩) | e
    · exact .inl (.inl ((ouT a aT).trans e))
    · exact .inl (.inr ⟨o,(ouT a aT).trans e⟩)
    · exact .inr e
  have hok:HOk P w H s₁.heap:=fun b u e=>by
    by_cases hb:b∈cs.map (·.2)
    · rw[inT b hb] at e
      cases e
      exact isT b hb
    · rw[ouT b hb] at e
      rcases R.only b with z | ⟨o,u',z⟩
      · rw[z] at e;cases e
      · refine (R.hok b u e).stay (fun _ _ _ q=>q) (fun d q=> ?_) fun d xs q=> ?_
        · rcases R.only d with z | ⟨o,u',z⟩
          · rw[z] at q;cases q
          · rw[z] at q;cases q
        · rcases R.only d with z | ⟨o,u',z⟩
          · rw[z] at q;cases q
          · rw[z] at q;cases q
  have e0:Env0 P w K mg (hidT s₁.heap H) callerA [] s₁ H:=
    ⟨rfl,M,fun b o e=>of_hidT e,Nat.le_of_eq (hidT_size _ _),trivial,nofr,hok,.of_eq hg⟩
  have notA: ∀ {b:Addr} {o:Obj},s₁.heap.get? b=some o→(∀vs n,o.data≠ .seq vs n)→b≠a:=fun {b o} e h z=>by
    rw[z,ha] at e;cases e;exact h _ _ rfl
  have TB: ∀p∈cs,TabB (hidT s₁.heap H) mg p.1 p.2:=fun p hp=>by
    obtain⟨hC,hT⟩:=C p hp
    refine⟨?_,?_,fun z=> ?_⟩
    · obtain⟨o,us,file,tf,flags,tg,inF,text,tt,e1,r1,r2,r3,r4,r5,r6,r7,r8,hne⟩:=hC
      refine⟨o,us,file,tf,flags,tg,inF,text,tt,hidT_get e1 (gone e1 (noT e1 fun z=> ?_) (fun z=> ?_) fun z=>absurd z (notA e1 fun vs n z=> ?_)),r1,r2,r3,r4,r5,r6,r7,r8,hne⟩
      · rw[r2] at z;cases z;simp at r3
      · rw[z,em] at e1;cases e1;rw[r2] at dm;cases dm
      · rw[r2] at z;cases z
    · obtain⟨bm,ob,b1,b2,b3,b4,b5,b6⟩:=hbm
      have nG:bm≠mainGlobals:=fun q=>by
        obtain⟨o,es,ep,e,hd,_⟩:=hns
        rw[q,e] at b3;cases b3;rw[hd] at b6;cases b6
      have nP:bm≠p.2:=fun q=>by rw[q,hT] at b3;cases b3;cases b6
      refine⟨bm,ob,b1,b2,nG,nP,hidT_get b3 (gone b3 (noT b3 fun z=> ?_) (fun z=> ?_) fun z=>absurd z (notA b3 fun vs n z=> ?_)),b4,b5,b6⟩
      · rw[b6] at z;cases z
      · rw[z,em] at b3;cases b3;rw[b6] at dm;cases dm
      · rw[b6] at z;cases z
    · obtain⟨o,es,ep,e,hd,_⟩:=hns
      rw[z,hT] at e;cases e;cases hd
  refine codeAny_mono ((F _ kb (nsK (by decide) hns) TB).run callerA [] s₁ H ⟨[.ref a],[]⟩ [.ref a] [.ref a] _ _ (.nil rfl) hr e0
    (hbind s₁ (.ref a)) (.cons rfl .nil) (hsp H one (fun p hp=>inT _ (List.mem_map.mpr ⟨p,hp,rfl⟩)) list)) fun r s' h=> ?_
  match r,h with
  | .error e,h=>
    obtain⟨_,_,_,_,_,_,_,_,_,_,_,_,z⟩:=h
    exact z.elim
  | .ok .next,h=>exact h.elim
  | .ok .brk,h=>exact h.elim
  | .ok .cont,h=>exact h.elim
  | .ok (.ret u),h=>
    obtain⟨v,H',os,bare,un,hok',r',q⟩:=h
    obtain rfl:v= .bl true:=q
    obtain rfl:u=Value.bool true:=r'
    have key: ∀b o,b ∉ cs.map (·.2)→s₁.heap.get? b=some o→s'.heap.get? b=some o:=fun b o nb e=>by
      rcases R.only b with z | ⟨ob,xs,z⟩
      · exact un.keep b o e ((ouT b nb).trans z) (fun hb=>by cases (show b∈([]:List Addr) from hb)) (by simp)
      · have z1:=(ouT b nb).trans z
        obtain⟨e1,_⟩:=hok b _ z1
        obtain⟨e2,_⟩:=hok' b _ (un.frzs b ob _ z1)
        rw[e] at e1
        cases e1
        exact e2
    have grown: ∀b,b∈cs.map (·.2)→ ∃more:Array Value,s'.heap.get? b=some { cls:= .none,data:= .fields more }:=fun b hb=>by
      obtain⟨more,z⟩:=un.tbls b #[] (inT b hb)
      exact⟨_,hok' b _ z⟩
    refine⟨rfl,⟨fun b o e=> ?_,fun b o e=> ?_⟩,os,bare⟩
    · by_cases hb:b∈cs.map (·.2)
      · obtain⟨more,hm⟩:=grown b hb
        obtain⟨p,hp,rfl⟩:=List.mem_map.mp hb
        rw[(C p hp).2] at e
        cases e
        exact .inr (.inl ⟨((C p hp).1.tab (C p hp).2).isCodeTable,rfl,#[],more,rfl,by rw[Array.empty_append];exact hm⟩)
      · exact .inl (key b o hb e)
    · by_cases hb:b∈cs.map (·.2)
      · obtain⟨more,hm⟩:=grown b hb
        exact⟨_,hm⟩
      · exact⟨o,key b o hb e⟩
end
theorem walkGT {l:PySem.W.OpenLaw} {n k:Nat} {q:Program} {loose:List Str} {XP:(Str→Option Value)→Heap→Prop}
    {YP:World→Heap→Prop} {d:DefRec} {K:Params→PySem.W.Frag} {sp:World→List (Addr×Addr)→Sp} {x:Str}
    (hn:l.most=some n) (hn2:n≤sizeLine) (hdf:d.params.defaults= []) (hr:Room k callerA)
    (hY: ∀(w:World) (h:Heap),YP w h→(K w.params).In h)
    (hK: ∀w:World,(K w.params).lookup sysModules=none) (him:importsNone q=true)
    (F: ∀(w:World) (mg:Str→Option Value) (fa:Addr) (h:Heap),(K w.params).In h→h.Ns mainGlobals mg→
      (∀(y:Str) (c P:Addr),((recsOf q).find? (fun e=>e.name == y)).isSome=true→PySem.W.tabIn (K w.params) y=some (c,P)→PySem.W.CodeHd h c P∧h.get? P=some (PySem.W.tabObj #[]))→
      mg d.name=some (.ref fa)→ ∃(fd:FuncData) (cs:List (Addr×Addr)),(∀p∈cs,PySem.W.CodeHd h p.1 p.2∧h.get? p.2=some (PySem.W.tabObj #[]))∧(∀p∈cs,(K w.params).lookup p.2=none)∧(∀(s:Shared) (u:Value),BindsTo s fd ⟨[u],[]⟩ [(x,u)])∧
        ∀base:Heap,(K w.params).In base→base.Ns mainGlobals mg→(∀p∈cs,TabB base mg p.1 p.2)→FnG l.prog w (K w.params) mg base k fa fd [x] (sp w cs))
    (hsp: ∀(w:World) (cs:List (Addr×Addr)) (H:Hp) (a:Addr) (ns:List Int),ns.length≤n→(∀z∈ns,Builtin.Int.intBits z≤1048576)→
      One H→(∀p∈cs,H p.2=some (.tbl #[]))→SqL (K w.params) H a (ns.map V.int)→sp w cs [.ref a] H (fun v _=>v= .bl true) E0):
    PySem.W.WalkO q loose XP YP l.row.toRowW d [] (fun f vs=>PySem.call f vs):=by
  intro w s₀ s₁ mg mb G Y fa o pm cd doc dV kV ho hd hcd hD hmg hg args vals as hpre hlay hrd hwl hlo
  obtain rfl:dV= .none:=PySem.W.Dflts.none hD hdf
  obtain rfl:kV= .none:=PySem.W.Dflts.noKw hD
  obtain⟨a,vs,ns,rfl,rfl,hobj,hints,hlen⟩:=Att.script_of hn hpre hwl
  obtain⟨fd,cs,hC,nT,hb,hF⟩:=F w mg fa _ (hY w _ Y) G.T.g (fun y c P h1 h2=>by
    cases h:(recsOf q).find? (fun e=>e.name == y) with
    | none=>rw[h] at h1;cases h1
    | some d=>exact PySem.W.tab_of G.T (hY w _ Y) h h2) hmg
  have key:=lawGT (hY w _ Y) (hK w) (fun z=>by have:=hlo a (script_at hrd);rw[z] at this;cases this)
    (let ⟨_,⟨o,es,ep,e,d,_⟩,_⟩:=(G.T.seer him).mods;⟨o,es,ep,e,d⟩) G.T.g G.T.b G.T.builtins G.T.nolimit hg hC nT G.T.bmain hobj hints
    (Nat.le_trans hlen hn2) hr hF hb fun H h1 h2 hS=>hsp w cs H a ns hlen (Att.script_bits hlay) h1 h2 hS
  refine PySem.W.enter_call (codeAny_mono key fun r s' hq=> ?_)
  obtain⟨rfl,h2,h3,h4⟩:=hq
  exact⟨.inl ⟨.bool true,.bool true,[],rfl,fun _=>rfl,.bool true,Att.post_true l _,
    fun _=>⟨List.Pairwise.nil,fun _ hm=>(nomatch hm)⟩⟩,h2,h3,h4⟩
end PC
namespace TL
open PySem PySem.Spec PyProof.Rows L2 PC LamX
section
variable {P : Program} {w : World} {K : PySem.W.Frag} {mg : Str → Option Value} {base : Heap} {α τ : Type}
theorem okLC {x qual:Str} {st:Stmt} {f:Addr} {fd:FuncData} {N ps:List Str} {k:Nat} {δ:τ→List (Dm K)} {r:α→Dm K} {wf:τ→W K α} {cv:Value}
    (F:Fun K x qual st f fd) (hcv:fd.code=cv) (S:FnScope N ps (defScope st)) (hl: ∀x,(δ x).length=ps.length) (d:Option α) (hd: ∀y,d=some y→r y=dPy .none)
    (body: ∀(A:Around) (outer:List Env) (s:Shared) (H:Hp) (E:XK),GOkA K A base→Room k (A.deeper (envOfC qual (defScope st) s.heap.objs.size f cv))→
      ∃t,PSs (cxg P w K mg base N qual st f cv A outer s H E) (defBody st) t∧ ∃m:τ→W K (Flow Unit α),
        (∀x,SimS (fun c d _ H=>E c d H) none (envOf (δ x) N.length) [t] (fun _:Unit=>List.replicate N.length none) r (m x))∧ ∀x Q E S,wf x Q E S→outW (m x) d Q E S):
    FnG P w K mg base (k+1) f fd ps (lift K δ r wf):=by
  refine FnG.okXC F hcv S (fun vs H Q E h=> ?_) (fun A outer s H vs Q E hg hr h=> ?_)
  · obtain⟨S0,F0,x,Qp,Ep,wd,ha,_⟩:=h
    rw[ha.length,hl]
  · obtain⟨t,ht,m,hs,hw⟩:=body A outer s H E hg hr
    obtain⟨S0,F0,x,Qp,Ep,wd,ha,hf,hQ,hE⟩:=h
    have q:=hw x Qp Ep S0 hf
    refine⟨t,ht,hs x S0 F0 H S0 H _ { nx:=fun _ H'=>Q .non H',rt:=Q } _ Ep ⟨.refl wd,sat_start ha⟩ q (fun _ S' H' σ' z c'=> ?_) (fun _ _ _ _ z _=>z.elim) (fun y S' H' v z r' hv=>hQ y S' H' v z r' hv)
      (fun e S' H' c dd σ' he r' _ hk=>hE e S' H' c dd he r' hk)⟩
    cases d with
    | none=>exact z.elim
    | some y=>exact hQ y S' H' .non z c'.nx (by rw[hd y rfl];exact mk_non)
end
def sp_topT (K:PySem.W.Frag) (cs:List (Addr×Addr)):Sp:=fun vs H Q E=> ∃a,∃ns:List Int,vs= [.ref a]∧One H∧(∀p∈cs,H p.2=some (.tbl #[]))∧SqL K H a (ns.map V.int)∧ns.length≤63∧ ∀H',Q (.bl true) H'
def tabsS {K:PySem.W.Frag}:List (Addr×Str)→Store K
  | []=>fun _=>none
  | p::r=>(tabsS r).set p.1 (.tab p.2)
theorem tabsS_in {K:PySem.W.Frag}: ∀ {ts:List (Addr×Str)} {b:Addr} {c:Cell K},tabsS ts b=some c→ ∃q,c= .tab q∧b∈ts.map (·.1)
  | [],_,_,h=>by cases h
  | p::r,b,c,h=>by
    by_cases z:b=p.1
    · have h:(tabsS r).set p.1 (.tab p.2) b=some c:=h
      rw[z,set_same] at h
      cases h
      exact⟨_,rfl,by simp[z]⟩
    · have h:(tabsS r).set p.1 (.tab p.2) b=some c:=h
      rw[set_ne z] at h
      obtain⟨q,e,m⟩:=tabsS_in h
      exact⟨q,e,by simp[m]⟩
theorem tabsS_at {K:PySem.W.Frag}: ∀ {ts:List (Addr×Str)} {p:Addr×Str},(ts.map (·.1)).Nodup→p∈ts→tabsS (K:=K) ts p.1=some (.tab p.2)
  | x::r,p,n,h=>by
    rw[List.map_cons,List.nodup_cons] at n
    rcases List.mem_cons.mp h with rfl | h
    · exact set_same
    · have z:p.1≠x.1:=fun e=>n.1 (e ▸ List.mem_map.mpr ⟨p,h,rfl⟩)
      exact (set_ne z).trans (tabsS_at n.2 h)
theorem law_inT {K:PySem.W.Frag} {w:List Int×Unit→W K Bool} {vs:List V} {H:Hp} {Q:VK} {E:XK} {cs:List (Addr×Addr)} {ts:List (Addr×Str)} (hts:ts.map (·.1)=cs.map (·.2)) (h:sp_topT K cs vs H Q E)
    (hw: ∀ns:List Int,ns.length≤63→w (ns,()) (fun b _=>b=true) (fun _ _=>False) (tabsS ts)):lift K (fun x:List Int×Unit=> [kSc x.1]) kB w vs H Q E:=by
  obtain⟨a,ns,rfl,o1,hT,hS,hl,q⟩:=h
  have isT: ∀ {b:Addr} {c:Cell K},tabsS ts b=some c→(∃q,c= .tab q)∧H b=some (.tbl #[]):=fun {b c} e=>by
    obtain⟨q,e1,m⟩:=tabsS_in e
    rw[hts] at m
    obtain⟨p,hp,rfl⟩:=List.mem_map.mp m
    exact⟨⟨q,e1⟩,hT p hp⟩
  refine⟨tabsS ts,fun _=>False,(ns,()),_,_,⟨o1,(fun b c e=> ?_),(fun _ z=>False.elim z),(fun _ z=>False.elim z)⟩,⟨_,_,rfl,⟨a,rfl,?_,hS⟩,rfl⟩,hw ns hl,fun y S' H' v hy _ hv=> ?_,fun _ _ _ _ _ z=>z.elim⟩
  · obtain⟨⟨q,rfl⟩,e2⟩:=isT e
    exact⟨#[],e2,trivial,fun pos cv hc=>by
      have z:codeAmong pos []=some cv:=hc
      simp[codeAmong] at z⟩
  · by_cases z:tabsS (K:=K) ts a=none
    · exact .inl fun w=>w.elim (fun w=>w z) id
    · cases e:tabsS (K:=K) ts a with
      | none=>exact absurd e z
      | some c=>
        have:=(isT e).2
        rcases hS with (h | ⟨o,h⟩) | h
        · rw[this] at h;cases h
        · rw[this] at h;cases h
        · exact .inr (.inr h)
  · rw[at_bl hv,hy]
    exact q H'
end TL
namespace TL
open PySem PySem.Spec PyProof.Rows L2 PC
theorem sim_disp1P {K:PySem.W.Frag} {ε:WX} {G:Gm K} {k:Key} {v:V} {d:PyData} (hd: ∀Z H,DatP K Z H d v):Sim ε G (tDisp [(tC (kV k),tC v)]) kPy (ret (PyData.dict [(keyD k,d)])):=by
  intro S F σ H Q Qp Ep w s hm hQ hE a ha
  refine⟨upd_same,[(k,v)],rfl,by simp,?_⟩
  rw[upd_upd,show mergeK [] [(k,v)]= [(k,v)] from rfl]
  refine hQ _ S _ _ hm (w.new ha) ?_
  show DatP K _ _ (.dict [(keyD k,d)]) _
  simp only[DatP]
  exact⟨a,[(k,v)],rfl,w.free ha,upd_same,by simp only[DatPK];exact⟨k,v,[],rfl,rfl,hd _ _,rfl⟩⟩
end TL
namespace TL
open PySem PySem.Spec PyProof.Rows L2 PC LamX
section
variable {K : PySem.W.Frag} {α ρ : Type} {ε : WX} {G : Gm K}
end
end TL

namespace PC
open PySem PySem.Spec PySem.W
theorem tab_in {K:Frag} {x:Str} {f c P:Addr} {fo co:Obj} {fd:FuncData} {vs:Array Value} (h1:nsIn K mainGlobals x=some (some (.ref f))) (h2:K.lookup f=some fo) (h3:fo.data= .func fd) (h4:fd.code= .ref c)
    (h5:K.lookup c=some co) (h6:co.data= .fields vs) (h7:vs[11]?=some (.ref P)):tabIn K x=some (c,P):=by
  obtain⟨a1,a2,a3,a4⟩:=fo
  obtain⟨b1,b2,b3,b4⟩:=co
  cases h3
  cases h6
  unfold tabIn
  simp only[h1,h2,h4,h5,h7]
end PC

set_option Elab.async false
set_option linter.all false
set_option maxRecDepth 100000
set_option maxHeartbeats 2000000
namespace PC
open PySem PySem.Spec PyProof.Rows L2
open PySem.W (EachIs)
section
variable {X : Cx} {k : Nat} {K : PySem.W.Frag}
end
mutual
theorem reads_lt {h:Heap}: ∀ {v:Value} {d:PyData} {as:List Addr},Reads h v d as→ ∀a∈as,a<h.objs.size
  | _,_,_,.none,a,m=>nomatch m
  | _,_,_,.bool _,a,m=>nomatch m
  | _,_,_,.int _ _,a,m=>nomatch m
  | _,_,_,.str _ _,a,m=>nomatch m
  | _,_,_,.list ho _ _ r,a,m=>(List.mem_cons.mp m).elim (fun e=>e ▸ Heap.lt_size ho) (readsAll_lt r a)
  | _,_,_,.tuple _ _ _ r,a,m=>readsAll_lt r a m
  | _,_,_,.dict ho _ _ r q,a,m=>(List.mem_append.mp m).elim (fun m=>(List.mem_cons.mp m).elim (fun e=>e ▸ Heap.lt_size ho) (readsAll_lt r a)) (readsAll_lt q a)
theorem readsAll_lt {h:Heap}: ∀ {vs:List Value} {ds:List PyData} {as:List Addr},ReadsAll h vs ds as→ ∀a∈as,a<h.objs.size
  | _,_,_,.nil,a,m=>nomatch m
  | _,_,_,.cons r q,a,m=>(List.mem_append.mp m).elim (reads_lt r a) (readsAll_lt q a)
end
section
variable {X : Cx} {k : Nat} {K : PySem.W.Frag}
end
end PC
namespace TL
open PySem PySem.Spec PyProof.Rows L2 PC
section
variable {K : PySem.W.Frag} {ε : WX} {G : Gm K} {α β γ τ : Type} {S : Store K}
end
end TL
namespace TL
open PySem PySem.Spec PyProof.Rows L2 PC
section
variable {K : PySem.W.Frag} {ε : WX} {G : Gm K} {α β γ δ τ : Type} {S : Store K}
end
section
variable {K : PySem.W.Frag} {ε : WX} {Gh : Option (Gm K)} {G : Gm K} {α β γ τ S' ρ : Type} {T : Type} {Gof : T → Gm K} {rr : ρ → Dm K} {ts : List TS}
end
section
variable {K : PySem.W.Frag} {α β γ δ : Type}
end
end TL
namespace PC
open PySem PySem.Spec PyProof.Rows L2
section
variable {X : Cx} {K : PySem.W.Frag} {o e value : Expr} {f : Str} {pos tpos : Pos} {ta tv : TE}
end
end PC
namespace TL
open PySem PySem.Spec PyProof.Rows L2 PC
section
variable {K : PySem.W.Frag}
end
end TL

set_option Elab.async false
set_option linter.all false
set_option maxRecDepth 100000
set_option maxHeartbeats 2000000
namespace TL
open PySem PySem.Spec PyProof.Rows L2 PC
section
variable {K : PySem.W.Frag} {ε : WX} {Gh : Option (Gm K)} {G : Gm K} {α β γ τ S' ρ : Type} {T : Type} {Gof : T → Gm K} {rr : ρ → Dm K} {ts : List TS}
end
section
variable {K : PySem.W.Frag} {ε : WX} {Gh : Option (Gm K)} {G : Gm K} {α β γ τ S' ρ : Type} {T : Type} {Gof : T → Gm K} {rr : ρ → Dm K} {ts : List TS}
end
end TL

set_option Elab.async false
set_option linter.all false
set_option maxRecDepth 100000
set_option maxHeartbeats 2000000
namespace PC
open PySem PySem.SeqAt PySem.Spec PyProof.Rows L2
open AutoSeq1 (wpAny_loadPart')
open MeetsSeq MeetsSeq2 MeetsSeq3 SeqRoads2
section
variable {prog : Program} {w : World} {A : Around} {R : Result → Shared → Prop}
end
abbrev EqvB:=V→V→Bool→Hp→Prop
def MonB (D:EqvB):Prop:= ∀x y b H H',L2.Ext H H'→D x y b H→D x y b H'
structure SubG (X:Cx) (n:Nat) (A:Around):Prop where
  room:Room n A
  fr:A.frames=X.A.frames
  g:GOkA X.K A X.base
theorem SubG.in1 {X:Cx} {n:Nat} {A:Around} (s:SubG X (n+1) A):SubG X n A.in1:=⟨s.room.in1,s.fr,s.g⟩
theorem SubG.mono {X:Cx} {n m:Nat} {A:Around} (s:SubG X n A) (h:m≤n):SubG X m A:=⟨s.room.mono h,s.fr,s.g⟩
def EqB (X:Cx) (n:Nat) (D:EqvB):Prop:=
  ∀(A:Around) (pins:List (Addr×Obj)) (s:Shared) (σ:L2.St) (H:Hp) (x y:V) (u v:Value) (b:Bool),SubG X n A→Inv X pins σ H s→RelV x u→RelV y v→D x y b H→
    wpAny (model X.prog X.w) A (eqBool u v) (fun r s'=>r=b∧ ∃H',Inv X pins σ H' s'∧L2.Ext H H') X.xe s
section
variable {X : Cx} {n m : Nat} {D D' : EqvB}
theorem EqB.mono (h:EqB X n D) (hn:n≤m):EqB X m D:=fun A pins s σ H x y u v b sb=>h A pins s σ H x y u v b (sb.mono hn)
theorem EqB.or (h:EqB X n D) (h':EqB X n D'):EqB X n (fun x y b H=>D x y b H∨D' x y b H):=fun A pins s σ H x y u v b sb I rx ry d=>by
  rcases d with d | d
  · exact h A pins s σ H x y u v b sb I rx ry d
  · exact h' A pins s σ H x y u v b sb I rx ry d
theorem MonB.or (h:MonB D) (h':MonB D'):MonB (fun x y b H=>D x y b H∨D' x y b H):=fun x y b H H' e d=>d.elim (fun d=> .inl (h x y b H H' e d)) fun d=> .inr (h' x y b H H' e d)
end
end PC

set_option Elab.async false
set_option linter.all false
set_option maxRecDepth 100000
set_option maxHeartbeats 2000000
namespace PC
open PySem PySem.Spec PyProof.Rows L2
section
variable {X : Cx} {k : Nat} {f C : Addr} {fd : FuncData} {ps : List Str} {sp : Sp}
end
end PC
namespace TL
open PySem PySem.Spec PyProof.Rows L2 PC
section
variable {K : PySem.W.Frag} {α : Type} {Z : Pl} {H : Hp}
end
end TL

set_option Elab.async false
set_option linter.all false
set_option maxRecDepth 100000
set_option maxHeartbeats 2000000
namespace PC
open PySem PySem.Spec PyProof.Rows PySem.W L2
section
variable {X : Cx} {ks : List Str} {f C : Addr} {x m : Str} {p pos apos : Pos} {o e : Expr} {es : List Expr} {kws : List Keyword} {to : TE} {t tk : TA}
    {rk : L2.St → List V → List V → Hp → VK → Prop} {pl : Sem Bool}
end
end PC
namespace TL
open PySem PySem.Spec PyProof.Rows L2 PC
section
variable {K : PySem.W.Frag} {α β : Type} {ε : WX} {G : Gm K}
end
end TL

set_option Elab.async false
set_option linter.all false
set_option maxRecDepth 100000
set_option maxHeartbeats 2000000
namespace PC
open PySem PySem.Spec PyProof.Rows L2
section
variable {X : Cx} {n k : Nat} {D : EqvB} {f C : Addr} {fd : FuncData} {ps : List Str} {sp : Sp}
end
end PC
namespace TL
open PySem PySem.Spec PyProof.Rows L2 PC
section
variable {K : PySem.W.Frag} {α : Type}
end
section
variable {K : PySem.W.Frag} {ε : WX} {G : Gm K} {α : Type}
end
end TL

set_option Elab.async false
set_option linter.all false
set_option maxRecDepth 100000
set_option maxHeartbeats 2000000
namespace TL
open PySem PySem.Spec PyProof.Rows L2 PC
section
variable {K : PySem.W.Frag} {α β γ : Type} {ε : WX} {G : Gm K}
inductive Thg (α:Type)
  | cell (a:Addr)
  | dat (d:PyData)
  | obj (x:α)
  | lst (xs:List (PyData ⊕ α))
  | tup (xs:List (PyData ⊕ α))
end
end TL

set_option Elab.async false
set_option linter.all false
set_option maxRecDepth 100000
set_option maxHeartbeats 2000000
namespace PC
open PySem PySem.Spec PyProof.Rows L2 PySem.SeqAt
structure FunP (K:PySem.W.Frag) (x qual:Str) (st:Stmt) (f:Addr) (fd:FuncData):Prop where
  ex: ∃(oc:Value) (od:Option Addr) (dV kV doc pm:Value) (an:Option Addr) (cdv ct:Value) (osl:Array (Option Value)),
    fd=PySem.W.fnOf x qual (defArgs st) (defBody st) (defScope st) dV kV doc pm an cdv ct∧K.lookup f=some ⟨oc,od,.func fd,osl⟩∧PySem.W.codeIn K cdv qual=true
  kp:PySem.W.keepIn K (.ref f)=true
section
variable {P : Program} {w : World} {K : PySem.W.Frag} {mg : Str → Option Value} {base : Heap}
end
end PC
namespace TL
open PySem PySem.Spec PyProof.Rows L2 PC
section
variable {P : Program} {w : World} {K : PySem.W.Frag} {mg : Str → Option Value} {base : Heap} {τ α β : Type}
end
section
variable {K : PySem.W.Frag} {ε : WX} {G : Gm K} {α β : Type}
end
end TL

set_option Elab.async false
set_option linter.all false
set_option maxRecDepth 100000
set_option maxHeartbeats 2000000
namespace PC
open PySem PySem.Spec PyProof.Rows PySem.SeqAt L2
section
variable {K : PySem.W.Frag} {C D : Addr} {H : Hp}
structure Apart (K:PySem.W.Frag) (D C:Addr):Prop where
  sub:PySem.W.subIn K (.ref D) (.ref C)=some false
  me:PySem.W.subIn K (.ref C) (.ref C)=some true
  cls:Cls K D
  ty:InstT K D
  cq:ClsQ K
theorem Apart.first (p:Apart K D C):PySem.W.notFirst K C (.ref D)=true:=by
  unfold PySem.W.notFirst
  rw[p.sub];simp
theorem Apart.is (p:Apart K D C) (t:AlT K C):PySem.W.kitOne K (.ref D) (.ref C)=some false:=by
  have e: ¬ (Value.ref D == Value.ref C)=true:=fun z=>by
    have e2:Value.ref D=Value.ref C:=by simpa using z
    have a:=p.sub
    rw[e2,p.me] at a
    cases a
  have ic:(PySem.W.clsIn K C).isSome=true:=t.ic
  unfold PySem.W.kitOne PySem.W.kitCls
  rw[if_neg e]
  dsimp only
  rw[ic,t.tc,if_pos (by simp)]
  exact p.sub
inductive TyW (K:PySem.W.Frag) (C:Addr) (H:Hp):V→Value→Prop where
  | al {x:V} {T:String} (h:TyA K H x T):TyW K C H x (.type T)
  | own {a D dx:Addr} {fs:List (Str×V)} (e:H a=some (.ins D dx fs)) (p:Apart K D C):TyW K C H (.ref a) (.ref D)
theorem TyW.first {x:V} {t:Value} (h:TyW K C H x t):PySem.W.notFirst K C t=true:=by
  cases h with
  | al h=>exact AlT.first h.mem
  | own e p=>exact p.first
theorem TyW.is {x:V} {t:Value} (h:TyW K C H x t) (al:AlT K C):PySem.W.kitOne K t (.ref C)=some false:=by
  cases h with
  | al h=>exact al.is h.mem
  | own e p=>exact p.is al
end
section
variable {X : Cx} {k k2 : Nat} {f C g D : Addr} {fd gd : FuncData} {ps qs : List Str} {sp sq : Sp}
end
end PC
namespace TL
open PySem PySem.Spec PyProof.Rows L2 PC
section
variable {K : PySem.W.Frag} {α β : Type} {C D : Addr}
end
section
variable {K : PySem.W.Frag}
end
section
variable {K : PySem.W.Frag} {ε : WX} {G : Gm K} {α : Type}
end
end TL

set_option Elab.async false
set_option linter.all false
set_option maxRecDepth 100000
set_option maxHeartbeats 2000000
namespace PC
open PySem PySem.Spec PyProof.Rows L2 PySem.W
structure FnE (P:Program) (w:World) (K:PySem.W.Frag) (mg:Str→Option Value) (base:Heap) (a:Addr) (c:Value) (d:Option Addr)
    (k:Nat) (f:Addr) (fd:FuncData) (ps:List Str) (sp:Sp):Prop where
  len: ∀vs H Q E,sp vs H Q E→vs.length=ps.length
  run: ∀(A:Around) (outer:List Env) (s:Shared) (H:Hp) (args:Args) (us:List Value) (vs:List V) (Q:VK) (E:XK) (oe:Obj),
    L2H.RoomH k A→Zc c d oe→(∃vs,oe.data= .fields vs)→L2H.PinOk outer H s (a,oe)→Env0 P w K mg base A outer s H→
    BindsTo s fd args (ps.zip us)→Vals vs us→sp vs H Q E→
    codeAny (model P w) A (.call (.ref f) args) (CR (L2.CX P w) outer P w H s Q E) s
abbrev cxe (P:Program) (w:World) (K:PySem.W.Frag) (mg:Str→Option Value) (base:Heap) (N:List Str) (qual:Str)
    (st:Stmt) (f:Addr) (cdv:Value) (A:Around) (outer:List Env) (s:Shared) (H:Hp) (E:XK) (p:Addr×Obj):Cx:=
  L2H.cxH (L2.CX P w) P w K mg base N qual (defScope st) f cdv A outer s H E p
section
variable {P : Program} {w : World} {K : PySem.W.Frag} {mg : Str → Option Value} {base : Heap} {a : Addr} {c : Value} {d : Option Addr}
theorem FnE.okX {x qual:Str} {st:Stmt} {f:Addr} {fd:FuncData} {N ps:List Str} {k:Nat} {sp:Sp}
    (F:Fun K x qual st f fd) (S:FnScope N ps (defScope st))
    (len: ∀vs H Q E,sp vs H Q E→vs.length=ps.length)
    (body: ∀(cdv:Value) (A:Around) (outer:List Env) (s:Shared) (H:Hp) (vs:List V) (Q:VK) (E:XK) (oe:Obj),
      L2H.RoomH k (A.deeper (envOfC qual (defScope st) s.heap.objs.size f cdv))→Zc c d oe→(∃vs,oe.data= .fields vs)→sp vs H Q E→
      ∃t,PSs (cxe P w K mg base N qual st f cdv A outer s H E (a,oe)) (defBody st) t∧
        t { nx:=fun _ H'=>Q .non H',rt:=Q } (start N vs) H):
    FnE P w K mg base a c d (k+1) f fd ps sp:=by
  obtain⟨oc,od,kV,doc,pm,an,cdv,ct,osl,rfl,lk,hcd⟩:=F.ex
  refine⟨len,fun A outer s H args us vs Q E oe hr hz hf hpin e0 hb rv hsp=> ?_⟩
  have bk: ∀b o,base.get? b=some o→s.heap.get? b=some o:=fun b o e=>(e0.bs b o e).1
  have cells: ∀y∈ps.zip us,(defScope st).names.lookup y.1=some .local∨
      ((defScope st).names.lookup y.1=some .cell∧
        ((cellsFrom (s.heap.objs.size+1) (defScope st).names []).lookup y.1).isSome=true):=by
    rintro ⟨n,v⟩ hy
    rcases S.par n (List.of_mem_zip hy).1 with z | z
    · exact .inl z
    · exact .inr ⟨z,PySem.W.cellsFrom_some _ _ _ (.inl z)⟩
  refine codeAny_call_function hr.depth ((e0.mod.kin.keeps bk) _ _ lk) rfl S.co S.gen rfl
    (PySem.W.codeRec_of (e0.mod.kin.keeps bk) hcd) (hb _ _ _ _ ?_)
  refine wpAny_newFunctionEnv_cells S.kind cells fun env he s1 x=> ?_
  subst he
  refine⟨(e0.mod.nolimit.keeps bk).keeps x.toInCall.keep,codeAny_func ?_⟩
  obtain⟨t,ht,hq⟩:=body cdv A outer s H vs Q E oe (hr.deeper _) hz hf hsp
  refine wpAny_mono (ht.run [] s1 (start N vs) H _
    (L2H.inv_startH S hpin e0 (len _ _ _ _ hsp) rv x) hq) (fun fl s' hs=> ?_) fun e s' hs=>hs
  cases fl with
  | ret u=>
    obtain⟨v,_,H',J,r,q⟩:=hs
    exact⟨v,H',J.os,J.bare,J.base,J.hok,r,q⟩
  | next=>
    obtain⟨_,H',J,q⟩:=hs
    exact⟨V.non,H',J.os,J.bare,J.base,J.hok,rfl,q⟩
  | brk=>obtain⟨_,_,_,q⟩:=hs;exact q.elim
  | cont=>obtain⟨_,_,_,q⟩:=hs;exact q.elim
end
section
variable {X : Cx} {k : Nat} {f a : Addr} {c : Value} {d : Option Addr} {oe : Obj} {fd : FuncData} {ps : List Str} {sp : Sp} {dvs : List V} {ds : List Value} {W : WX}
theorem FnE.atE (F:FnE X.prog X.w X.K X.mg X.base a c d k f fd ps sp) (hp:(a,oe)∈X.pn) (hz:Zc c d oe) (hf: ∃vs,oe.data= .fields vs) (hr:L2H.RoomH k X.A)
    (hb:Binds X.K fd ps ds) (hd:Vals dvs ds) (tk:Takes X W):
    CallS X (.ref f) (fun σ vs H Q=>sp (vs++dvs) H Q (fun cls d H=>W cls d σ H)):=by
  intro pins s σ H vs us Q I rv h
  have r2:Vals (vs++dvs) (us++ds):=rv.append hd
  have hl:(us++ds).length=ps.length:=by rw[← r2.length];exact F.len _ _ _ _ h
  have P1:=I.pin (a,oe) (List.mem_append_left _ hp)
  have hpin:L2H.PinOk X.stack H s (a,oe):=⟨P1.1,P1.2.1,fun hm=>(List.mem_cons.mp (I.stkSub a hm)).elim P1.2.2.1 P1.2.2.2.1,P1.2.2.2.2⟩
  refine wpAny_call (codeAny_mono (F.run X.A X.stack s H ⟨us,[]⟩ (us++ds) (vs++dvs) Q _ oe hr hz hf hpin I.env0
    (hb s us I.kIn hl) r2 h) fun r s' hq=> ?_)
  match r,hq with
  | .error e,hq=>exact tk e s' (XE.of_call I (fun _ _ _ h=>h) hq)
  | .ok (.ret u),hq=>exact I.after hq
  | .ok .next,hq=>exact hq.elim
  | .ok .brk,hq=>exact hq.elim
  | .ok .cont,hq=>exact hq.elim
end
theorem roomU {k:Nat} {A:Around} (r:L2H.RoomH k A):A.units+64<cLine:=by have:=r.un;omega
section
variable {X : Cx} {a : Addr} {oe : Obj} {cls : Value} {d : Option Addr}
theorem inst_errP {pins:List (Addr×Obj)} {σ:L2.St} {H:Hp} {s:Shared} {C:Addr} (hp:(a,oe)∈X.pn) (I:Inv X pins σ H s)
    (hz:Zc (.ref C) d oe) (hf: ∃vs,oe.data= .fields vs) (dd:Addr) (ed:d=some dd) (fs:List (Str×V)) (h:H dd=some (.xd fs)):
    ∃od,InstAt s.heap a oe C (some od):=by
  subst ed
  obtain⟨ha,_⟩:=I.pin (a,oe) (List.mem_append_left _ hp)
  obtain⟨vs,hv⟩:=hf
  have hx:ObjOk X.prog X.w H s.heap dd (.xd fs):=I.hok dd _ h
  obtain⟨mA,⟨od,_,_,ho,_⟩,_⟩:=hx
  exact⟨od,ha,hz.1,by unfold notCls;rw[hv] <;> rfl,by rw[hz.2];exact ho⟩
theorem call_isErrP (hp:(a,oe)∈X.pn) (hz:Zc cls d oe) (hf: ∃vs,oe.data= .fields vs):CallR X (.builtin "isinstance") (rIsErr X.K a cls d):=by
  intro pins s σ H xs us Q I r h
  obtain⟨C,c,b,dd,fs,rfl,rfl,ed,eh,q,k,hc,hQ⟩:=h
  obtain⟨od,J⟩:=inst_errP hp I hz hf dd ed fs eh
  obtain⟨u1,u2,rfl,r1,r2⟩:=vals2 r
  cases (show u1=Value.ref a from r1)
  have Z:=kitx_exc (K:=X.K) (x:=a) (ox:=oe) (od:=some od) (C:=C) q.ic q.ga q.gg q.eC q.ca k.get k.tk q.ob
  rcases hc with ⟨u,hu,e⟩ | ⟨tp,cs,ws,rfl,hT,hp,e⟩
  · have e2:=hu.eq r2
    subst e2
    exact kia_one Z I.kIn J e (fun z=>nomatch z) fun tk=>⟨.bl b,H,I.tok tk,rfl,hQ⟩
  · cases (show u2=Value.ref tp from r2)
    obtain⟨_,its,rv,o,h1,h2,n,h3⟩:=(show ObjOk X.prog X.w H s.heap tp (.tup cs) from I.hok tp _ hT)
    have e3:=ClsV.all hp rv
    subst e3
    obtain⟨oc,od',dt,sl⟩:=o
    simp only at h2 h3
    subst h2 h3
    exact kia_tup Z I.kIn J h1 e (fun z=>nomatch z) fun tk=>⟨.bl b,H,I.tok tk,rfl,hQ⟩
end
def rCntF (K:PySem.W.Frag):V→List V→Hp→VK→Prop:=fun x xs H Q=> ∃(a:Addr) (ys:List V) (y:V),x=V.ref a∧xs= [y]∧SqL K H a ys∧flatV y=true∧ys.all flatV=true∧Q (.int ((ys.countP fun z=>eqV z y:Nat):Int)) H
theorem countP_eqU {y:V}: ∀ {ys:List V} {us:List Value},Vals ys us→ys.all flatV=true→us.countP (eqU y)=ys.countP fun z=>eqV z y
  | _,_,.nil,_=>rfl
  | z::ys,u::us,.cons r t,f=>by
    rw[List.all_cons,Bool.and_eq_true] at f
    rw[List.countP_cons,List.countP_cons,eqU_of r f.1,countP_eqU t f.2]
theorem mt_cntF {X:Cx}:MtR X "list.count" (rCntF X.K):=by
  intro pins s σ H x xs v us Q I rx rxs h
  obtain⟨a,ys,y,rfl,rfl,hs,fy,fys,q⟩:=h
  cases rx
  cases rxs with
  | cons ry rt=>
    rename_i uy ut
    cases rt
    obtain⟨its,rv,⟨⟨cls,dd,data,sl⟩,n,ho,hc,hdn,hd⟩,hlen⟩:=I.list hs
    simp only at hc hd
    subst hc hd
    refine call_meets PySem.F.slot_list_count ⟨_,ho,rfl⟩ PySem.F.entry_list_count (PySem.F.args_list_count_2 _ _)
      (SeqAt.list_countAt a its.toArray n dd sl uy (eqU y)) ⟨ho,fun u' hu'=>mem_eqAt ry fy rv fys u' (by simpa using hu'),?_⟩
    refine⟨.int ((ys.countP fun z=>eqV z y:Nat):Int),H,I.tok _,⟨s.toks,?_⟩,q⟩
    show Value.int ((its.toArray.toList.countP (eqU y):Nat):Int) s.toks=_
    rw[← countP_eqU rv fys]
def rIns:V→List V→Hp→VK→Prop:=fun x vs H Q=> ∃(l:Addr) (xs:List V) (i:Int) (y:V),x= .ref l∧vs= [.int i,y]∧H l=some (.lst xs)∧xs.length<sizeLine∧0≤i∧i<2 ^ 63∧
    Q .non (upd H l (.lst (xs.take i.toNat++ [y]++xs.drop i.toNat)))
theorem mt_ins {X:Cx}:MtR X "list.insert" rIns:=mt_insert
end PC
namespace TL
open PySem PySem.Spec PyProof.Rows L2 PC
section
variable {P : Program} {w : World} {K : PySem.W.Frag} {mg : Str → Option Value} {base : Heap} {α τ : Type} {a : Addr} {c : Value} {d : Option Addr}
theorem okE {x qual:Str} {st:Stmt} {f:Addr} {fd:FuncData} {N ps:List Str} {k:Nat} {δ:τ→List (Dm K)} {r:α→Dm K} {wf:τ→W K α}
    (F:Fun K x qual st f fd) (S:FnScope N ps (defScope st)) (hl: ∀x,(δ x).length=ps.length) (dd:Option α) (hd: ∀y,dd=some y→r y=dPy .none)
    (body: ∀(cdv:Value) (A:Around) (outer:List Env) (s:Shared) (H:Hp) (E:XK) (oe:Obj),L2H.RoomH k (A.deeper (envOfC qual (defScope st) s.heap.objs.size f cdv))→Zc c d oe→(∃vs,oe.data= .fields vs)→
      ∃t,PSs (cxe P w K mg base N qual st f cdv A outer s H E (a,oe)) (defBody st) t∧ ∃m:τ→W K (Flow Unit α),
        (∀x,SimS (fun c d _ H=>E c d H) none (envOf (δ x) N.length) [t] (fun _:Unit=>List.replicate N.length none) r (m x))∧ ∀x Q E S,wf x Q E S→outW (m x) dd Q E S):
    FnE P w K mg base a c d (k+1) f fd ps (lift K δ r wf):=by
  refine FnE.okX F S (fun vs H Q E h=> ?_) (fun cdv A outer s H vs Q E oe hr hz hfl h=> ?_)
  · obtain⟨S0,F0,x,Qp,Ep,wd,ha,_⟩:=h
    rw[ha.length,hl]
  · obtain⟨t,ht,m,hs,hw⟩:=body cdv A outer s H E oe hr hz hfl
    refine⟨t,ht,?_⟩
    obtain⟨S0,F0,x,Qp,Ep,wd,ha,hf,hQ,hE⟩:=h
    have q:=hw x Qp Ep S0 hf
    refine hs x S0 F0 H S0 H _ { nx:=fun _ H'=>Q .non H',rt:=Q } _ Ep ⟨.refl wd,sat_start ha⟩ q (fun _ S' H' σ' z c'=> ?_) (fun _ _ _ _ z _=>z.elim) (fun y S' H' v z r' hv=>hQ y S' H' v z r' hv)
      (fun e S' H' c dd σ' he r' _ hk=>hE e S' H' c dd he r' hk)
    cases dd with
    | none=>exact z.elim
    | some y=>exact hQ y S' H' .non z c'.nx (by rw[hd y rfl];exact mk_non)
end
section
variable {K : PySem.W.Frag} {ε : WX} {G : Gm K} {α : Type}
theorem bls_flat: ∀bs:List Bool,(bs.map V.bl).all flatV=true
  | []=>rfl
  | b::bs=>by rw[List.map_cons,List.all_cons,bls_flat bs];rfl
theorem bls_count (x:Bool): ∀bs:List Bool,((bs.map V.bl).countP fun z=>eqV z (.bl x))=bs.count x
  | []=>rfl
  | b::bs=>by
    rw[List.map_cons,List.countP_cons,bls_count x bs,List.count_cons]
    rfl
theorem sim_countB {to te:TE} {mo:W K (List Bool)} {m:W K Bool} (o:Sim ε G to (kL kB) mo) (e:Sim ε G te kB m):
    Sim ε G (tBM K "list" (rCntF K) to (tCons te tNil)) kI (bnd mo fun xs=>wRcv (fun _=>True) (bnd m fun x=>ret ((xs.count x:Nat):Int))):=by
  intro S F σ H Q Qp Ep w st hm hQ hE
  refine o S F σ H _ _ Ep w st hm (fun ds S1 H1 v hx h1 hv=> ?_) hE
  obtain⟨a,vs,rfl,n,s,l⟩:=hv
  refine⟨ty_lst s,?_⟩
  refine e S1 F σ H1 _ _ Ep h1.wd (st.up h1.stp) hx.2 (fun x S2 H2 u hy h2 hu=> ?_) (hE.to h1)
  have s2:=h2.stp.keep _ _ n s
  cases at_bl hu
  obtain rfl:=atL_bls l
  refine⟨a,_,.bl x,rfl,rfl,.inl (.inl s2),rfl,bls_flat _,?_⟩
  rw[bls_count]
  exact hQ _ _ _ _ hy (h1.trans h2) mk_int
theorem sim_indexB {to te:TE} {mo:W K (List Bool)} {m:W K Bool} (o:Sim ε G to (kL kB) mo) (e:Sim ε G te kB m):
    Sim ε G (tBM K "list" (rIndex K) to (tCons te tNil)) kI (bnd mo fun xs=>wRcv (fun _=>True) (bnd m fun x=>wAss (x∈xs) (ret ((xs.idxOf x:Nat):Int)))):=by
  intro S F σ H Q Qp Ep w st hm hQ hE
  refine o S F σ H _ _ Ep w st hm (fun ds S1 H1 v hx h1 hv=> ?_) hE
  obtain⟨a,vs,rfl,n,s,l⟩:=hv
  refine⟨ty_lst s,?_⟩
  refine e S1 F σ H1 _ _ Ep h1.wd (st.up h1.stp) hx.2 (fun x S2 H2 u hy h2 hu=> ?_) (hE.to h1)
  obtain⟨hmem,hy⟩:=hy
  have s2:=h2.stp.keep _ _ n s
  cases at_bl hu
  obtain rfl:=atL_bls l
  have hlt:ds.idxOf x<ds.length:=List.idxOf_lt_length_of_mem hmem
  refine⟨a,_,.bl x,ds.idxOf x,.bl x,rfl,rfl,.inl (.inl s2),rfl,bls_flat _,?_,by simp[eqV],fun m z hm hz=> ?_,hQ _ _ _ _ hy (h1.trans h2) mk_int⟩
  · rw[List.getElem?_map,List.getElem?_eq_getElem hlt,List.getElem_idxOf hlt];rfl
  · rw[List.getElem?_map] at hz
    cases hb:ds[m]? with
    | none=>rw[hb] at hz;cases hz
    | some b=>
      rw[hb] at hz
      cases hz
      have hml:m<ds.length:=by omega
      rw[List.getElem?_eq_getElem hml] at hb
      cases hb
      have:=List.not_of_lt_findIdx (xs:=ds) (p:=(· == x)) (i:=m) hm
      simpa [eqV] using this
def wIns {K:PySem.W.Frag} {α:Type} (a:Addr) (i:Int) (d:Dm K) (k:W K α):W K α:=fun Q E S=> ∃ds,S a=some (.lst ds)∧ds.length<50000∧0≤i∧i<2 ^ 62∧k Q E (S.set a (.lst (ds.take i.toNat++ [d]++ds.drop i.toNat)))
theorem sim_insert {to ti te:TE} {r:α→Dm K} {mo:W K Addr} {mi:W K Int} {m:W K α} (o:Sim ε G to kRef mo) (i:Sim ε G ti kI mi) (e:Sim ε G te r m):
    Sim ε G (tBM K "list" rIns to (tCons ti (tCons te tNil))) kN (bnd mo fun a=>wRcv (IsLst a) (bnd mi fun j=>bnd m fun x=>wIns a j (r x) (ret ()))):=by
  intro S F σ H Q Qp Ep w st hm hQ hE
  refine o S F σ H _ _ Ep w st hm (fun a S1 H1 v hx h1 hv=> ?_) hE
  obtain⟨⟨ds0,ea0⟩,hx⟩:=hx
  cases (show v= .ref a from hv)
  obtain⟨vs0,e0,l0⟩:=h1.wd.cell _ _ ea0
  refine⟨ty_lst e0,?_⟩
  refine i S1 F σ H1 _ _ Ep h1.wd (st.up h1.stp) hx (fun j S3 H3 vj hj h3 hvj=> ?_) (hE.to h1)
  cases at_int hvj
  have h13:=h1.trans h3
  refine e S3 F σ H3 _ _ Ep h3.wd (st.up h13.stp) hj (fun x S2 H2 u hy h2 hu=> ?_) (hE.to h13)
  obtain⟨ds,ea,hl,j0,j1,hf⟩:=hy
  obtain⟨vs,e1,l⟩:=h2.wd.cell _ _ ea
  refine⟨a,vs,j,u,rfl,rfl,e1,by rw[l.length];exact sl_lt (by omega),j0,by omega,?_⟩
  have sp:Stp (Zd S2 F) H2 (Zd S2 F) (upd H2 a (.lst (vs.take j.toNat++ [u]++vs.drop j.toNat))):=Stp.put (.inl (by rw[ea];exact fun z=>nomatch z))
  have nx:Nxt S2 F H2 (S2.set a (.lst (ds.take j.toNat++ [r x]++ds.drop j.toNat))) (upd H2 a (.lst (vs.take j.toNat++ [u]++vs.drop j.toNat))):=
    h2.wd.putS ea ⟨_,upd_same,(((l.up sp).take j.toNat).append (AtL.one (Dm.up _ sp hu))).append ((l.up sp).drop j.toNat)⟩
  exact hQ () _ _ _ hf ((h13.trans h2).trans nx) mk_non
end
end TL
namespace TL
open PySem PySem.Spec PyProof.Rows L2 PC
theorem cal_calm {K:PySem.W.Frag} {ε:WX} {α τ:Type} {r:L2.St→List V→Hp→VK→Prop} {δ:τ→List (Dm K)} {r3:α→Dm K} {w:τ→W K α} (c:CalS (fun _ _ _ _=>False) r δ r3 w):CalS ε r δ r3 (fun x=>wCalm (w x)):=
  fun S F σ H x vs Q Qp _ wd h hw hQ _=>c S F σ H x vs Q Qp (fun _ _=>False) wd h hw hQ fun _ _ _ _ _ he _ _=>he
end TL
namespace TL
open PySem PySem.Spec PyProof.Rows L2 PC
section
variable {K : PySem.W.Frag} {ε : WX} {G : Gm K} {S : Store K} {F : Pl}
def wSlP {K:PySem.W.Frag} (d:PyData) (lo hi:Option Int):W K PyData:=match d with
  | .list ds=>ret (.list (sli ds lo hi))
  | .tuple ds=>ret (.tuple (sli ds lo hi))
  | _=>fun _ _ _=>False
theorem kL_py {ds:List PyData} {Z:Pl} {H:Hp} {v:V} (h:(kL (kPy (K:=K)) ds).at_ Z H v):(kPy (K:=K) (.list ds)).at_ Z H v:=by
  have:=co_LP (K:=K) co_id ds Z H v h
  simpa only[List.map_id] using this
theorem kT_py {ds:List PyData} {Z:Pl} {H:Hp} {v:V} (h:(kT (kPy (K:=K)) ds).at_ Z H v):(kPy (K:=K) (.tuple ds)).at_ Z H v:=by
  have:=co_TP (K:=K) co_id ds Z H v h
  simpa only[List.map_id] using this
theorem ss_PY:SlS K (PC.rSl K) kPy kPy (fun d lo hi=>wSlP d lo hi):=by
  intro S F H x lo hi v Q Qp Ep wd hv hf hQ
  cases x with
  | list ds=>
    have hv':=hv
    simp only[kPy,dPy,DatP] at hv'
    obtain⟨a,xs,rfl,n,s,l⟩:=hv'
    exact .inl ⟨a,xs,rfl,.inl s,new_lst wd (atL_cut (atL_py l)) fun H' v r' h=>hQ _ S H' v hf r' (kL_py h)⟩
  | tuple ds=>
    have hv':=hv
    simp only[kPy,dPy,DatP] at hv'
    obtain⟨a,xs,rfl,n,s,l⟩:=hv'
    have l:=atL_py l
    by_cases w:HT.sIx xs.length 0 lo=0∧HT.sIx xs.length xs.length hi=xs.length
    · refine .inr (.inl ⟨a,xs,rfl,s,w,hQ _ S H _ hf (.refl wd) ?_⟩)
      have e:sli ds lo hi=ds:=by
        have hl:xs.length=ds.length:=by rw[l.length,List.length_map]
        unfold sli
        rw[← hl,w.1,w.2,hl]
        simp
      rw[e];exact hv
    · exact .inr (.inr (.inl ⟨a,xs,rfl,s,w,new_tup wd (atL_cut l) fun H' v r' h=>hQ _ S H' v hf r' (kT_py (dP_dT h))⟩))
  | _=>exact hf.elim
def wInP {K:PySem.W.Frag} (neg:Bool) (x d:PyData):W K Bool:=fun Q _ S=> ∃ds,seqD d=some ds∧SeqAt.shaped x=true∧SeqAt.shaped d=true∧Q (neg !=ds.any fun e=>PyData.eqv e x) S
theorem os_niPY:OpS K (rNotInDat K) kPy kPy kB (fun x d=>wInP true x d):=by
  intro S F H x d v u Q Qp Ep wd hv hu ⟨ds,e,sx,sd,hf⟩ hQ
  have dd:=DatP.dat _ _ hu
  cases d with
  | list l=>cases e;exact⟨[],x,ds,wd.one,DatP.dat _ _ hv,sx,.inl ⟨dd,sd⟩,hQ _ S H _ (by simpa using hf) (.refl wd) mk_bl⟩
  | tuple l=>cases e;exact⟨[],x,ds,wd.one,DatP.dat _ _ hv,sx,.inr ⟨dd,sd⟩,hQ _ S H _ (by simpa using hf) (.refl wd) mk_bl⟩
  | _=>cases e
theorem simI_enumPy {ta:TA} {m:W K (PyData×Unit)} (h:SimA ε G ta (fun x:PyData×Unit=> [kPy x.1]) m):
    SimI ε G (iEnumA K ta) (kP kI kPy) (bnd m fun x=>wSeq x.1 fun ds=>ret (enumI ds,nI)):=by
  intro S F σ H RI Qp Ep w st hm hQ hE
  refine h S F σ H _ _ Ep w st hm (fun x S' H' vs hx hr hv=> ?_) hE
  obtain⟨ds,ed,hx⟩:=hx
  obtain⟨v,rfl,hv1⟩:=at1 hv
  obtain⟨a,xs,rfl,la,q⟩:=datp_seq hv1 ed
  have hl:xs.length=(enumI ds).length:=by rw[la.length,List.length_map,enumI_len]
  rcases q with ⟨na,ha⟩ | ⟨na,ha⟩
  · refine⟨a,xs,rfl,.inl ⟨.inl ha,hQ _ _ _ S' H' hx hr ?_⟩⟩
    refine iter_pair _ (hl ▸ walk_enum (K:=K) (a:=a) (xs:=xs)) (fun F' S2 H2 hf st w2=>⟨.inl (rd_stp st na ha),fun i v z e ez=> ?_,fun i v z e ez=> ?_⟩)
    · cases e
      rw[(enumI_get ez).1]
      exact mk_int
    · exact atL_at (la.up st) e (enumI_get ez).2
  · refine⟨a,xs,rfl,.inr ⟨ha,hQ _ _ _ S' H' hx hr ?_⟩⟩
    refine iter_pair _ (hl ▸ walk_enumT (K:=K) (a:=a) (xs:=xs)) (fun F' S2 H2 hf st w2=>⟨sqT_stp st na ha,fun i v z e ez=> ?_,fun i v z e ez=> ?_⟩)
    · cases e
      rw[(enumI_get ez).1]
      exact mk_int
    · exact atL_at (la.up st) e (enumI_get ez).2
end
end TL

set_option Elab.async false
set_option linter.all false
set_option maxRecDepth 100000
set_option maxHeartbeats 4000000
namespace PX
open PySem PySem.Spec PyProof.Rows L2 PC TL
local macro_rules | `(tactic| wtm_at "v1") => `(tactic| with_reducible first
  | refine s_seq ?_ | refine s_asg ?_ | refine s_gname ?_ | refine s_ifS ?_ | refine s_ret ?_ | refine s_drop ?_ | refine s_next ?_ | refine s_par ?_
  | refine s_c ?_ | refine s_op ?_ | refine s_un ?_ | refine s_nil ?_ | refine s_cons ?_ | refine s_cb ?_ | refine s_ck ?_
  | refine s_if ?_ | refine s_andV ?_ | refine s_orV ?_ | refine s_notV ?_ | refine s_chain ?_ | refine s_lst ?_ | refine s_tup ?_
  | refine s_slice ?_ | refine s_part ?_ | refine s_noPart ?_ | refine s_test ?_ | refine s_tB ?_ | refine s_not ?_ | refine s_and ?_ | refine s_or ?_ | refine s_retN ?_
  | refine s_rI0 ?_ | refine s_rU ?_ | refine s_add_int ?_ | refine s_eq_int ?_ | refine s_ne_int ?_ | refine s_eq_str ?_ | refine s_ne_str ?_
  | refine s_gcons ?_ | refine s_gnil ?_ | refine s_gsub ?_
  | refine s_yes ?_ | refine s_in_c ?_ | refine s_notIn_c ?_
  | refine s_tlc ?_ | refine s_iStr ?_ | refine s_iList ?_ | refine s_iTup ?_ | refine s_iRng1 ?_ | refine s_iRng2 ?_ | refine s_for ?_
  | refine s_ms ?_ | refine s_mks ?_ | refine s_fld ?_ | refine s_sfld ?_ | refine s_m1 ?_ | refine s_bits ?_ | refine s_cs ?_ | refine s_cks ?_ | refine s_bm ?_ | refine s_bm0 ?_ | refine s_iZip ?_ | refine s_lstRg ?_ | refine s_rg1 ?_ | refine s_rg2 ?_ | refine s_raise ?_ | refine s_xf ?_
  | refine iteT ?_ | refine iteF ?_ | refine ite_nf ?_ | refine ite_nt ?_)
local macro_rules | `(tactic| wtm_at "sc") => `(tactic| first
  | (show (0 : Int) < _; first | decide | omega)
  | exact cmul_r (by decide) (by decide) | exact cmul_l (by decide) (by decide) | exact cmul_r (by omega) (by omega) | exact cmul_l (by omega) (by omega)
  | exact cpow (by decide) (by decide) (by decide) | exact cdw (by decide) (by decide) | exact cdw (by omega) (by omega))
local macro_rules | `(tactic| wtm_at "v2") => `(tactic| first
  | wtm_at "v1"
  | (with_reducible refine s_var (by with_unfolding_all rfl) ?_)
  | ((with_reducible apply s_rI); focus (with_unfolding_all wtm_at "sc"))
  | (with_reducible refine ⟨_, rfl, ?_⟩)
  | (with_reducible refine ⟨⟨_, rfl⟩, ?_⟩)
  | (with_reducible refine ⟨_, _, rfl, ?_⟩))
local macro_rules | `(tactic| wtm_at "v") => `(tactic| repeat wtm_at "v2")
local macro_rules | `(tactic| wtm_at "r") => `(tactic| first
  | exact R.refl _ _
  | assumption
  | exact R.of_same (by assumption)
  | (refine R.trans ?_ (by assumption); wtm_at "r")
  | (refine R.trans ?_ (R.of_same (by assumption)); wtm_at "r"))
local macro_rules | `(tactic| wtm_at "m") => `(tactic| try simp only [↓ret_bnd, ↓bnd_ret, ↓bnd_bnd, ↓raise_bnd, ↓ass_bnd, ↓if_bnd, ↓if_t, ↓if_f, ↓if_not, ↓if_rets, ↓ass_true, ↓calm_ret, ↓calm_bnd, ↓calm_ass, ↓out_rt, ↓out_nx, ↓out_bnd, ↓out_raise, ↓out_ass, ↓out_if, ↓aft_nx, ↓aft_rt, ↓aftT_nx, ↓aftT_rt, ↓seq_bnd, ↓pk_bnd, ↓setF_bnd, ↓setI_bnd, ↓app_bnd, ↓putK_bnd, ↓putT_bnd, ↓rcv_bnd, ↓pk_out, ↓setF_out, ↓setI_out, ↓app_out, ↓putK_out, ↓putT_out, ↓rcv_out, ↓calm_calm, ↓as_int, ↓rcv_tt, ↓some_bnd, ite_true, ite_false, decide_true, decide_false])
local macro_rules | `(tactic| wtm_at "n") => `(tactic| try simp only [↓ret_bnd, ↓bnd_ret, ↓bnd_bnd, ↓raise_bnd, ↓ass_bnd, ↓if_t, ↓if_f, ↓if_not, ↓if_rets, ↓ass_true, ↓calm_ret, ↓calm_bnd, ↓calm_ass, ↓out_rt, ↓out_nx, ↓out_bnd, ↓out_raise, ↓out_ass, ↓aft_nx, ↓aft_rt, ↓aftT_nx, ↓aftT_rt, ↓seq_bnd, ↓pk_bnd, ↓setF_bnd, ↓setI_bnd, ↓app_bnd, ↓putK_bnd, ↓putT_bnd, ↓rcv_bnd, ↓pk_out, ↓setF_out, ↓setI_out, ↓app_out, ↓putK_out, ↓putT_out, ↓rcv_out, ↓calm_calm, ↓as_int, ↓rcv_tt, ↓some_bnd, ite_true, ite_false, decide_true, decide_false])

def topS (i:Nat):Stmt:=PySem.Challenge.pw_paritycells_k13_boards_refused.main.body.getD i (.Pass ⟨0,0,0,0⟩)
def clsB:Stmt→List Stmt
  | .ClassDef (body:=b) .. =>b
  | _=> []
def clsS (i j:Nat):Stmt:=(clsB (topS i)).getD j (.Pass ⟨0,0,0,0⟩)
abbrev st__law_pot:Stmt:=topS 21
abbrev N__law_pot:List Str:= ["_law_script","_law_k","_law_digits"]
theorem sc__law_pot:FnScope N__law_pot ["_law_script","_law_k"] (defScope st__law_pot):=
  ⟨rfl,rfl,rfl,by decide +kernel,rfl,by decide +kernel,by decide +kernel⟩
abbrev st__law_draw:Stmt:=topS 22
abbrev N__law_draw:List Str:= ["_law_pot_here","_law_many","_law_digit"]
theorem sc__law_draw:FnScope N__law_draw ["_law_pot_here","_law_many"] (defScope st__law_draw):=
  ⟨rfl,rfl,rfl,by decide +kernel,rfl,by decide +kernel,by decide +kernel⟩
abbrev st__law_width:Stmt:=topS 23
abbrev N__law_width:List Str:= ["_law_pot_here","_law_most"]
theorem sc__law_width:FnScope N__law_width ["_law_pot_here","_law_most"] (defScope st__law_width):=
  ⟨rfl,rfl,rfl,by decide +kernel,rfl,by decide +kernel,by decide +kernel⟩
abbrev st__law_bits:Stmt:=topS 25
abbrev N__law_bits:List Str:= ["_law_pot_here","_law_width_here","_law_spot"]
theorem sc__law_bits:FnScope N__law_bits ["_law_pot_here","_law_width_here"] (defScope st__law_bits):=
  ⟨rfl,rfl,rfl,by decide +kernel,rfl,by decide +kernel,by decide +kernel⟩
abbrev st_is_integer_in:Stmt:=topS 8
abbrev N_is_integer_in:List Str:= ["thing","low","high"]
theorem sc_is_integer_in:FnScope N_is_integer_in ["thing","low","high"] (defScope st_is_integer_in):=
  ⟨rfl,rfl,rfl,by decide +kernel,rfl,by decide +kernel,by decide +kernel⟩
abbrev st_require_size:Stmt:=topS 10
abbrev N_require_size:List Str:= ["size"]
theorem sc_require_size:FnScope N_require_size ["size"] (defScope st_require_size):=
  ⟨rfl,rfl,rfl,by decide +kernel,rfl,by decide +kernel,by decide +kernel⟩
abbrev st_mask_of:Stmt:=topS 12
abbrev N_mask_of:List Str:= ["cells","cell"]
theorem sc_mask_of:FnScope N_mask_of ["cells"] (defScope st_mask_of):=
  ⟨rfl,rfl,rfl,by decide +kernel,rfl,by decide +kernel,by decide +kernel⟩
abbrev st_is_cell:Stmt:=topS 9
abbrev N_is_cell:List Str:= ["thing","size"]
theorem sc_is_cell:FnScope N_is_cell ["thing","size"] (defScope st_is_cell):=
  ⟨rfl,rfl,rfl,by decide +kernel,rfl,by decide +kernel,by decide +kernel⟩
abbrev st_cell_tuple:Stmt:=topS 15
abbrev N_cell_tuple:List Str:= ["things","size","one","found","other"]
theorem sc_cell_tuple:FnScope N_cell_tuple ["things","size"] (defScope st_cell_tuple):=
  ⟨rfl,rfl,rfl,by decide +kernel,rfl,by decide +kernel,by decide +kernel⟩
abbrev st_cell_mask:Stmt:=topS 16
abbrev N_cell_mask:List Str:= ["things","size"]
theorem sc_cell_mask:FnScope N_cell_mask ["things","size"] (defScope st_cell_mask):=
  ⟨rfl,rfl,rfl,by decide +kernel,rfl,by decide +kernel,by decide +kernel⟩
abbrev st_Board____init__:Stmt:=clsS 18 0
abbrev N_Board____init__:List Str:= ["self","size","up"]
theorem sc_Board____init__:FnScope N_Board____init__ ["self","size","up"] (defScope st_Board____init__):=
  ⟨rfl,rfl,rfl,by decide +kernel,rfl,by decide +kernel,by decide +kernel⟩
abbrev st__law_up:Stmt:=topS 26
abbrev N__law_up:List Str:= ["_law_bits_here","_law_spot","_law_bit"]
theorem sc__law_up:FnScope N__law_up ["_law_bits_here"] (defScope st__law_up):=
  ⟨rfl,rfl,rfl,by decide +kernel,rfl,by decide +kernel,by decide +kernel⟩
abbrev st__law_made:Stmt:=topS 27
abbrev N__law_made:List Str:= ["_law_bits_here"]
theorem sc__law_made:FnScope N__law_made ["_law_bits_here"] (defScope st__law_made):=
  ⟨rfl,rfl,rfl,by decide +kernel,rfl,by decide +kernel,by decide +kernel⟩
abbrev st__law_any_thing:Stmt:=topS 29
abbrev N__law_any_thing:List Str:= ["_law_pot_here","_law_far","_law_some"]
theorem sc__law_any_thing:FnScope N__law_any_thing ["_law_pot_here"] (defScope st__law_any_thing):=
  ⟨rfl,rfl,rfl,by decide +kernel,rfl,by decide +kernel,by decide +kernel⟩
abbrev st__law_mixed:Stmt:=topS 31
abbrev N__law_mixed:List Str:= ["_law_pot_here","_law_given","_law_left","_law_spot"]
theorem sc__law_mixed:FnScope N__law_mixed ["_law_pot_here","_law_given"] (defScope st__law_mixed):=
  ⟨rfl,rfl,rfl,by decide +kernel,rfl,by decide +kernel,by decide +kernel⟩
abbrev st__law_spots:Stmt:=topS 24
abbrev N__law_spots:List Str:= ["_law_pot_here","_law_least","_law_width_here","_law_way","_law_spot"]
theorem sc__law_spots:FnScope N__law_spots ["_law_pot_here","_law_least","_law_width_here"] (defScope st__law_spots):=
  ⟨rfl,rfl,rfl,by decide +kernel,rfl,by decide +kernel,by decide +kernel⟩
abbrev st__law_odd_spots:Stmt:=topS 33
abbrev N__law_odd_spots:List Str:= ["_law_pot_here","_law_width_here","_law_spots_here","_law_way"]
theorem sc__law_odd_spots:FnScope N__law_odd_spots ["_law_pot_here","_law_width_here"] (defScope st__law_odd_spots):=
  ⟨rfl,rfl,rfl,by decide +kernel,rfl,by decide +kernel,by decide +kernel⟩
abbrev st__law_is_int:Stmt:=topS 30
abbrev N__law_is_int:List Str:= ["_law_item","_law_low","_law_high"]
theorem sc__law_is_int:FnScope N__law_is_int ["_law_item","_law_low","_law_high"] (defScope st__law_is_int):=
  ⟨rfl,rfl,rfl,by decide +kernel,rfl,by decide +kernel,by decide +kernel⟩
abbrev st__law_kind:Stmt:=topS 34
abbrev N__law_kind:List Str:= ["_law_e","_law_found"]
theorem sc__law_kind:FnScope N__law_kind ["_law_e"] (defScope st__law_kind):=
  ⟨rfl,rfl,rfl,by decide +kernel,rfl,by decide +kernel,by decide +kernel⟩
abbrev st__law_met:Stmt:=topS 35
abbrev N__law_met:List Str:= ["_law_call","_law_told","_law_e"]
theorem sc__law_met:FnScope N__law_met ["_law_call"] (defScope st__law_met):=
  ⟨rfl,rfl,rfl,by decide +kernel,rfl,by decide +kernel,by decide +kernel⟩
abbrev st_require_cell:Stmt:=topS 11
abbrev N_require_cell:List Str:= ["cell","low","size"]
theorem sc_require_cell:FnScope N_require_cell ["cell","low","size"] (defScope st_require_cell):=
  ⟨rfl,rfl,rfl,by decide +kernel,rfl,by decide +kernel,by decide +kernel⟩
abbrev st_Board__is_up:Stmt:=clsS 18 3
abbrev N_Board__is_up:List Str:= ["self","cell"]
theorem sc_Board__is_up:FnScope N_Board__is_up ["self","cell"] (defScope st_Board__is_up):=
  ⟨rfl,rfl,rfl,by decide +kernel,rfl,by decide +kernel,by decide +kernel⟩
abbrev st__law_are_spots:Stmt:=topS 32
abbrev N__law_are_spots:List Str:= ["_law_given","_law_least","_law_width_here","_law_one","_law_at"]
theorem sc__law_are_spots:FnScope N__law_are_spots ["_law_given","_law_least","_law_width_here"] (defScope st__law_are_spots):=
  ⟨rfl,rfl,rfl,by decide +kernel,rfl,by decide +kernel,by decide +kernel⟩
abbrev st_is_odd:Stmt:=topS 14
abbrev N_is_odd:List Str:= ["mask","rest","found"]
theorem sc_is_odd:FnScope N_is_odd ["mask"] (defScope st_is_odd):=
  ⟨rfl,rfl,rfl,by decide +kernel,rfl,by decide +kernel,by decide +kernel⟩
abbrev st_Board__parity:Stmt:=clsS 18 4
abbrev N_Board__parity:List Str:= ["self","cells"]
theorem sc_Board__parity:FnScope N_Board__parity ["self","cells"] (defScope st_Board__parity):=
  ⟨rfl,rfl,rfl,by decide +kernel,rfl,by decide +kernel,by decide +kernel⟩
abbrev st_cells_in:Stmt:=topS 13
abbrev N_cells_in:List Str:= ["mask","cell"]
theorem sc_cells_in:FnScope N_cells_in ["mask"] (defScope st_cells_in):=
  ⟨rfl,rfl,rfl,by decide +kernel,rfl,by decide +kernel,by decide +kernel⟩
abbrev st_board_of:Stmt:=topS 19
abbrev N_board_of:List Str:= ["size","mask"]
theorem sc_board_of:FnScope N_board_of ["size","mask"] (defScope st_board_of):=
  ⟨rfl,rfl,rfl,by decide +kernel,rfl,by decide +kernel,by decide +kernel⟩
abbrev st_Board__toggled:Stmt:=clsS 18 5
abbrev N_Board__toggled:List Str:= ["self","cells","changed"]
theorem sc_Board__toggled:FnScope N_Board__toggled ["self","cells"] (defScope st_Board__toggled):=
  ⟨rfl,rfl,rfl,by decide +kernel,rfl,by decide +kernel,by decide +kernel⟩
abbrev st__law_asked_right:Stmt:=topS 37
abbrev N__law_asked_right:List Str:= ["_law_pot_here","_law_board","_law_width_here","_law_thing","_law_spots_here","_law_due"]
theorem sc__law_asked_right:FnScope N__law_asked_right ["_law_pot_here","_law_board","_law_width_here"] (defScope st__law_asked_right):=
  ⟨rfl,rfl,rfl,by decide +kernel,rfl,by decide +kernel,by decide +kernel⟩
abbrev st__law_made_right:Stmt:=topS 36
abbrev N__law_made_right:List Str:= ["_law_thing","_law_spots_here","_law_due"]
theorem sc__law_made_right:FnScope N__law_made_right ["_law_thing","_law_spots_here"] (defScope st__law_made_right):=
  ⟨rfl,rfl,rfl,by decide +kernel,rfl,by decide +kernel,by decide +kernel⟩
abbrev st_Board__size:Stmt:=clsS 18 1
abbrev N_Board__size:List Str:= ["self"]
theorem sc_Board__size:FnScope N_Board__size ["self"] (defScope st_Board__size):=
  ⟨rfl,rfl,rfl,by decide +kernel,rfl,by decide +kernel,by decide +kernel⟩
abbrev st_Board__up:Stmt:=clsS 18 2
abbrev N_Board__up:List Str:= ["self"]
theorem sc_Board__up:FnScope N_Board__up ["self"] (defScope st_Board__up):=
  ⟨rfl,rfl,rfl,by decide +kernel,rfl,by decide +kernel,by decide +kernel⟩
abbrev st__law_is_so:Stmt:=topS 28
abbrev N__law_is_so:List Str:= ["_law_found","_law_bits_here"]
theorem sc__law_is_so:FnScope N__law_is_so ["_law_found","_law_bits_here"] (defScope st__law_is_so):=
  ⟨rfl,rfl,rfl,by decide +kernel,rfl,by decide +kernel,by decide +kernel⟩
abbrev st_law:Stmt:=topS 38
abbrev N_law:List Str:= ["_law_script","_law_k","_law_pot_here","_law_width_here","_law_bits_here","_law_board","_law_turn","_law_thing"]
theorem sc_law:FnScope N_law ["_law_script"] (defScope st_law):=
  ⟨rfl,rfl,rfl,by decide +kernel,rfl,by decide +kernel,by decide +kernel⟩
abbrev st_NoSize:Stmt:=clsS 2 0
theorem d_NoSize:ErDef st_NoSize "NoSize.__init__" "CellError" "value" [] where
  bind:=fun _ _ _ _ _ _ us h=>match us,h with | [_,_],_=>rfl
  co:=rfl
  gen:=rfl
  kind:=rfl
  loc:=by decide +kernel
  glo:=rfl
  nd:=by decide +kernel
  few:=by decide
  ndb:=by decide +kernel
  hi:=fun _ _ _=>rfl
  body:=⟨_,_,_,_,_,_,_,_,(_,_,_,_),[],_,rfl,by refine⟨?_,rfl⟩;exact fun _ _ _=>rfl⟩
abbrev st_NoCell:Stmt:=clsS 3 0
theorem d_NoCell:ErDef st_NoCell "NoCell.__init__" "CellError" "cell" [] where
  bind:=fun _ _ _ _ _ _ us h=>match us,h with | [_,_],_=>rfl
  co:=rfl
  gen:=rfl
  kind:=rfl
  loc:=by decide +kernel
  glo:=rfl
  nd:=by decide +kernel
  few:=by decide
  ndb:=by decide +kernel
  hi:=fun _ _ _=>rfl
  body:=⟨_,_,_,_,_,_,_,_,(_,_,_,_),[],_,rfl,by refine⟨?_,rfl⟩;exact fun _ _ _=>rfl⟩
abbrev st_NoCells:Stmt:=clsS 4 0
theorem d_NoCells:ErDef st_NoCells "NoCells.__init__" "CellError" "cells" [] where
  bind:=fun _ _ _ _ _ _ us h=>match us,h with | [_,_],_=>rfl
  co:=rfl
  gen:=rfl
  kind:=rfl
  loc:=by decide +kernel
  glo:=rfl
  nd:=by decide +kernel
  few:=by decide
  ndb:=by decide +kernel
  hi:=fun _ _ _=>rfl
  body:=⟨_,_,_,_,_,_,_,_,(_,_,_,_),[],_,rfl,by refine⟨?_,rfl⟩;exact fun _ _ _=>rfl⟩
abbrev st_NoFlip:Stmt:=clsS 5 0
theorem d_NoFlip:ErDef st_NoFlip "NoFlip.__init__" "CellError" "why" [] where
  bind:=fun _ _ _ _ _ _ us h=>match us,h with | [_,_],_=>rfl
  co:=rfl
  gen:=rfl
  kind:=rfl
  loc:=by decide +kernel
  glo:=rfl
  nd:=by decide +kernel
  few:=by decide
  ndb:=by decide +kernel
  hi:=fun _ _ _=>rfl
  body:=⟨_,_,_,_,_,_,_,_,(_,_,_,_),[],_,rfl,by refine⟨?_,rfl⟩;exact fun _ _ _=>rfl⟩
structure Cl where
  CellError:Addr
  NoSize:Addr
  NoCell:Addr
  NoCells:Addr
  NoFlip:Addr
  Board:Addr
  d_Board____init___up:Addr
  tb__law_asked_right:Addr
  tb__law_made_right:Addr
abbrev q__law_asked_right:Str:=("_law_asked_right" :Str)++ ".<locals>." ++ "<lambda>"
abbrev q__law_made_right:Str:=("_law_made_right" :Str)++ ".<locals>." ++ "<lambda>"
abbrev tabs (cl:Cl):List (Addr×Str):= [(cl.tb__law_asked_right,q__law_asked_right),(cl.tb__law_made_right,q__law_made_right)]
structure Tx (K:PySem.W.Frag) (mg:Str→Option Value) (cl:Cl) where
  lb:Heap
  tnd:((tabs cl).map (·.1)).Nodup
  a__law_pot:Addr
  fd__law_pot:FuncData
  F__law_pot:Fun K "_law_pot" "_law_pot" st__law_pot a__law_pot fd__law_pot
  g__law_pot:mg "_law_pot" =some (.ref a__law_pot)
  a__law_draw:Addr
  fd__law_draw:FuncData
  F__law_draw:Fun K "_law_draw" "_law_draw" st__law_draw a__law_draw fd__law_draw
  g__law_draw:mg "_law_draw" =some (.ref a__law_draw)
  a__law_width:Addr
  fd__law_width:FuncData
  F__law_width:Fun K "_law_width" "_law_width" st__law_width a__law_width fd__law_width
  g__law_width:mg "_law_width" =some (.ref a__law_width)
  a__law_bits:Addr
  fd__law_bits:FuncData
  F__law_bits:Fun K "_law_bits" "_law_bits" st__law_bits a__law_bits fd__law_bits
  g__law_bits:mg "_law_bits" =some (.ref a__law_bits)
  a_is_integer_in:Addr
  fd_is_integer_in:FuncData
  F_is_integer_in:Fun K "is_integer_in" "is_integer_in" st_is_integer_in a_is_integer_in fd_is_integer_in
  g_is_integer_in:mg "is_integer_in" =some (.ref a_is_integer_in)
  a_require_size:Addr
  fd_require_size:FuncData
  F_require_size:Fun K "require_size" "require_size" st_require_size a_require_size fd_require_size
  g_require_size:mg "require_size" =some (.ref a_require_size)
  a_mask_of:Addr
  fd_mask_of:FuncData
  F_mask_of:Fun K "mask_of" "mask_of" st_mask_of a_mask_of fd_mask_of
  g_mask_of:mg "mask_of" =some (.ref a_mask_of)
  a_is_cell:Addr
  fd_is_cell:FuncData
  F_is_cell:Fun K "is_cell" "is_cell" st_is_cell a_is_cell fd_is_cell
  g_is_cell:mg "is_cell" =some (.ref a_is_cell)
  D_is_cell:FunD K "is_cell" "is_cell" (defArgs st_is_cell) (defBody st_is_cell) (defScope st_is_cell) [] [("size",V.int 40)] a_is_cell fd_is_cell
  a_cell_tuple:Addr
  fd_cell_tuple:FuncData
  F_cell_tuple:Fun K "cell_tuple" "cell_tuple" st_cell_tuple a_cell_tuple fd_cell_tuple
  g_cell_tuple:mg "cell_tuple" =some (.ref a_cell_tuple)
  D_cell_tuple:FunD K "cell_tuple" "cell_tuple" (defArgs st_cell_tuple) (defBody st_cell_tuple) (defScope st_cell_tuple) [] [("size",V.int 40)] a_cell_tuple fd_cell_tuple
  a_cell_mask:Addr
  fd_cell_mask:FuncData
  F_cell_mask:Fun K "cell_mask" "cell_mask" st_cell_mask a_cell_mask fd_cell_mask
  g_cell_mask:mg "cell_mask" =some (.ref a_cell_mask)
  a_Board____init__:Addr
  fd_Board____init__:FuncData
  F_Board____init__:Fun K "__init__" "Board.__init__" st_Board____init__ a_Board____init__ fd_Board____init__
  mk_Board:Mk K cl.Board a_Board____init__
  D_Board____init__:FunD K "__init__" "Board.__init__" (defArgs st_Board____init__) (defBody st_Board____init__) (defScope st_Board____init__) [] [("up",V.ref cl.d_Board____init___up)] a_Board____init__ fd_Board____init__
  dt_Board____init___up:SqT K (fun _=>none) cl.d_Board____init___up []
  a__law_up:Addr
  fd__law_up:FuncData
  F__law_up:Fun K "_law_up" "_law_up" st__law_up a__law_up fd__law_up
  g__law_up:mg "_law_up" =some (.ref a__law_up)
  a__law_made:Addr
  fd__law_made:FuncData
  F__law_made:Fun K "_law_made" "_law_made" st__law_made a__law_made fd__law_made
  g__law_made:mg "_law_made" =some (.ref a__law_made)
  a__law_any_thing:Addr
  fd__law_any_thing:FuncData
  F__law_any_thing:Fun K "_law_any_thing" "_law_any_thing" st__law_any_thing a__law_any_thing fd__law_any_thing
  g__law_any_thing:mg "_law_any_thing" =some (.ref a__law_any_thing)
  a__law_mixed:Addr
  fd__law_mixed:FuncData
  F__law_mixed:Fun K "_law_mixed" "_law_mixed" st__law_mixed a__law_mixed fd__law_mixed
  g__law_mixed:mg "_law_mixed" =some (.ref a__law_mixed)
  a__law_spots:Addr
  fd__law_spots:FuncData
  F__law_spots:Fun K "_law_spots" "_law_spots" st__law_spots a__law_spots fd__law_spots
  g__law_spots:mg "_law_spots" =some (.ref a__law_spots)
  a__law_odd_spots:Addr
  fd__law_odd_spots:FuncData
  F__law_odd_spots:Fun K "_law_odd_spots" "_law_odd_spots" st__law_odd_spots a__law_odd_spots fd__law_odd_spots
  g__law_odd_spots:mg "_law_odd_spots" =some (.ref a__law_odd_spots)
  a__law_is_int:Addr
  fd__law_is_int:FuncData
  F__law_is_int:Fun K "_law_is_int" "_law_is_int" st__law_is_int a__law_is_int fd__law_is_int
  g__law_is_int:mg "_law_is_int" =some (.ref a__law_is_int)
  a__law_kind:Addr
  fd__law_kind:FuncData
  F__law_kind:Fun K "_law_kind" "_law_kind" st__law_kind a__law_kind fd__law_kind
  g__law_kind:mg "_law_kind" =some (.ref a__law_kind)
  a__law_met:Addr
  fd__law_met:FuncData
  F__law_met:Fun K "_law_met" "_law_met" st__law_met a__law_met fd__law_met
  g__law_met:mg "_law_met" =some (.ref a__law_met)
  a_require_cell:Addr
  fd_require_cell:FuncData
  F_require_cell:Fun K "require_cell" "require_cell" st_require_cell a_require_cell fd_require_cell
  g_require_cell:mg "require_cell" =some (.ref a_require_cell)
  a_Board__is_up:Addr
  fd_Board__is_up:FuncData
  F_Board__is_up:Fun K "is_up" "Board.is_up" st_Board__is_up a_Board__is_up fd_Board__is_up
  m_Board__is_up:Meth K cl.Board "is_up" a_Board__is_up
  a__law_are_spots:Addr
  fd__law_are_spots:FuncData
  F__law_are_spots:Fun K "_law_are_spots" "_law_are_spots" st__law_are_spots a__law_are_spots fd__law_are_spots
  g__law_are_spots:mg "_law_are_spots" =some (.ref a__law_are_spots)
  a_is_odd:Addr
  fd_is_odd:FuncData
  F_is_odd:Fun K "is_odd" "is_odd" st_is_odd a_is_odd fd_is_odd
  g_is_odd:mg "is_odd" =some (.ref a_is_odd)
  a_Board__parity:Addr
  fd_Board__parity:FuncData
  F_Board__parity:Fun K "parity" "Board.parity" st_Board__parity a_Board__parity fd_Board__parity
  m_Board__parity:Meth K cl.Board "parity" a_Board__parity
  a_cells_in:Addr
  fd_cells_in:FuncData
  F_cells_in:Fun K "cells_in" "cells_in" st_cells_in a_cells_in fd_cells_in
  g_cells_in:mg "cells_in" =some (.ref a_cells_in)
  a_board_of:Addr
  fd_board_of:FuncData
  F_board_of:Fun K "board_of" "board_of" st_board_of a_board_of fd_board_of
  g_board_of:mg "board_of" =some (.ref a_board_of)
  a_Board__toggled:Addr
  fd_Board__toggled:FuncData
  F_Board__toggled:Fun K "toggled" "Board.toggled" st_Board__toggled a_Board__toggled fd_Board__toggled
  m_Board__toggled:Meth K cl.Board "toggled" a_Board__toggled
  a__law_asked_right:Addr
  fd__law_asked_right:FuncData
  F__law_asked_right:Fun K "_law_asked_right" "_law_asked_right" st__law_asked_right a__law_asked_right fd__law_asked_right
  lc__law_asked_right:Addr
  lk__law_asked_right:fd__law_asked_right.code= .ref lc__law_asked_right
  tb__law_asked_right:LamX.TabB lb mg lc__law_asked_right cl.tb__law_asked_right
  g__law_asked_right:mg "_law_asked_right" =some (.ref a__law_asked_right)
  a__law_made_right:Addr
  fd__law_made_right:FuncData
  F__law_made_right:Fun K "_law_made_right" "_law_made_right" st__law_made_right a__law_made_right fd__law_made_right
  lc__law_made_right:Addr
  lk__law_made_right:fd__law_made_right.code= .ref lc__law_made_right
  tb__law_made_right:LamX.TabB lb mg lc__law_made_right cl.tb__law_made_right
  g__law_made_right:mg "_law_made_right" =some (.ref a__law_made_right)
  a_Board__size:Addr
  fd_Board__size:FuncData
  F_Board__size:Fun K "size" "Board.size" st_Board__size a_Board__size fd_Board__size
  m_Board__size:Meth K cl.Board "size" a_Board__size
  a_Board__up:Addr
  fd_Board__up:FuncData
  F_Board__up:Fun K "up" "Board.up" st_Board__up a_Board__up fd_Board__up
  m_Board__up:Meth K cl.Board "up" a_Board__up
  a__law_is_so:Addr
  fd__law_is_so:FuncData
  F__law_is_so:Fun K "_law_is_so" "_law_is_so" st__law_is_so a__law_is_so fd__law_is_so
  g__law_is_so:mg "_law_is_so" =some (.ref a__law_is_so)
  a_law:Addr
  fd_law:FuncData
  F_law:Fun K "law" "law" st_law a_law fd_law
  g_law:mg "law" =some (.ref a_law)
  g_CellError:mg "CellError" =some (.ref cl.CellError)
  q_CellError:ErrQ K cl.CellError
  f_NoSize:Addr
  e_NoSize:ErrT K mg "NoSize" "CellError" "ValueError" "ValueError.__new__" "ValueError.__init__" [.type "ValueError",.type "Exception",.type "BaseException",.type "object"] "value" [] cl.NoSize cl.CellError f_NoSize st_NoSize
  q_NoSize:ErrQ K cl.NoSize
  f_NoCell:Addr
  e_NoCell:ErrT K mg "NoCell" "CellError" "ValueError" "ValueError.__new__" "ValueError.__init__" [.type "ValueError",.type "Exception",.type "BaseException",.type "object"] "cell" [] cl.NoCell cl.CellError f_NoCell st_NoCell
  q_NoCell:ErrQ K cl.NoCell
  f_NoCells:Addr
  e_NoCells:ErrT K mg "NoCells" "CellError" "ValueError" "ValueError.__new__" "ValueError.__init__" [.type "ValueError",.type "Exception",.type "BaseException",.type "object"] "cells" [] cl.NoCells cl.CellError f_NoCells st_NoCells
  q_NoCells:ErrQ K cl.NoCells
  f_NoFlip:Addr
  e_NoFlip:ErrT K mg "NoFlip" "CellError" "ValueError" "ValueError.__new__" "ValueError.__init__" [.type "ValueError",.type "Exception",.type "BaseException",.type "object"] "why" [] cl.NoFlip cl.CellError f_NoFlip st_NoFlip
  q_NoFlip:ErrQ K cl.NoFlip
  cq:ClsQ K
  gc_Board:mg "Board" =some (.ref cl.Board)
  cls_Board:Cls K cl.Board
  ty_Board:InstT K cl.Board
  no_Board_own_size:NoAttr K cl.Board "own_size"
  no_Board_up_mask:NoAttr K cl.Board "up_mask"
  s_NoSize_NoCell:PySem.W.subIn K (.ref cl.NoSize) (.ref cl.NoCell)=some false
  s_NoSize_NoCells:PySem.W.subIn K (.ref cl.NoSize) (.ref cl.NoCells)=some false
  s_NoSize_NoFlip:PySem.W.subIn K (.ref cl.NoSize) (.ref cl.NoFlip)=some false
  s_NoSize_NoSize:PySem.W.subIn K (.ref cl.NoSize) (.ref cl.NoSize)=some true
  s_NoSize_ValueError:PySem.W.subIn K (.ref cl.NoSize) (.type "ValueError")=some true
  s_NoCell_NoCell:PySem.W.subIn K (.ref cl.NoCell) (.ref cl.NoCell)=some true
  s_NoCell_NoCells:PySem.W.subIn K (.ref cl.NoCell) (.ref cl.NoCells)=some false
  s_NoCell_NoFlip:PySem.W.subIn K (.ref cl.NoCell) (.ref cl.NoFlip)=some false
  s_NoCell_NoSize:PySem.W.subIn K (.ref cl.NoCell) (.ref cl.NoSize)=some false
  s_NoCell_ValueError:PySem.W.subIn K (.ref cl.NoCell) (.type "ValueError")=some true
  s_NoCells_NoCell:PySem.W.subIn K (.ref cl.NoCells) (.ref cl.NoCell)=some false
  s_NoCells_NoCells:PySem.W.subIn K (.ref cl.NoCells) (.ref cl.NoCells)=some true
  s_NoCells_NoFlip:PySem.W.subIn K (.ref cl.NoCells) (.ref cl.NoFlip)=some false
  s_NoCells_NoSize:PySem.W.subIn K (.ref cl.NoCells) (.ref cl.NoSize)=some false
  s_NoCells_ValueError:PySem.W.subIn K (.ref cl.NoCells) (.type "ValueError")=some true
  s_NoFlip_NoCell:PySem.W.subIn K (.ref cl.NoFlip) (.ref cl.NoCell)=some false
  s_NoFlip_NoCells:PySem.W.subIn K (.ref cl.NoFlip) (.ref cl.NoCells)=some false
  s_NoFlip_NoFlip:PySem.W.subIn K (.ref cl.NoFlip) (.ref cl.NoFlip)=some true
  s_NoFlip_NoSize:PySem.W.subIn K (.ref cl.NoFlip) (.ref cl.NoSize)=some false
  s_NoFlip_ValueError:PySem.W.subIn K (.ref cl.NoFlip) (.type "ValueError")=some true
  z_ValueError:mg "ValueError" =none
  z_abs:mg "abs" =none
  z_all:mg "all" =none
  z_bool:mg "bool" =none
  z_divmod:mg "divmod" =none
  z_enumerate:mg "enumerate" =none
  z_int:mg "int" =none
  z_isinstance:mg "isinstance" =none
  z_len:mg "len" =none
  z_list:mg "list" =none
  z_max:mg "max" =none
  z_min:mg "min" =none
  z_range:mg "range" =none
  z_repr:mg "repr" =none
  z_sorted:mg "sorted" =none
  z_sum:mg "sum" =none
  z_tuple:mg "tuple" =none
  z_zip:mg "zip" =none
  t_MOST_CELLS:Tok
  c_MOST_CELLS:mg "MOST_CELLS" =some (.int 40 t_MOST_CELLS)
section
variable {P : Program} {w : World} {K : PySem.W.Frag} {mg : Str → Option Value} {base : Heap} {cl : Cl}
theorem b__law_pot (T:Tx K mg cl):Binds K T.fd__law_pot ["_law_script","_law_k"] []:=T.F__law_pot.binds fun _ _ _ _ _ _ us hl=>match us,hl with | [_,_],_=>rfl
theorem b__law_draw (T:Tx K mg cl):Binds K T.fd__law_draw ["_law_pot_here","_law_many"] []:=T.F__law_draw.binds fun _ _ _ _ _ _ us hl=>match us,hl with | [_,_],_=>rfl
theorem b__law_width (T:Tx K mg cl):Binds K T.fd__law_width ["_law_pot_here","_law_most"] []:=T.F__law_width.binds fun _ _ _ _ _ _ us hl=>match us,hl with | [_,_],_=>rfl
theorem b__law_bits (T:Tx K mg cl):Binds K T.fd__law_bits ["_law_pot_here","_law_width_here"] []:=T.F__law_bits.binds fun _ _ _ _ _ _ us hl=>match us,hl with | [_,_],_=>rfl
theorem b_is_integer_in (T:Tx K mg cl):Binds K T.fd_is_integer_in ["thing","low","high"] []:=T.F_is_integer_in.binds fun _ _ _ _ _ _ us hl=>match us,hl with | [_,_,_],_=>rfl
theorem b_require_size (T:Tx K mg cl):Binds K T.fd_require_size ["size"] []:=T.F_require_size.binds fun _ _ _ _ _ _ us hl=>match us,hl with | [_],_=>rfl
theorem b_mask_of (T:Tx K mg cl):Binds K T.fd_mask_of ["cells"] []:=T.F_mask_of.binds fun _ _ _ _ _ _ us hl=>match us,hl with | [_],_=>rfl
theorem b_cell_mask (T:Tx K mg cl):Binds K T.fd_cell_mask ["things","size"] []:=T.F_cell_mask.binds fun _ _ _ _ _ _ us hl=>match us,hl with | [_,_],_=>rfl
theorem b__law_up (T:Tx K mg cl):Binds K T.fd__law_up ["_law_bits_here"] []:=T.F__law_up.binds fun _ _ _ _ _ _ us hl=>match us,hl with | [_],_=>rfl
theorem b__law_made (T:Tx K mg cl):Binds K T.fd__law_made ["_law_bits_here"] []:=T.F__law_made.binds fun _ _ _ _ _ _ us hl=>match us,hl with | [_],_=>rfl
theorem b__law_any_thing (T:Tx K mg cl):Binds K T.fd__law_any_thing ["_law_pot_here"] []:=T.F__law_any_thing.binds fun _ _ _ _ _ _ us hl=>match us,hl with | [_],_=>rfl
theorem b__law_mixed (T:Tx K mg cl):Binds K T.fd__law_mixed ["_law_pot_here","_law_given"] []:=T.F__law_mixed.binds fun _ _ _ _ _ _ us hl=>match us,hl with | [_,_],_=>rfl
theorem b__law_spots (T:Tx K mg cl):Binds K T.fd__law_spots ["_law_pot_here","_law_least","_law_width_here"] []:=T.F__law_spots.binds fun _ _ _ _ _ _ us hl=>match us,hl with | [_,_,_],_=>rfl
theorem b__law_odd_spots (T:Tx K mg cl):Binds K T.fd__law_odd_spots ["_law_pot_here","_law_width_here"] []:=T.F__law_odd_spots.binds fun _ _ _ _ _ _ us hl=>match us,hl with | [_,_],_=>rfl
theorem b__law_is_int (T:Tx K mg cl):Binds K T.fd__law_is_int ["_law_item","_law_low","_law_high"] []:=T.F__law_is_int.binds fun _ _ _ _ _ _ us hl=>match us,hl with | [_,_,_],_=>rfl
theorem b__law_kind (T:Tx K mg cl):Binds K T.fd__law_kind ["_law_e"] []:=T.F__law_kind.binds fun _ _ _ _ _ _ us hl=>match us,hl with | [_],_=>rfl
theorem b__law_met (T:Tx K mg cl):Binds K T.fd__law_met ["_law_call"] []:=T.F__law_met.binds fun _ _ _ _ _ _ us hl=>match us,hl with | [_],_=>rfl
theorem b_require_cell (T:Tx K mg cl):Binds K T.fd_require_cell ["cell","low","size"] []:=T.F_require_cell.binds fun _ _ _ _ _ _ us hl=>match us,hl with | [_,_,_],_=>rfl
theorem b_Board__is_up (T:Tx K mg cl):Binds K T.fd_Board__is_up ["self","cell"] []:=T.F_Board__is_up.binds fun _ _ _ _ _ _ us hl=>match us,hl with | [_,_],_=>rfl
theorem b__law_are_spots (T:Tx K mg cl):Binds K T.fd__law_are_spots ["_law_given","_law_least","_law_width_here"] []:=T.F__law_are_spots.binds fun _ _ _ _ _ _ us hl=>match us,hl with | [_,_,_],_=>rfl
theorem b_is_odd (T:Tx K mg cl):Binds K T.fd_is_odd ["mask"] []:=T.F_is_odd.binds fun _ _ _ _ _ _ us hl=>match us,hl with | [_],_=>rfl
theorem b_Board__parity (T:Tx K mg cl):Binds K T.fd_Board__parity ["self","cells"] []:=T.F_Board__parity.binds fun _ _ _ _ _ _ us hl=>match us,hl with | [_,_],_=>rfl
theorem b_cells_in (T:Tx K mg cl):Binds K T.fd_cells_in ["mask"] []:=T.F_cells_in.binds fun _ _ _ _ _ _ us hl=>match us,hl with | [_],_=>rfl
theorem b_board_of (T:Tx K mg cl):Binds K T.fd_board_of ["size","mask"] []:=T.F_board_of.binds fun _ _ _ _ _ _ us hl=>match us,hl with | [_,_],_=>rfl
theorem b_Board__toggled (T:Tx K mg cl):Binds K T.fd_Board__toggled ["self","cells"] []:=T.F_Board__toggled.binds fun _ _ _ _ _ _ us hl=>match us,hl with | [_,_],_=>rfl
theorem b__law_asked_right (T:Tx K mg cl):Binds K T.fd__law_asked_right ["_law_pot_here","_law_board","_law_width_here"] []:=T.F__law_asked_right.binds fun _ _ _ _ _ _ us hl=>match us,hl with | [_,_,_],_=>rfl
theorem b__law_made_right (T:Tx K mg cl):Binds K T.fd__law_made_right ["_law_thing","_law_spots_here"] []:=T.F__law_made_right.binds fun _ _ _ _ _ _ us hl=>match us,hl with | [_,_],_=>rfl
theorem b_Board__size (T:Tx K mg cl):Binds K T.fd_Board__size ["self"] []:=T.F_Board__size.binds fun _ _ _ _ _ _ us hl=>match us,hl with | [_],_=>rfl
theorem b_Board__up (T:Tx K mg cl):Binds K T.fd_Board__up ["self"] []:=T.F_Board__up.binds fun _ _ _ _ _ _ us hl=>match us,hl with | [_],_=>rfl
theorem b__law_is_so (T:Tx K mg cl):Binds K T.fd__law_is_so ["_law_found","_law_bits_here"] []:=T.F__law_is_so.binds fun _ _ _ _ _ _ us hl=>match us,hl with | [_,_],_=>rfl
theorem kb_Board____init____2_up (T:Tx K mg cl):KBinds K T.fd_Board____init__ ["self","size","up"] ["up"] (kwg 2 1 [0,1,2]) (kwg 2 1 [0,1,2]):=
  kb_of T.F_Board____init__ (by decide) fun _ _ _ _ _ _ us ws h1 h2=>match us,ws,h1,h2 with | [_,_],[_],_,_=>rfl
theorem kb_cell_tuple__1_size (T:Tx K mg cl):KBinds K T.fd_cell_tuple ["things","size"] ["size"] (kwg 1 1 [0,1]) (kwg 1 1 [0,1]):=
  kb_of T.F_cell_tuple (by decide) fun _ _ _ _ _ _ us ws h1 h2=>match us,ws,h1,h2 with | [_],[_],_,_=>rfl
theorem kb_is_cell__1_size (T:Tx K mg cl):KBinds K T.fd_is_cell ["thing","size"] ["size"] (kwg 1 1 [0,1]) (kwg 1 1 [0,1]):=
  kb_of T.F_is_cell (by decide) fun _ _ _ _ _ _ us ws h1 h2=>match us,ws,h1,h2 with | [_],[_],_,_=>rfl
def fs_Board (K:PySem.W.Frag) (cl:Cl):(Nat×Nat)→List (Str×Dm K):=fun x=> [("own_size",kI ((x.1:Int))),("up_mask",kI ((x.2:Int)))]
def k_Board (K:PySem.W.Frag) (cl:Cl):(Nat×Nat)→Dm K:=fun x=>dI cl.Board (fs_Board K cl x)
theorem fl_Board_own_size {x:(Nat×Nat)}:(fs_Board K cl x).lookup ("own_size" :Str)=some (kI ((x.1:Int))):=by rfl
theorem fl_Board_up_mask {x:(Nat×Nat)}:(fs_Board K cl x).lookup ("up_mask" :Str)=some (kI ((x.2:Int))):=by rfl
theorem rc_Board_is_up:Rcv K (k_Board K cl) cl.Board "is_up" (fun _ _=>True):=rcv_I (fs:=fs_Board K cl) (fun _=>rfl) (fun _=>by rfl)
theorem rc_Board_parity:Rcv K (k_Board K cl) cl.Board "parity" (fun _ _=>True):=rcv_I (fs:=fs_Board K cl) (fun _=>rfl) (fun _=>by rfl)
theorem rc_Board_toggled:Rcv K (k_Board K cl) cl.Board "toggled" (fun _ _=>True):=rcv_I (fs:=fs_Board K cl) (fun _=>rfl) (fun _=>by rfl)
theorem rc_Board_size:Rcv K (k_Board K cl) cl.Board "size" (fun _ _=>True):=rcv_I (fs:=fs_Board K cl) (fun _=>rfl) (fun _=>by rfl)
theorem rc_Board_up:Rcv K (k_Board K cl) cl.Board "up" (fun _ _=>True):=rcv_I (fs:=fs_Board K cl) (fun _=>rfl) (fun _=>by rfl)
theorem ie_NoSize_NoCell (T:Tx K mg cl) {fs:List (Str×Dm K)}:wIsE (cl.NoSize,fs) (Value.ref cl.NoCell)=ret false:=isE_of T.q_NoSize T.cq (ErrQ.kit T.q_NoCell T.s_NoSize_NoCell)
theorem ct_NoSize_NoCell (T:Tx K mg cl) {α:Type} {fs:List (Str×Dm K)} {h n:Err K→W K α}:wCatch cl.NoCell h n (cl.NoSize,fs)=n (cl.NoSize,fs):=catch_n (ErrQ.exm T.q_NoCell T.s_NoSize_NoCell)
theorem ie_NoSize_NoCells (T:Tx K mg cl) {fs:List (Str×Dm K)}:wIsE (cl.NoSize,fs) (Value.ref cl.NoCells)=ret false:=isE_of T.q_NoSize T.cq (ErrQ.kit T.q_NoCells T.s_NoSize_NoCells)
theorem ct_NoSize_NoCells (T:Tx K mg cl) {α:Type} {fs:List (Str×Dm K)} {h n:Err K→W K α}:wCatch cl.NoCells h n (cl.NoSize,fs)=n (cl.NoSize,fs):=catch_n (ErrQ.exm T.q_NoCells T.s_NoSize_NoCells)
theorem ie_NoSize_NoFlip (T:Tx K mg cl) {fs:List (Str×Dm K)}:wIsE (cl.NoSize,fs) (Value.ref cl.NoFlip)=ret false:=isE_of T.q_NoSize T.cq (ErrQ.kit T.q_NoFlip T.s_NoSize_NoFlip)
theorem ct_NoSize_NoFlip (T:Tx K mg cl) {α:Type} {fs:List (Str×Dm K)} {h n:Err K→W K α}:wCatch cl.NoFlip h n (cl.NoSize,fs)=n (cl.NoSize,fs):=catch_n (ErrQ.exm T.q_NoFlip T.s_NoSize_NoFlip)
theorem ie_NoSize_NoSize (T:Tx K mg cl) {fs:List (Str×Dm K)}:wIsE (cl.NoSize,fs) (Value.ref cl.NoSize)=ret true:=isE_of T.q_NoSize T.cq (ErrQ.kit T.q_NoSize T.s_NoSize_NoSize)
theorem ct_NoSize_NoSize (T:Tx K mg cl) {α:Type} {fs:List (Str×Dm K)} {h n:Err K→W K α}:wCatch cl.NoSize h n (cl.NoSize,fs)=h (cl.NoSize,fs):=catch_y (ErrQ.exm T.q_NoSize T.s_NoSize_NoSize)
theorem ie_NoSize_ValueError (T:Tx K mg cl) {fs:List (Str×Dm K)}:wIsE (cl.NoSize,fs) (Value.type "ValueError")=ret true:=isE_of T.q_NoSize T.cq (kit_bt km_ValueError T.s_NoSize_ValueError)
theorem ie_NoCell_NoCell (T:Tx K mg cl) {fs:List (Str×Dm K)}:wIsE (cl.NoCell,fs) (Value.ref cl.NoCell)=ret true:=isE_of T.q_NoCell T.cq (ErrQ.kit T.q_NoCell T.s_NoCell_NoCell)
theorem ct_NoCell_NoCell (T:Tx K mg cl) {α:Type} {fs:List (Str×Dm K)} {h n:Err K→W K α}:wCatch cl.NoCell h n (cl.NoCell,fs)=h (cl.NoCell,fs):=catch_y (ErrQ.exm T.q_NoCell T.s_NoCell_NoCell)
theorem ie_NoCell_NoCells (T:Tx K mg cl) {fs:List (Str×Dm K)}:wIsE (cl.NoCell,fs) (Value.ref cl.NoCells)=ret false:=isE_of T.q_NoCell T.cq (ErrQ.kit T.q_NoCells T.s_NoCell_NoCells)
theorem ct_NoCell_NoCells (T:Tx K mg cl) {α:Type} {fs:List (Str×Dm K)} {h n:Err K→W K α}:wCatch cl.NoCells h n (cl.NoCell,fs)=n (cl.NoCell,fs):=catch_n (ErrQ.exm T.q_NoCells T.s_NoCell_NoCells)
theorem ie_NoCell_NoFlip (T:Tx K mg cl) {fs:List (Str×Dm K)}:wIsE (cl.NoCell,fs) (Value.ref cl.NoFlip)=ret false:=isE_of T.q_NoCell T.cq (ErrQ.kit T.q_NoFlip T.s_NoCell_NoFlip)
theorem ct_NoCell_NoFlip (T:Tx K mg cl) {α:Type} {fs:List (Str×Dm K)} {h n:Err K→W K α}:wCatch cl.NoFlip h n (cl.NoCell,fs)=n (cl.NoCell,fs):=catch_n (ErrQ.exm T.q_NoFlip T.s_NoCell_NoFlip)
theorem ie_NoCell_NoSize (T:Tx K mg cl) {fs:List (Str×Dm K)}:wIsE (cl.NoCell,fs) (Value.ref cl.NoSize)=ret false:=isE_of T.q_NoCell T.cq (ErrQ.kit T.q_NoSize T.s_NoCell_NoSize)
theorem ct_NoCell_NoSize (T:Tx K mg cl) {α:Type} {fs:List (Str×Dm K)} {h n:Err K→W K α}:wCatch cl.NoSize h n (cl.NoCell,fs)=n (cl.NoCell,fs):=catch_n (ErrQ.exm T.q_NoSize T.s_NoCell_NoSize)
theorem ie_NoCell_ValueError (T:Tx K mg cl) {fs:List (Str×Dm K)}:wIsE (cl.NoCell,fs) (Value.type "ValueError")=ret true:=isE_of T.q_NoCell T.cq (kit_bt km_ValueError T.s_NoCell_ValueError)
theorem ie_NoCells_NoCell (T:Tx K mg cl) {fs:List (Str×Dm K)}:wIsE (cl.NoCells,fs) (Value.ref cl.NoCell)=ret false:=isE_of T.q_NoCells T.cq (ErrQ.kit T.q_NoCell T.s_NoCells_NoCell)
theorem ct_NoCells_NoCell (T:Tx K mg cl) {α:Type} {fs:List (Str×Dm K)} {h n:Err K→W K α}:wCatch cl.NoCell h n (cl.NoCells,fs)=n (cl.NoCells,fs):=catch_n (ErrQ.exm T.q_NoCell T.s_NoCells_NoCell)
theorem ie_NoCells_NoCells (T:Tx K mg cl) {fs:List (Str×Dm K)}:wIsE (cl.NoCells,fs) (Value.ref cl.NoCells)=ret true:=isE_of T.q_NoCells T.cq (ErrQ.kit T.q_NoCells T.s_NoCells_NoCells)
theorem ct_NoCells_NoCells (T:Tx K mg cl) {α:Type} {fs:List (Str×Dm K)} {h n:Err K→W K α}:wCatch cl.NoCells h n (cl.NoCells,fs)=h (cl.NoCells,fs):=catch_y (ErrQ.exm T.q_NoCells T.s_NoCells_NoCells)
theorem ie_NoCells_NoFlip (T:Tx K mg cl) {fs:List (Str×Dm K)}:wIsE (cl.NoCells,fs) (Value.ref cl.NoFlip)=ret false:=isE_of T.q_NoCells T.cq (ErrQ.kit T.q_NoFlip T.s_NoCells_NoFlip)
theorem ct_NoCells_NoFlip (T:Tx K mg cl) {α:Type} {fs:List (Str×Dm K)} {h n:Err K→W K α}:wCatch cl.NoFlip h n (cl.NoCells,fs)=n (cl.NoCells,fs):=catch_n (ErrQ.exm T.q_NoFlip T.s_NoCells_NoFlip)
theorem ie_NoCells_NoSize (T:Tx K mg cl) {fs:List (Str×Dm K)}:wIsE (cl.NoCells,fs) (Value.ref cl.NoSize)=ret false:=isE_of T.q_NoCells T.cq (ErrQ.kit T.q_NoSize T.s_NoCells_NoSize)
theorem ct_NoCells_NoSize (T:Tx K mg cl) {α:Type} {fs:List (Str×Dm K)} {h n:Err K→W K α}:wCatch cl.NoSize h n (cl.NoCells,fs)=n (cl.NoCells,fs):=catch_n (ErrQ.exm T.q_NoSize T.s_NoCells_NoSize)
theorem ie_NoCells_ValueError (T:Tx K mg cl) {fs:List (Str×Dm K)}:wIsE (cl.NoCells,fs) (Value.type "ValueError")=ret true:=isE_of T.q_NoCells T.cq (kit_bt km_ValueError T.s_NoCells_ValueError)
theorem ie_NoFlip_NoCell (T:Tx K mg cl) {fs:List (Str×Dm K)}:wIsE (cl.NoFlip,fs) (Value.ref cl.NoCell)=ret false:=isE_of T.q_NoFlip T.cq (ErrQ.kit T.q_NoCell T.s_NoFlip_NoCell)
theorem ct_NoFlip_NoCell (T:Tx K mg cl) {α:Type} {fs:List (Str×Dm K)} {h n:Err K→W K α}:wCatch cl.NoCell h n (cl.NoFlip,fs)=n (cl.NoFlip,fs):=catch_n (ErrQ.exm T.q_NoCell T.s_NoFlip_NoCell)
theorem ie_NoFlip_NoCells (T:Tx K mg cl) {fs:List (Str×Dm K)}:wIsE (cl.NoFlip,fs) (Value.ref cl.NoCells)=ret false:=isE_of T.q_NoFlip T.cq (ErrQ.kit T.q_NoCells T.s_NoFlip_NoCells)
theorem ct_NoFlip_NoCells (T:Tx K mg cl) {α:Type} {fs:List (Str×Dm K)} {h n:Err K→W K α}:wCatch cl.NoCells h n (cl.NoFlip,fs)=n (cl.NoFlip,fs):=catch_n (ErrQ.exm T.q_NoCells T.s_NoFlip_NoCells)
theorem ie_NoFlip_NoFlip (T:Tx K mg cl) {fs:List (Str×Dm K)}:wIsE (cl.NoFlip,fs) (Value.ref cl.NoFlip)=ret true:=isE_of T.q_NoFlip T.cq (ErrQ.kit T.q_NoFlip T.s_NoFlip_NoFlip)
theorem ct_NoFlip_NoFlip (T:Tx K mg cl) {α:Type} {fs:List (Str×Dm K)} {h n:Err K→W K α}:wCatch cl.NoFlip h n (cl.NoFlip,fs)=h (cl.NoFlip,fs):=catch_y (ErrQ.exm T.q_NoFlip T.s_NoFlip_NoFlip)
theorem ie_NoFlip_NoSize (T:Tx K mg cl) {fs:List (Str×Dm K)}:wIsE (cl.NoFlip,fs) (Value.ref cl.NoSize)=ret false:=isE_of T.q_NoFlip T.cq (ErrQ.kit T.q_NoSize T.s_NoFlip_NoSize)
theorem ct_NoFlip_NoSize (T:Tx K mg cl) {α:Type} {fs:List (Str×Dm K)} {h n:Err K→W K α}:wCatch cl.NoSize h n (cl.NoFlip,fs)=n (cl.NoFlip,fs):=catch_n (ErrQ.exm T.q_NoSize T.s_NoFlip_NoSize)
theorem ie_NoFlip_ValueError (T:Tx K mg cl) {fs:List (Str×Dm K)}:wIsE (cl.NoFlip,fs) (Value.type "ValueError")=ret true:=isE_of T.q_NoFlip T.cq (kit_bt km_ValueError T.s_NoFlip_ValueError)
theorem ies_NoSize (T:Tx K mg cl) {fs:List (Str×Dm K)} {us:List Value}:wIsEs (cl.NoSize,fs) us=wIsGo (cl.NoSize,fs) us:=isEs_of T.q_NoSize T.cq
theorem ies_NoCell (T:Tx K mg cl) {fs:List (Str×Dm K)} {us:List Value}:wIsEs (cl.NoCell,fs) us=wIsGo (cl.NoCell,fs) us:=isEs_of T.q_NoCell T.cq
theorem ies_NoCells (T:Tx K mg cl) {fs:List (Str×Dm K)} {us:List Value}:wIsEs (cl.NoCells,fs) us=wIsGo (cl.NoCells,fs) us:=isEs_of T.q_NoCells T.cq
theorem ies_NoFlip (T:Tx K mg cl) {fs:List (Str×Dm K)} {us:List Value}:wIsEs (cl.NoFlip,fs) us=wIsGo (cl.NoFlip,fs) us:=isEs_of T.q_NoFlip T.cq
local macro_rules | `(tactic| wtm_at "cls") => `(tactic| first | exact Tx.cls_Board (by assumption))
local macro_rules | `(tactic| wtm_at "noat") => `(tactic| first | exact Tx.no_Board_own_size (by assumption) | exact Tx.no_Board_up_mask (by assumption))
local macro_rules | `(tactic| wtm_at "isc") => `(tactic| first | exact Tx.ty_Board (by assumption))
local macro_rules | `(tactic| wtm_at "kit") => `(tactic| first | exact ErrQ.kit (Tx.q_NoCell (by assumption)) (Tx.s_NoSize_NoCell (by assumption)) | exact ErrQ.kit (Tx.q_NoCells (by assumption)) (Tx.s_NoSize_NoCells (by assumption)) | exact ErrQ.kit (Tx.q_NoFlip (by assumption)) (Tx.s_NoSize_NoFlip (by assumption)) | exact ErrQ.kit (Tx.q_NoSize (by assumption)) (Tx.s_NoSize_NoSize (by assumption)) | exact kit_bt km_ValueError (Tx.s_NoSize_ValueError (by assumption)) | exact ErrQ.kit (Tx.q_NoCell (by assumption)) (Tx.s_NoCell_NoCell (by assumption)) | exact ErrQ.kit (Tx.q_NoCells (by assumption)) (Tx.s_NoCell_NoCells (by assumption)) | exact ErrQ.kit (Tx.q_NoFlip (by assumption)) (Tx.s_NoCell_NoFlip (by assumption)) | exact ErrQ.kit (Tx.q_NoSize (by assumption)) (Tx.s_NoCell_NoSize (by assumption)) | exact kit_bt km_ValueError (Tx.s_NoCell_ValueError (by assumption)) | exact ErrQ.kit (Tx.q_NoCell (by assumption)) (Tx.s_NoCells_NoCell (by assumption)) | exact ErrQ.kit (Tx.q_NoCells (by assumption)) (Tx.s_NoCells_NoCells (by assumption)) | exact ErrQ.kit (Tx.q_NoFlip (by assumption)) (Tx.s_NoCells_NoFlip (by assumption)) | exact ErrQ.kit (Tx.q_NoSize (by assumption)) (Tx.s_NoCells_NoSize (by assumption)) | exact kit_bt km_ValueError (Tx.s_NoCells_ValueError (by assumption)) | exact ErrQ.kit (Tx.q_NoCell (by assumption)) (Tx.s_NoFlip_NoCell (by assumption)) | exact ErrQ.kit (Tx.q_NoCells (by assumption)) (Tx.s_NoFlip_NoCells (by assumption)) | exact ErrQ.kit (Tx.q_NoFlip (by assumption)) (Tx.s_NoFlip_NoFlip (by assumption)) | exact ErrQ.kit (Tx.q_NoSize (by assumption)) (Tx.s_NoFlip_NoSize (by assumption)) | exact kit_bt km_ValueError (Tx.s_NoFlip_ValueError (by assumption)))
local macro_rules | `(tactic| wtm_at "exm") => `(tactic| first | exact ErrQ.exm (Tx.q_NoCell (by assumption)) (Tx.s_NoSize_NoCell (by assumption)) | exact ErrQ.exm (Tx.q_NoCells (by assumption)) (Tx.s_NoSize_NoCells (by assumption)) | exact ErrQ.exm (Tx.q_NoFlip (by assumption)) (Tx.s_NoSize_NoFlip (by assumption)) | exact ErrQ.exm (Tx.q_NoSize (by assumption)) (Tx.s_NoSize_NoSize (by assumption)) | exact ErrQ.exm (Tx.q_NoCell (by assumption)) (Tx.s_NoCell_NoCell (by assumption)) | exact ErrQ.exm (Tx.q_NoCells (by assumption)) (Tx.s_NoCell_NoCells (by assumption)) | exact ErrQ.exm (Tx.q_NoFlip (by assumption)) (Tx.s_NoCell_NoFlip (by assumption)) | exact ErrQ.exm (Tx.q_NoSize (by assumption)) (Tx.s_NoCell_NoSize (by assumption)) | exact ErrQ.exm (Tx.q_NoCell (by assumption)) (Tx.s_NoCells_NoCell (by assumption)) | exact ErrQ.exm (Tx.q_NoCells (by assumption)) (Tx.s_NoCells_NoCells (by assumption)) | exact ErrQ.exm (Tx.q_NoFlip (by assumption)) (Tx.s_NoCells_NoFlip (by assumption)) | exact ErrQ.exm (Tx.q_NoSize (by assumption)) (Tx.s_NoCells_NoSize (by assumption)) | exact ErrQ.exm (Tx.q_NoCell (by assumption)) (Tx.s_NoFlip_NoCell (by assumption)) | exact ErrQ.exm (Tx.q_NoCells (by assumption)) (Tx.s_NoFlip_NoCells (by assumption)) | exact ErrQ.exm (Tx.q_NoFlip (by assumption)) (Tx.s_NoFlip_NoFlip (by assumption)) | exact ErrQ.exm (Tx.q_NoSize (by assumption)) (Tx.s_NoFlip_NoSize (by assumption)))
local macro_rules | `(tactic| wtm_at "erq") => `(tactic| first | exact Tx.q_NoSize (by assumption) | exact Tx.q_NoCell (by assumption) | exact Tx.q_NoCells (by assumption) | exact Tx.q_NoFlip (by assumption) | exact Tx.q_CellError (by assumption))
local macro_rules | `(tactic| wtm_at "kita") => `(tactic| first | exact kita_nil | (apply kita_no (by wtm_at "kit"); wtm_at "kita") | exact kita_yes (by wtm_at "kit"))
local macro_rules | `(tactic| wtm_at "kcl") => `(tactic| first | exact Paired.nil | (apply Paired.cons (ClsV.own _); wtm_at "kcl") | (apply Paired.cons (ClsV.ty _); wtm_at "kcl"))
local macro_rules | `(tactic| wtm_at "xd") => `(tactic| first | assumption | exact R.xdW (by assumption) (by wtm_at "r"))
local macro_rules | `(tactic| wtm_at "ei") => `(tactic| refine ⟨_, _, _, _, _, rfl, rfl, rfl, by wtm_at "xd", by wtm_at "erq", by exact Tx.cq (by assumption), .inl ⟨_, by first | exact .own _ | exact .ty _, by wtm_at "kit"⟩, ?_⟩)
local macro_rules | `(tactic| wtm_at "et") => `(tactic| refine ⟨_, _, _, _, _, rfl, rfl, rfl, by wtm_at "xd", by wtm_at "erq", by exact Tx.cq (by assumption), .inr ⟨_, _, _, rfl, by assumption, by wtm_at "kcl", by wtm_at "kita"⟩, ?_⟩)
local macro_rules | `(tactic| wtm_at "xf") => `(tactic| refine ⟨rfl, rfl, _, _, _, rfl, by wtm_at "xd", by rfl, ?_⟩)
local macro_rules | `(tactic| wtm_at "e") => `(tactic| simp only [ie_NoSize_NoCell (by assumption), ct_NoSize_NoCell (by assumption), ie_NoSize_NoCells (by assumption), ct_NoSize_NoCells (by assumption), ie_NoSize_NoFlip (by assumption), ct_NoSize_NoFlip (by assumption), ie_NoSize_NoSize (by assumption), ct_NoSize_NoSize (by assumption), ie_NoSize_ValueError (by assumption), ie_NoCell_NoCell (by assumption), ct_NoCell_NoCell (by assumption), ie_NoCell_NoCells (by assumption), ct_NoCell_NoCells (by assumption), ie_NoCell_NoFlip (by assumption), ct_NoCell_NoFlip (by assumption), ie_NoCell_NoSize (by assumption), ct_NoCell_NoSize (by assumption), ie_NoCell_ValueError (by assumption), ie_NoCells_NoCell (by assumption), ct_NoCells_NoCell (by assumption), ie_NoCells_NoCells (by assumption), ct_NoCells_NoCells (by assumption), ie_NoCells_NoFlip (by assumption), ct_NoCells_NoFlip (by assumption), ie_NoCells_NoSize (by assumption), ct_NoCells_NoSize (by assumption), ie_NoCells_ValueError (by assumption), ie_NoFlip_NoCell (by assumption), ct_NoFlip_NoCell (by assumption), ie_NoFlip_NoCells (by assumption), ct_NoFlip_NoCells (by assumption), ie_NoFlip_NoFlip (by assumption), ct_NoFlip_NoFlip (by assumption), ie_NoFlip_NoSize (by assumption), ct_NoFlip_NoSize (by assumption), ie_NoFlip_ValueError (by assumption), ies_NoSize (by assumption), ies_NoCell (by assumption), ies_NoCells (by assumption), ies_NoFlip (by assumption), isGo_nil, isGo_cons])
def w__law_pot (K:PySem.W.Frag) (cl:Cl):(List Int)×Int×Unit→W K Addr:=fun x Q E S=>0≤x.2.1∧x.2.1<100∧ ∀p,S p=none→Q p (S.set p .pot)
abbrev sp__law_pot (K:PySem.W.Frag) (cl:Cl):Sp:=lift K (fun x:(List Int)×Int×Unit=> [kSc x.1,kI x.2.1]) kRef (w__law_pot K cl)
def spo__law_pot (K:PySem.W.Frag) (cl:Cl):Sp:=fun vs H Q _=> ∃(a:Addr) (ns:List Int) (k:Nat),vs= [.ref a,.int k]∧SqL K H a (ns.map V.int)∧k<100∧ ∀p o,H p=none→Pot p (upd H p o)→Q (.ref p) (upd H p o)
theorem okd__law_pot (T:Tx K mg cl):FnG P w K mg base 1 T.a__law_pot T.fd__law_pot ["_law_script","_law_k"] (spo__law_pot K cl):=by
  refine FnG.ok T.F__law_pot sc__law_pot (fun vs H Q E h=> ?_) (fun cdv A outer s H vs Q E hg hr h=> ?_)
  · obtain⟨_,_,_,rfl,_,_,_⟩:=h
    rfl
  · obtain⟨a,ns,k,rfl,hS,hk,q⟩:=h
    refine⟨_,pss_cons (ps_set (i:=2) sc__law_pot.nd rfl (by first | exact Or.inl rfl | exact Or.inr rfl) (pe_ifExp (pt_cmpR op_lt (pv 1) (pe_callB (kx_len (K:=K) rfl) (by rfl) T.z_len bt_len (pa_cons (pv 0) pa_nil)) (nomark _)) (pe_ix (kx_ix (K:=K) rfl) (pv 0) (pv 1) (fun _ _=>rfl)) (pe_int)))
    (pss_one (ps_ret (pe_lst (pa_cons (pe_callB (call_max2 rfl) (by rfl) T.z_max bt_max (pa_cons (pe_int) (pa_cons (pe_op op_sub (pe_callB call_abs (by rfl) T.z_abs bt_abs (pa_cons (pv 2) pa_nil)) (pe_op op_pow (pe_int) (pe_int))) pa_nil))) (pa_cons (pe_op op_modA (pe_op (kx_add (K:=K) rfl) (pe_op (kx_add (K:=K) rfl) (pe_op op_mul (pe_op op_modA (pe_callB call_abs (by rfl) T.z_abs bt_abs (pa_cons (pv 2) pa_nil)) (pe_int)) (pe_int)) (pe_op op_mul (pe_int) (pv 1))) (pe_int)) (pe_int)) pa_nil))))),?_⟩
    try dsimp only[cxg,cxOf,Cx.nox,Cx.wish]
    wtm_at "v"
    refine .inl ⟨a,_,rfl,.inl hS,?_⟩
    wtm_at "v"
    refine ite_d (fun h0=> ?_) (fun h0=> ?_)
    · rw[List.length_map] at h0
      wtm_at "v"
      refine s_script hS (by omega) (fun z hz=> ?_)
      wtm_at "v"
      refine⟨by simp;decide,fun p hp=>q _ _ hp ⟨_,_,upd_same,by split <;> omega,Int.emod_nonneg _ (by decide),Int.emod_lt_of_pos _ (by decide)⟩⟩
    · wtm_at "v"
      refine⟨by simp;decide,fun p hp=>q _ _ hp ⟨_,_,upd_same,by split <;> omega,Int.emod_nonneg _ (by decide),Int.emod_lt_of_pos _ (by decide)⟩⟩
theorem ok__law_pot (T:Tx K mg cl):FnG P w K mg base 1 T.a__law_pot T.fd__law_pot ["_law_script","_law_k"] (sp__law_pot K cl):=(okd__law_pot T).imp fun vs H Q E h=>by
  obtain⟨S,F,x,Qp,Ep,wd,ha,⟨h0,h1,hw⟩,hQ,hE⟩:=h
  obtain⟨v,w,rfl,⟨a,rfl,n,hS⟩,hk⟩:=at2 ha
  obtain rfl:=at_int hk
  refine⟨a,x.1,x.2.1.toNat,by rw[Int.toNat_of_nonneg h0],hS,by omega,fun p o hp hP=> ?_⟩
  exact hQ p _ _ _ (hw p (wd.sfree hp)) (wd.newS hp hP) rfl
def w__law_draw (K:PySem.W.Frag) (cl:Cl):Addr×Int×Unit→W K Int:=fun x Q E S=>S x.1=some .pot∧0<x.2.1∧x.2.1<2 ^ 200∧ ∀d,0≤d→d<x.2.1→Q d S
abbrev sp__law_draw (K:PySem.W.Frag) (cl:Cl):Sp:=lift K (fun x:Addr×Int×Unit=> [kRef x.1,kI x.2.1]) kI (w__law_draw K cl)
def spo__law_draw (K:PySem.W.Frag) (cl:Cl):Sp:=fun vs H Q _=> ∃p n,vs= [.ref p,.int n]∧Pot p H∧0<n∧n.natAbs<2 ^ 200∧ ∀H' d,R p H H'→0≤d→d<n→Q (.int d) H'
theorem okd__law_draw (T:Tx K mg cl):FnG P w K mg base 1 T.a__law_draw T.fd__law_draw ["_law_pot_here","_law_many"] (spo__law_draw K cl):=by
  refine FnG.ok T.F__law_draw sc__law_draw (fun vs H Q E h=> ?_) (fun cdv A outer s H vs Q E hg hr h=> ?_)
  · obtain⟨_,_,rfl,⟨_,_,_,_,_,_⟩,_,_,_⟩:=h
    rfl
  · obtain⟨p,n,rfl,⟨a,b,e,ha,hb,hb2⟩,hn,hn2,q⟩:=h
    refine⟨_,pss_cons (ps_if (pt_cmpR op_gt (pe_ix (kx_ix (K:=K) rfl) (pv 0) (pe_int) (fun _ _=>rfl)) (pe_int) (nomark _)) (pss_cons (ps_asg (pe_callB PC.call_divmodW (by rfl) T.z_divmod bt_divmod (pa_cons (pe_ix (kx_ix (K:=K) rfl) (pv 0) (pe_int) (fun _ _=>rfl)) (pa_cons (pv 1) pa_nil))) (pg_tupK (K:=K) rfl rfl (pgs_cons (pg_sub (pv 0) (pe_int) set_list) (pgs_cons (pg_name (i:=2) sc__law_draw.nd rfl (by first | exact Or.inl rfl | exact Or.inr rfl)) pgs_nil))))
    (pss_one (ps_ret (pv 2)))) pss_nil)
    (pss_cons (ps_asg (pe_op op_modA (pe_op (kx_add (K:=K) rfl) (pe_op op_mul (pe_ix (kx_ix (K:=K) rfl) (pv 0) (pe_int) (fun _ _=>rfl)) (pe_int)) (pe_int)) (pe_int)) (pg_sub (pv 0) (pe_int) set_list))
    (pss_one (ps_ret (pe_op op_modA (pe_op op_fdivA (pe_op op_modA (pe_op op_mul (pe_ix (kx_ix (K:=K) rfl) (pv 0) (pe_int) (fun _ _=>rfl)) (pe_ix (kx_ix (K:=K) rfl) (pv 0) (pe_int) (fun _ _=>rfl))) (pe_int)) (pe_int)) (pv 1))))),?_⟩
    try dsimp only[cxg,cxOf,Cx.nox,Cx.wish]
    have nf: ∀x u,HO.lst [.int a,.int b]≠ .frz x u:=fun x u z=>by cases z
    wtm_at "v"
    refine s_pot0 e ?_
    wtm_at "v"
    refine ite_d (fun h0=> ?_) (fun h0=> ?_)
    · wtm_at "v"
      refine s_pot0 e ?_
      wtm_at "v"
      refine⟨wide_div hn hn2 (by decide) (by decide),fun t ht=> ?_⟩
      have e':(upd H t (.tup [.int (a / n),.int (a % n)])) p=some (.lst [.int a,.int b]):=by
        rw[upd_ne (ne_of_none e ht)];exact e
      refine s_gtup (SqT.of upd_same) rfl ?_
      wtm_at "v"
      refine s_pset0 e' ?_
      wtm_at "v"
      refine q _ _ ((R.new ht).trans (R.draw e' nf (Int.ediv_nonneg ha (by omega)) hb hb2)) (Int.emod_nonneg _ (by omega)) (Int.emod_lt_of_pos _ hn)
    · wtm_at "v"
      refine s_pot1 e ?_
      wtm_at "v"
      refine s_pset1 e ?_
      have hb':=Int.emod_nonneg (b * 39373+12227) (show (2147483629:Int)≠0 by decide)
      have hb3:=Int.emod_lt_of_pos (b * 39373+12227) (show (0:Int)<2147483629 by decide)
      generalize (b * 39373+12227) % 2147483629=c at hb' hb3
      have e2:(upd H p (.lst [.int a,.int c])) p=some (.lst [.int a,.int c]):=upd_same
      wtm_at "v"
      refine s_pot1 e2 ?_
      wtm_at "v"
      refine s_pot1 e2 ?_
      wtm_at "v"
      wtm_at "v"
      exact q _ _ (R.draw e nf ha hb' (by omega)) (Int.emod_nonneg _ (by omega)) (Int.emod_lt_of_pos _ hn)
theorem ok__law_draw (T:Tx K mg cl):FnG P w K mg base 1 T.a__law_draw T.fd__law_draw ["_law_pot_here","_law_many"] (sp__law_draw K cl):=(okd__law_draw T).imp fun vs H Q E h=>by
  obtain⟨S,F,x,Qp,Ep,wd,ha,⟨hp,h0,h1,hw⟩,hQ,hE⟩:=h
  obtain⟨v,w,rfl,hv,hk⟩:=at2 ha
  obtain rfl:=at_int hk
  cases (show v= .ref x.1 from hv)
  exact⟨x.1,x.2.1,rfl,wd.cell _ _ hp,h0,by omega,fun H' d r d0 d1=>hQ d S H' _ (hw d d0 d1) (nxt_pot wd hp r) mk_int⟩
def w__law_width (K:PySem.W.Frag) (cl:Cl):Addr×Int×Unit→W K Int:=fun x=>outW (bnd (bnd (bnd (bnd (bnd (bnd (ret (2:Int)) fun p5=>(bnd (bnd (ret x.2.1) fun p3=>(bnd (ret ()) fun p4=>(ret (p3,p4)))) fun p6=>(ret (p5,p6)))) fun y2=>(ret (min y2.1 y2.2.1))) fun p25=>(bnd (bnd (bnd (bnd (ret (4:Int)) fun p10=>(bnd (bnd (ret x.2.1) fun p8=>(bnd (ret ()) fun p9=>(ret (p8,p9)))) fun p11=>(ret (p10,p11)))) fun y7=>(ret (min y7.1 y7.2.1))) fun p23=>(bnd (bnd (bnd (ret (1:Int)) fun v19=>(bnd (bnd (bnd (ret x.1) fun p17=>(bnd (bnd (ret x.2.1) fun p15=>(bnd (ret ()) fun p16=>(ret (p15,p16)))) fun p18=>(ret (p17,p18)))) fun p12=>(w__law_draw K cl p12)) fun v20=>(ret (v19+v20)))) fun p21=>(bnd (ret ()) fun p22=>(ret (p21,p22)))) fun p24=>(ret (p23,p24)))) fun p26=>(ret (p25,p26)))) fun y1=>(ret ([y1.1,y1.2.1,y1.2.2.1]:List Int))) fun v35=>(bnd (bnd (bnd (ret x.1) fun p33=>(bnd (bnd (ret (3:Int)) fun p31=>(bnd (ret ()) fun p32=>(ret (p31,p32)))) fun p34=>(ret (p33,p34)))) fun p28=>(w__law_draw K cl p28)) fun v36=>(wIx v35 v36))) fun v37=>(ret (Flow.rt v37))) none
abbrev sp__law_width (K:PySem.W.Frag) (cl:Cl):Sp:=lift K (fun x:Addr×Int×Unit=> [kRef x.1,kI x.2.1]) kI (w__law_width K cl)
theorem ok__law_width (T:Tx K mg cl):FnG P w K mg base 2 T.a__law_width T.fd__law_width ["_law_pot_here","_law_most"] (sp__law_width K cl):=
  okL T.F__law_width sc__law_width (fun _=>rfl) none (fun y e=>nomatch e) (fun cdv A outer s H E hg hr=>by
    refine⟨_,pss_one (ps_ret (pe_ix (kx_ix (K:=K) rfl) (pe_lst (pa_cons (pe_callB (call_min2 rfl) (by rfl) T.z_min bt_min (pa_cons (pe_int) (pa_cons (pv 1) pa_nil))) (pa_cons (pe_callB (call_min2 rfl) (by rfl) T.z_min bt_min (pa_cons (pe_int) (pa_cons (pv 1) pa_nil))) (pa_cons (pe_op (kx_add (K:=K) rfl) (pe_int) (pe_fnS ((ok__law_draw T).atS hg (hr.mono (by decide)) (b__law_draw T) .nil (takes_of rfl rfl rfl rfl)) rfl T.g__law_draw T.F__law_draw.kp (pa_cons (pv 0) (pa_cons (pv 1) pa_nil)))) pa_nil)))) (pe_fnS ((ok__law_draw T).atS hg (hr.mono (by decide)) (b__law_draw T) .nil (takes_of rfl rfl rfl rfl)) rfl T.g__law_draw T.F__law_draw.kp (pa_cons (pv 0) (pa_cons (pe_int) pa_nil))) (fun _ _=>rfl))),?_⟩
    exact⟨_,fun x=>(simS_ret le_none (sim_op os_ixL (sim_lstK (r:=kI) (fun y1:Int×Int×Int×Unit=>([y1.1,y1.2.1,y1.2.2.1]:List Int)) (fun _=>rfl) (fun _=>(by decide:3≤50000)) (simA_cons (sim_callB cb_min2 (simA_cons sim_i (simA_cons (sim_var (i:=1) (r:=kI) (x:=x.2.1) rfl) simA_nil))) (simA_cons (sim_callB cb_min2 (simA_cons sim_i (simA_cons (sim_var (i:=1) (r:=kI) (x:=x.2.1) rfl) simA_nil))) (simA_cons (sim_op os_add sim_i (sim_call (cal_lift (w:=w__law_draw K cl)) (simA_cons (sim_var (i:=0) (r:=kRef) (x:=x.1) rfl) (simA_cons (sim_var (i:=1) (r:=kI) (x:=x.2.1) rfl) simA_nil)))) simA_nil)))) (sim_call (cal_lift (w:=w__law_draw K cl)) (simA_cons (sim_var (i:=0) (r:=kRef) (x:=x.1) rfl) (simA_cons sim_i simA_nil))))),fun _ _ _ _ h=>h⟩)
def w__law_bits (K:PySem.W.Frag) (cl:Cl):Addr×Int×Unit→W K (List Int):=fun x=>outW (bnd (bnd (bnd (bnd (ret (1:Int)) fun p2=>(bnd (ret ()) fun p3=>(ret (p2,p3)))) fun y1=>(ret ([y1.1]:List Int))) fun v18=>(bnd (bnd (bnd (bnd (ret (1:Int)) fun p7=>(bnd (bnd (ret x.2.1) fun p5=>(bnd (ret ()) fun p6=>(ret (p5,p6)))) fun p8=>(ret (p7,p8)))) fun y4=>(wAss (-(2 ^ 62)≤y4.1∧y4.1<2 ^ 62∧ -(2 ^ 62)≤y4.2.1∧y4.2.1<2 ^ 62) (ret (rng y4.1 y4.2.1,nI)))) fun y10=>(wAss (y10.1.length≤50000) (wCalm (fmapW y10.2 (fun (x9:Int)=>(ret true)) (fun (x9:Int)=>(bnd (bnd (ret x.1) fun p16=>(bnd (bnd (ret (2:Int)) fun p14=>(bnd (ret ()) fun p15=>(ret (p14,p15)))) fun p17=>(ret (p16,p17)))) fun p11=>(w__law_draw K cl p11))) y10.1)))) fun v19=>(wAss (v18.length+v19.length≤50000) (ret (v18++v19))))) fun v20=>(ret (Flow.rt v20))) none
abbrev sp__law_bits (K:PySem.W.Frag) (cl:Cl):Sp:=lift K (fun x:Addr×Int×Unit=> [kRef x.1,kI x.2.1]) (kL kI) (w__law_bits K cl)
theorem ok__law_bits (T:Tx K mg cl):FnG P w K mg base 2 T.a__law_bits T.fd__law_bits ["_law_pot_here","_law_width_here"] (sp__law_bits K cl):=
  okL T.F__law_bits sc__law_bits (fun _=>rfl) none (fun y e=>nomatch e) (fun cdv A outer s H E hg hr=>by
    refine⟨_,pss_one (ps_ret (pe_op (kx_add (K:=K) rfl) (pe_lst (pa_cons (pe_int) pa_nil)) (pe_lc (own:= [("_law_spot",2)]) (g:=gName 2) (tt:=tYes)  rfl sc__law_bits.nd (pi_range2 rfl T.z_range (pa_cons (pe_int) (pa_cons (pv 1) pa_nil))) (blkOk_by (own:= [("_law_spot",2)]) (N:=N__law_bits) (sc:=defScope st__law_bits) (by decide +kernel)) (fun _ _ _ _ _=>pg_name (i:=2) sc__law_bits.nd rfl (by first | exact Or.inl rfl | exact Or.inr rfl)) (fun _ _ _ _ _=>pts_nil) (fun _ _ _ _ _=>pe_fnS ((ok__law_draw T).atS hg (hr.mono (by decide)) (b__law_draw T) .nil takes0) rfl T.g__law_draw T.F__law_draw.kp (pa_cons (pv 0) (pa_cons (pe_int) pa_nil)))))),?_⟩
    exact⟨_,fun x=>(simS_ret le_none (sim_op os_addL (sim_lstK (r:=kI) (fun y1:Int×Unit=>([y1.1]:List Int)) (fun _=>rfl) (fun _=>(by decide:1≤50000)) (simA_cons sim_i simA_nil)) (sim_lc (simI_r2 (simA_cons sim_i (simA_cons (sim_var (i:=1) (r:=kI) (x:=x.2.1) rfl) simA_nil))) simG_name (fun _ _ hy=>hy) (fun (x9:Int)=>simB_yes) (fun (x9:Int)=>(sim_call (cal_lift (w:=w__law_draw K cl)) (simA_cons (sim_var (i:=0) (r:=kRef) (x:=x.1) rfl) (simA_cons sim_i simA_nil))))))),fun _ _ _ _ h=>h⟩)
def w_is_integer_in (K:PySem.W.Frag) (cl:Cl):PyData×Int×Int×Unit→W K Bool:=fun x=>outW (bnd (bnd (bnd (bnd (ret x.1) fun p4=>(bnd (bnd (ret "int") fun p2=>(bnd (ret ()) fun p3=>(ret (p2,p3)))) fun p5=>(ret (p4,p5)))) fun y1=>(wAss (IsTy y1.2.1) (ret (isD y1.1 y1.2.1)))) fun v18=>(wIf v18 (bnd (bnd (bnd (bnd (ret x.1) fun p10=>(bnd (bnd (ret "bool") fun p8=>(bnd (ret ()) fun p9=>(ret (p8,p9)))) fun p11=>(ret (p10,p11)))) fun y7=>(wAss (IsTy y7.2.1) (ret (isD y7.1 y7.2.1)))) fun v6=>(ret (!v6))) fun v17=>(wIf v17 (bnd (ret x.2.1) fun v13=>(bnd (bnd (ret x.1) (wAs PyData.int)) fun v14=>(bnd (ret (decide (v13≤v14))) fun v15=>(wIf v15 (bnd (ret x.2.2.1) fun v16=>(ret (decide (v14≤v16)))) (ret false))))) (ret false))) (ret false))) fun v19=>(ret (Flow.rt v19))) none
abbrev sp_is_integer_in (K:PySem.W.Frag) (cl:Cl):Sp:=lift K (fun x:PyData×Int×Int×Unit=> [kPy x.1,kI x.2.1,kI x.2.2.1]) kB (w_is_integer_in K cl)
theorem ok_is_integer_in (T:Tx K mg cl):FnG P w K mg base 1 T.a_is_integer_in T.fd_is_integer_in ["thing","low","high"] (sp_is_integer_in K cl):=
  okL T.F_is_integer_in sc_is_integer_in (fun _=>rfl) none (fun y e=>nomatch e) (fun cdv A outer s H E hg hr=>by
    refine⟨_,pss_one (ps_ret (pe_and (pe_callB (kx_isi (K:=K) rfl) (by rfl) T.z_isinstance bt_isinstance (pa_cons (pv 0) (pa_cons (pe_bltn (v:= .ty "int") (by rfl) T.z_int bt_int rfl) pa_nil))) (pe_and (pe_not (pe_callB (kx_isi (K:=K) rfl) (by rfl) T.z_isinstance bt_isinstance (pa_cons (pv 0) (pa_cons (pe_bltn (v:= .ty "bool") (by rfl) T.z_bool bt_bool rfl) pa_nil)))) (pe_one (pe_chain op_le op_le (pv 1) (pv 0) (pv 2)))))),?_⟩
    exact⟨_,fun x=>(simS_ret le_none (sim_andV (sim_callB cb_isi (simA_cons (sim_var (i:=0) (r:=kPy) (x:=x.1) rfl) (simA_cons (sim_ty (T:= "int")) simA_nil))) (sim_andV (sim_notV (sim_callB cb_isi (simA_cons (sim_var (i:=0) (r:=kPy) (x:=x.1) rfl) (simA_cons (sim_ty (T:= "bool")) simA_nil)))) (sim_chain os_B0 os_B0 (sim_var (i:=1) (r:=kI) (x:=x.2.1) rfl) (sim_as oc_I (sim_var (i:=0) (r:=kPy) (x:=x.1) rfl)) (sim_var (i:=2) (r:=kI) (x:=x.2.2.1) rfl))))),fun _ _ _ _ h=>h⟩)
def w_require_size (K:PySem.W.Frag) (cl:Cl):PyData×Unit→W K Unit:=fun x=>outW (bnd (bnd (bnd (bnd (ret x.1) fun p8=>(bnd (bnd (ret (1:Int)) fun p6=>(bnd (bnd (ret (40:Int)) fun p4=>(bnd (ret ()) fun p5=>(ret (p4,p5)))) fun p7=>(ret (p6,p7)))) fun p9=>(ret (p8,p9)))) fun p1=>(w_is_integer_in K cl p1)) fun v10=>(ret (!v10))) fun v13=>(wIf v13 (bnd (bnd (ret x.1) fun p11=>(bnd (ret ()) fun p12=>(ret (p11,p12)))) fun (y:PyData×Unit)=>(wRaise (cl.NoSize,[("value",kPy y.1)]))) (ret (Flow.nx ())))) (some ())
abbrev sp_require_size (K:PySem.W.Frag) (cl:Cl):Sp:=lift K (fun x:PyData×Unit=> [kPy x.1]) kN (w_require_size K cl)
theorem ok_require_size (T:Tx K mg cl):FnG P w K mg base 2 T.a_require_size T.fd_require_size ["size"] (sp_require_size K cl):=
  okL T.F_require_size sc_require_size (fun _=>rfl) (some ()) (fun y e=>by cases e;rfl) (fun cdv A outer s H E hg hr=>by
    refine⟨_,pss_one (ps_if (pt_not (pt_val (pe_fnS ((ok_is_integer_in T).atS hg (hr.mono (by decide)) (b_is_integer_in T) .nil (takes_of rfl rfl rfl rfl)) rfl T.g_is_integer_in T.F_is_integer_in.kp (pa_cons (pv 0) (pa_cons (pe_int) (pa_cons (pe_glob (v:=(.int 40)) rfl T.c_MOST_CELLS ⟨_,rfl⟩) pa_nil)))))) (pss_one (ps_err (k:=0) rfl T.e_NoSize er_rel1 (hr.mono (by decide)) (takes_of rfl rfl rfl rfl) (pa_cons (pv 0) pa_nil) rfl)) pss_nil),?_⟩
    exact⟨_,fun x=>(simS_if le_none (simB_not (simB_B (sim_call (cal_lift (w:=w_is_integer_in K cl)) (simA_cons (sim_var (i:=0) (r:=kPy) (x:=x.1) rfl) (simA_cons sim_i (simA_cons sim_i simA_nil)))))) (simS_raise le_none (simA_cons (sim_var (i:=0) (r:=kPy) (x:=x.1) rfl) simA_nil) (fun (y:PyData×Unit)=> [("value",kPy y.1)]) (by rintro y Z H vs ⟨v,_,rfl,h,rfl⟩;exact⟨v,[],rfl,rfl,v,[],rfl,h,rfl⟩)) (simS_next (simS_end (.no .nil)))),fun _ _ _ _ h=>h⟩)
def w_mask_of (K:PySem.W.Frag) (cl:Cl):(List Int)×Unit→W K Int:=fun x=>outW (bnd (bnd (bnd (bnd (bnd (ret x.1) fun y1=>(ret (y1,nI))) fun y3=>(wAss (y3.1.length≤50000) (wCalm (fmapW y3.2 (fun (x2:Int)=>(ret true)) (fun (x2:Int)=>(bnd (ret (1:Int)) fun v4=>(bnd (ret x2) fun v5=>(wAss (CPow v4 v5) (ret (v4 * 2 ^ (v5).toNat)))))) y3.1)))) fun p7=>(bnd (ret ()) fun p8=>(ret (p7,p8)))) fun y6=>(ret y6.1.sum)) fun v9=>(ret (Flow.rt v9))) none
abbrev sp_mask_of (K:PySem.W.Frag) (cl:Cl):Sp:=lift K (fun x:(List Int)×Unit=> [(kT kI) x.1]) kI (w_mask_of K cl)
theorem ok_mask_of (T:Tx K mg cl):FnG P w K mg base 1 T.a_mask_of T.fd_mask_of ["cells"] (sp_mask_of K cl):=
  okL T.F_mask_of sc_mask_of (fun _=>rfl) none (fun y e=>nomatch e) (fun cdv A outer s H E hg hr=>by
    refine⟨_,pss_one (ps_ret (pe_callB (kx_sum (K:=K) rfl rfl) (by rfl) T.z_sum bt_sum (pa_cons (pe_lc (own:= [("cell",1)]) (g:=gName 1) (tt:=tYes)  rfl sc_mask_of.nd (pi_tupK rfl (pv 0)) (blkOk_by (own:= [("cell",1)]) (N:=N_mask_of) (sc:=defScope st_mask_of) (by decide +kernel)) (fun _ _ _ _ _=>pg_name (i:=1) sc_mask_of.nd rfl (by first | exact Or.inl rfl | exact Or.inr rfl)) (fun _ _ _ _ _=>pts_nil) (fun _ _ _ _ _=>pe_op op_shl (pe_int) (pv 1))) pa_nil))),?_⟩
    exact⟨_,fun x=>(simS_ret le_none (sim_callB cb_sum (simA_cons (sim_lc (simI_tup (r:=kI) (sim_var (i:=0) (r:=(kT kI)) (x:=x.1) rfl)) simG_name (fun _ _ hy=>hy) (fun (x2:Int)=>simB_yes) (fun (x2:Int)=>(sim_op os_I sim_i (sim_var (i:=1) (r:=kI) (x:=x2) rfl)))) simA_nil))),fun _ _ _ _ h=>h⟩)
def w_is_cell (K:PySem.W.Frag) (cl:Cl):PyData×Int×Unit→W K Bool:=fun x=>outW (bnd (bnd (bnd (ret x.1) fun p10=>(bnd (bnd (ret (0:Int)) fun p8=>(bnd (bnd (bnd (ret x.2.1) fun v1=>(bnd (ret (1:Int)) fun v2=>(ret (v1 - v2)))) fun p6=>(bnd (ret ()) fun p7=>(ret (p6,p7)))) fun p9=>(ret (p8,p9)))) fun p11=>(ret (p10,p11)))) fun p3=>(w_is_integer_in K cl p3)) fun v12=>(ret (Flow.rt v12))) none
abbrev sp_is_cell (K:PySem.W.Frag) (cl:Cl):Sp:=lift K (fun x:PyData×Int×Unit=> [kPy x.1,kI x.2.1]) kB (w_is_cell K cl)
theorem ok_is_cell (T:Tx K mg cl):FnG P w K mg base 2 T.a_is_cell T.fd_is_cell ["thing","size"] (sp_is_cell K cl):=
  okL T.F_is_cell sc_is_cell (fun _=>rfl) none (fun y e=>nomatch e) (fun cdv A outer s H E hg hr=>by
    refine⟨_,pss_one (ps_ret (pe_fnS ((ok_is_integer_in T).atS hg (hr.mono (by decide)) (b_is_integer_in T) .nil (takes_of rfl rfl rfl rfl)) rfl T.g_is_integer_in T.F_is_integer_in.kp (pa_cons (pv 0) (pa_cons (pe_int) (pa_cons (pe_op op_sub (pv 1) (pe_int)) pa_nil))))),?_⟩
    exact⟨_,fun x=>(simS_ret le_none (sim_call (cal_lift (w:=w_is_integer_in K cl)) (simA_cons (sim_var (i:=0) (r:=kPy) (x:=x.1) rfl) (simA_cons sim_i (simA_cons (sim_op os_I0 (sim_var (i:=1) (r:=kI) (x:=x.2.1) rfl) sim_i) simA_nil))))),fun _ _ _ _ h=>h⟩)
def w_cell_tuple (K:PySem.W.Frag) (cl:Cl):PyData×Int×Unit→W K (List Int):=fun x=>outW (bnd (bnd (bnd (bnd (bnd (ret x.1) fun p14=>(bnd (bnd (bnd (bnd (ret "list") fun p9=>(bnd (bnd (ret "tuple") fun p7=>(bnd (ret ()) fun p8=>(ret (p7,p8)))) fun p10=>(ret (p9,p10)))) fun y6=>(ret (y6.1,y6.2.1))) fun p12=>(bnd (ret ()) fun p13=>(ret (p12,p13)))) fun p15=>(ret (p14,p15)))) fun y11=>(wAss (y11.2.1=("list","tuple")) (ret (isD y11.1 "list" || isD y11.1 "tuple")))) fun v16=>(ret (!v16))) fun v31=>(wIf v31 (ret true) (bnd (bnd (bnd (bnd (wSeq x.1 fun xs=>ret (xs,nI)) fun y19=>(wAss (y19.1.length≤50000) (wCalm (fmapW y19.2 (fun (x18:PyData)=>(ret true)) (fun (x18:PyData)=>(bnd (bnd (ret x18) fun p23=>(bnd (ret ()) fun p24=>(ret (p23,p24)))) fun p20=>(bnd (bnd (ret x.2.1) fun p25=>(bnd (ret ()) fun p26=>(ret (p25,p26)))) fun p21=>(w_is_cell K cl ((fun (x:PyData×Unit) (y:Int×Unit)=>(x.1,y.1,())) p20 p21))))) y19.1)))) fun p28=>(bnd (ret ()) fun p29=>(ret (p28,p29)))) fun y27=>(ret (y27.1.all id))) fun v30=>(ret (!v30))))) fun v62=>(wIf v62 (bnd (bnd (ret x.1) fun p32=>(bnd (ret ()) fun p33=>(ret (p32,p33)))) fun (y:PyData×Unit)=>(wRaise (cl.NoCells,[("cells",kPy y.1)]))) (bnd (bnd (bnd (ret x.1) fun p35=>(bnd (ret ()) fun p36=>(ret (p35,p36)))) fun y34=>(wSortPy y34.1)) fun (found_37:List Int)=>(bnd (bnd (bnd (bnd (bnd (bnd (bnd (ret found_37) fun p45=>(bnd (bnd (bnd (ret found_37) fun v39=>(bnd (bnd (ret (1:Int)) fun v40=>(ret (some v40))) fun v41=>(bnd (ret none) fun v42=>(ret (sli v39 v41 v42))))) fun p43=>(bnd (ret ()) fun p44=>(ret (p43,p44)))) fun p46=>(ret (p45,p46)))) fun y38=>(ret (y38.1.zip y38.2.1,nI))) fun y48=>(wAss (y48.1.length≤50000) (wCalm (fmapW y48.2 (fun (x47:(Int×Int))=>(ret true)) (fun (x47:(Int×Int))=>(bnd (ret x47.1) fun v49=>(bnd (ret x47.2) fun v50=>(ret (decide (v49<v50)))))) y48.1)))) fun p52=>(bnd (ret ()) fun p53=>(ret (p52,p53)))) fun y51=>(ret (y51.1.all id))) fun v54=>(ret (!v54))) fun v61=>(wIf v61 (bnd (bnd (ret x.1) fun p55=>(bnd (ret ()) fun p56=>(ret (p55,p56)))) fun (y:PyData×Unit)=>(wRaise (cl.NoCells,[("cells",kPy y.1)]))) (bnd (bnd (bnd (ret found_37) fun p58=>(bnd (ret ()) fun p59=>(ret (p58,p59)))) fun y57=>(ret y57.1)) fun v60=>(ret (Flow.rt v60)))))))) none
abbrev sp_cell_tuple (K:PySem.W.Frag) (cl:Cl):Sp:=lift K (fun x:PyData×Int×Unit=> [kPy x.1,kI x.2.1]) (kT kI) (w_cell_tuple K cl)
theorem ok_cell_tuple (T:Tx K mg cl):FnG P w K mg base 3 T.a_cell_tuple T.fd_cell_tuple ["things","size"] (sp_cell_tuple K cl):=
  okL T.F_cell_tuple sc_cell_tuple (fun _=>rfl) none (fun y e=>nomatch e) (fun cdv A outer s H E hg hr=>by
    refine⟨_,pss_cons (ps_if (PW.pt (pw_or (pt_not (pt_val (pe_callB (kx_isiT (K:=K) rfl) (by rfl) T.z_isinstance bt_isinstance (pa_cons (pv 0) (pa_cons (pe_tup (pa_cons (pe_bltn (v:= .ty "list") (by rfl) T.z_list bt_list rfl) (pa_cons (pe_bltn (v:= .ty "tuple") (by rfl) T.z_tuple bt_tuple rfl) pa_nil))) pa_nil))))) (pw_or1 (pt_not (pt_val (pe_callB (kx_all (K:=K) rfl rfl) (by rfl) T.z_all bt_all (pa_cons (pe_lc (own:= [("one",2)]) (g:=gName 2) (tt:=tYes)  rfl sc_cell_tuple.nd (pi_seq (K:=K) rfl (pv 0)) (blkOk_by (own:= [("one",2)]) (N:=N_cell_tuple) (sc:=defScope st_cell_tuple) (by decide +kernel)) (fun _ _ _ _ _=>pg_name (i:=2) sc_cell_tuple.nd rfl (by first | exact Or.inl rfl | exact Or.inr rfl)) (fun _ _ _ _ _=>pts_nil) (fun _ _ _ _ _=>pe_fnKS ((ok_is_cell T).atKS hg (hr.mono (by decide)) (kb_is_cell__1_size T) takes0) rfl T.g_is_cell T.F_is_cell.kp (pa_cons (pv 2) pa_nil) (pk_cons (pv 1) pk_nil))) pa_nil))))))) (pss_one (ps_err (k:=0) rfl T.e_NoCells er_rel1 (hr.mono (by decide)) (takes_of rfl rfl rfl rfl) (pa_cons (pv 0) pa_nil) rfl)) pss_nil)
    (pss_cons (ps_set (i:=3) sc_cell_tuple.nd rfl (by first | exact Or.inl rfl | exact Or.inr rfl) (pe_callB (kx_sorted (K:=K) rfl) (by rfl) T.z_sorted bt_sorted (pa_cons (pv 0) pa_nil)))
    (pss_cons (ps_if (pt_not (pt_val (pe_callB (kx_all (K:=K) rfl rfl) (by rfl) T.z_all bt_all (pa_cons (pe_lc (own:= [("one",2),("other",4)]) (g:=gTup K 2 (gCons (gName 2) (gCons (gName 4) (gNil)))) (tt:=tYes)  rfl sc_cell_tuple.nd (pi_zipK (K:=K) rfl (by rfl) T.z_zip (pa_cons (pv 3) (pa_cons (pe_slice (kx_sl (K:=K) rfl) (pv 3) (po_some (pe_int)) po_none) pa_nil))) (blkOk_by (own:= [("one",2),("other",4)]) (N:=N_cell_tuple) (sc:=defScope st_cell_tuple) (by decide +kernel)) (fun _ _ _ _ _=>pg_tupK (K:=K) rfl rfl (pgs_cons (pg_name (i:=2) sc_cell_tuple.nd rfl (by first | exact Or.inl rfl | exact Or.inr rfl)) (pgs_cons (pg_name (i:=4) sc_cell_tuple.nd rfl (by first | exact Or.inl rfl | exact Or.inr rfl)) pgs_nil))) (fun _ _ _ _ _=>pts_nil) (fun _ _ _ _ _=>pe_cmpR op_lt (pv 2) (pv 4) (nomark _))) pa_nil)))) (pss_one (ps_err (k:=0) rfl T.e_NoCells er_rel1 (hr.mono (by decide)) (takes_of rfl rfl rfl rfl) (pa_cons (pv 0) pa_nil) rfl)) pss_nil)
    (pss_one (ps_ret (pe_callTy (kx_tuple (K:=K) rfl) (by rfl) T.z_tuple bt_tuple (pa_cons (pv 3) pa_nil)))))),?_⟩
    exact⟨_,fun x=>(simS_seq (simS_if le_none (simB_or (simB_not (simB_B (sim_callB cb_isiT2 (simA_cons (sim_var (i:=0) (r:=kPy) (x:=x.1) rfl) (simA_cons (sim_pair (simA_cons (sim_ty (T:= "list")) (simA_cons (sim_ty (T:= "tuple")) simA_nil))) simA_nil))))) (simB_not (simB_B (sim_callB cb_all (simA_cons (sim_lc (simI_py (i:=0) (d:=x.1) rfl) simG_name (fun _ _ hy=>hy) (fun (x18:PyData)=>simB_yes) (fun (x18:PyData)=>(sim_callK (cal_liftK (δ':=fun x:PyData×Int×Unit=> [kPy x.1,kI x.2.1]) (w:=w_is_cell K cl) (fun (x:PyData×Unit) (y:Int×Unit)=>(x.1,y.1,())) (by rintro Z H x y vs zs ⟨_,_,rfl,a0,rfl⟩ ⟨_,_,rfl,a1,rfl⟩;exact⟨_,_,rfl,a0,_,_,rfl,a1,rfl⟩)) (simA_cons (sim_var (i:=2) (r:=kPy) (x:=x18) rfl) simA_nil) (simA_cons (sim_var (i:=1) (r:=kI) (x:=x.2.1) rfl) simA_nil)))) simA_nil))))) (simS_raise le_none (simA_cons (sim_var (i:=0) (r:=kPy) (x:=x.1) rfl) simA_nil) (fun (y:PyData×Unit)=> [("cells",kPy y.1)]) (by rintro y Z H vs ⟨v,_,rfl,h,rfl⟩;exact⟨v,[],rfl,rfl,v,[],rfl,h,rfl⟩)) (simS_next (simS_seq (simS_asg simG_name le_none (sim_callB cb_sortedPy (simA_cons (sim_var (i:=0) (r:=kPy) (x:=x.1) rfl) simA_nil)) (fun (found_37:List Int)=>(show SimS _ _ ([some (kPy x.1),some (kI x.2.1),none,some ((kL kI) found_37),none]:Gm K) _ _ _ _ from (simS_seq (simS_if le_none (simB_not (simB_B (sim_callB cb_all (simA_cons (sim_lc (simI_zip (simA_cons (sim_var (i:=3) (r:=(kL kI)) (x:=found_37) rfl) (simA_cons (sim_sl ss_L (sim_var (i:=3) (r:=(kL kI)) (x:=found_37) rfl) (simO_some sim_i) simO_no) simA_nil))) (simG_pair simG_name simG_name) (fun _ _ hy=>hy) (fun (x47:(Int×Int))=>simB_yes) (fun (x47:(Int×Int))=>(sim_op os_B0 (sim_var (i:=2) (r:=kI) (x:=x47.1) rfl) (sim_var (i:=4) (r:=kI) (x:=x47.2) rfl)))) simA_nil)))) (simS_raise le_none (simA_cons (sim_var (i:=0) (r:=kPy) (x:=x.1) rfl) simA_nil) (fun (y:PyData×Unit)=> [("cells",kPy y.1)]) (by rintro y Z H vs ⟨v,_,rfl,h,rfl⟩;exact⟨v,[],rfl,rfl,v,[],rfl,h,rfl⟩)) (simS_next (simS_ret le_none (sim_callB cb_tupleL (simA_cons (sim_var (i:=3) (r:=(kL kI)) (x:=found_37) rfl) simA_nil))))))))))))),fun _ _ _ _ h=>h⟩)
def w_cell_mask (K:PySem.W.Frag) (cl:Cl):PyData×Int×Unit→W K Int:=fun x=>outW (bnd (bnd (bnd (bnd (bnd (ret x.1) fun p4=>(bnd (ret ()) fun p5=>(ret (p4,p5)))) fun p1=>(bnd (bnd (ret x.2.1) fun p6=>(bnd (ret ()) fun p7=>(ret (p6,p7)))) fun p2=>(w_cell_tuple K cl ((fun (x:PyData×Unit) (y:Int×Unit)=>(x.1,y.1,())) p1 p2)))) fun p11=>(bnd (ret ()) fun p12=>(ret (p11,p12)))) fun p8=>(w_mask_of K cl p8)) fun v13=>(ret (Flow.rt v13))) none
abbrev sp_cell_mask (K:PySem.W.Frag) (cl:Cl):Sp:=lift K (fun x:PyData×Int×Unit=> [kPy x.1,kI x.2.1]) kI (w_cell_mask K cl)
theorem ok_cell_mask (T:Tx K mg cl):FnG P w K mg base 4 T.a_cell_mask T.fd_cell_mask ["things","size"] (sp_cell_mask K cl):=
  okL T.F_cell_mask sc_cell_mask (fun _=>rfl) none (fun y e=>nomatch e) (fun cdv A outer s H E hg hr=>by
    refine⟨_,pss_one (ps_ret (pe_fnS ((ok_mask_of T).atS hg (hr.mono (by decide)) (b_mask_of T) .nil (takes_of rfl rfl rfl rfl)) rfl T.g_mask_of T.F_mask_of.kp (pa_cons (pe_fnKS ((ok_cell_tuple T).atKS hg (hr.mono (by decide)) (kb_cell_tuple__1_size T) (takes_of rfl rfl rfl rfl)) rfl T.g_cell_tuple T.F_cell_tuple.kp (pa_cons (pv 0) pa_nil) (pk_cons (pv 1) pk_nil)) pa_nil))),?_⟩
    exact⟨_,fun x=>(simS_ret le_none (sim_call (cal_lift (w:=w_mask_of K cl)) (simA_cons (sim_callK (cal_liftK (δ':=fun x:PyData×Int×Unit=> [kPy x.1,kI x.2.1]) (w:=w_cell_tuple K cl) (fun (x:PyData×Unit) (y:Int×Unit)=>(x.1,y.1,())) (by rintro Z H x y vs zs ⟨_,_,rfl,a0,rfl⟩ ⟨_,_,rfl,a1,rfl⟩;exact⟨_,_,rfl,a0,_,_,rfl,a1,rfl⟩)) (simA_cons (sim_var (i:=0) (r:=kPy) (x:=x.1) rfl) simA_nil) (simA_cons (sim_var (i:=1) (r:=kI) (x:=x.2.1) rfl) simA_nil)) simA_nil))),fun _ _ _ _ h=>h⟩)
def w_Board____init__ (K:PySem.W.Frag) (cl:Cl):Addr×PyData×PyData×Unit→W K Unit:=fun x=>outW (bnd (bnd (bnd (ret x.2.1) fun p4=>(bnd (ret ()) fun p5=>(ret (p4,p5)))) fun p1=>(w_require_size K cl p1)) fun _=>(bnd (bnd (ret x.2.1) (wAs PyData.int)) fun v19=>(bnd (ret x.1) fun v20=>(wSetF cl.Board "own_size" v20 (kI v19) (bnd (bnd (bnd (bnd (ret x.2.2.1) fun p13=>(bnd (bnd (bnd (ret x.2.1) (wAs PyData.int)) fun p11=>(bnd (ret ()) fun p12=>(ret (p11,p12)))) fun p14=>(ret (p13,p14)))) fun p8=>(w_cell_mask K cl p8)) fun v15=>(bnd (ret (1:Int)) fun v16=>(ret (Builtin.bitOr v15 v16)))) fun v17=>(bnd (ret x.1) fun v18=>(wSetF cl.Board "up_mask" v18 (kI v17) (ret (Flow.nx ()))))))))) (some ())
abbrev sp_Board____init__ (K:PySem.W.Frag) (cl:Cl):Sp:=lift K (fun x:Addr×PyData×PyData×Unit=> [kRef x.1,kPy x.2.1,kPy x.2.2.1]) kN (w_Board____init__ K cl)
theorem ok_Board____init__ (T:Tx K mg cl):FnG P w K mg base 5 T.a_Board____init__ T.fd_Board____init__ ["self","size","up"] (sp_Board____init__ K cl):=
  okL T.F_Board____init__ sc_Board____init__ (fun _=>rfl) (some ()) (fun y e=>by cases e;rfl) (fun cdv A outer s H E hg hr=>by
    refine⟨_,pss_cons (ps_expr (pe_fnS ((ok_require_size T).atS hg (hr.mono (by decide)) (b_require_size T) .nil (takes_of rfl rfl rfl rfl)) rfl T.g_require_size T.F_require_size.kp (pa_cons (pv 1) pa_nil)))
    (pss_cons (ps_fldK (K:=K) rfl (pv 0) (pv 1))
    (pss_one (ps_fldK (K:=K) rfl (pv 0) (pe_op op_or (pe_fnS ((ok_cell_mask T).atS hg (hr.mono (by decide)) (b_cell_mask T) .nil (takes_of rfl rfl rfl rfl)) rfl T.g_cell_mask T.F_cell_mask.kp (pa_cons (pv 2) (pa_cons (pv 1) pa_nil))) (pe_int))))),?_⟩
    exact⟨_,fun x=>(simS_seq (simS_drop le_none (sim_call (cal_lift (w:=w_require_size K cl)) (simA_cons (sim_var (i:=1) (r:=kPy) (x:=x.2.1) rfl) simA_nil)) (simS_seq (simS_fld (r:=kI) T.cls_Board T.no_Board_own_size le_none (sim_as oc_I (sim_var (i:=1) (r:=kPy) (x:=x.2.1) rfl)) (sim_var (i:=0) (r:=kRef) (x:=x.1) rfl) (simS_fld (r:=kI) T.cls_Board T.no_Board_up_mask le_none (sim_op os_I0 (sim_call (cal_lift (w:=w_cell_mask K cl)) (simA_cons (sim_var (i:=2) (r:=kPy) (x:=x.2.2.1) rfl) (simA_cons (sim_as oc_I (sim_var (i:=1) (r:=kPy) (x:=x.2.1) rfl)) simA_nil))) sim_i) (sim_var (i:=0) (r:=kRef) (x:=x.1) rfl) (simS_end (.no (.no (.no .nil))))))))),fun _ _ _ _ h=>h⟩)
def w__law_up (K:PySem.W.Frag) (cl:Cl):(List Int)×Unit→W K (List Int):=fun x=>outW (bnd (bnd (bnd (bnd (ret x.1) fun p2=>(bnd (ret ()) fun p3=>(ret (p2,p3)))) fun y1=>(ret (enumI y1.1,nI))) fun y5=>(wAss (y5.1.length≤50000) (wCalm (fmapW y5.2 (fun (x4:(Int×Int))=>(bnd (ret x4.2) fun v6=>(bnd (ret (1:Int)) fun v7=>(ret (decide (v6=v7)))))) (fun (x4:(Int×Int))=>(ret x4.1)) y5.1)))) fun v8=>(ret (Flow.rt v8))) none
abbrev sp__law_up (K:PySem.W.Frag) (cl:Cl):Sp:=lift K (fun x:(List Int)×Unit=> [(kL kI) x.1]) (kL kI) (w__law_up K cl)
theorem ok__law_up (T:Tx K mg cl):FnG P w K mg base 1 T.a__law_up T.fd__law_up ["_law_bits_here"] (sp__law_up K cl):=
  okL T.F__law_up sc__law_up (fun _=>rfl) none (fun y e=>nomatch e) (fun cdv A outer s H E hg hr=>by
    refine⟨_,pss_one (ps_ret (pe_lc (own:= [("_law_spot",1),("_law_bit",2)]) (g:=gTup K 2 (gCons (gName 1) (gCons (gName 2) (gNil))))  rfl sc__law_up.nd (pi_enumA (K:=K) rfl (by rfl) T.z_enumerate (pa_cons (pv 0) pa_nil)) (blkOk_by (own:= [("_law_spot",1),("_law_bit",2)]) (N:=N__law_up) (sc:=defScope st__law_up) (by decide +kernel)) (fun _ _ _ _ _=>pg_tupK (K:=K) rfl rfl (pgs_cons (pg_name (i:=1) sc__law_up.nd rfl (by first | exact Or.inl rfl | exact Or.inr rfl)) (pgs_cons (pg_name (i:=2) sc__law_up.nd rfl (by first | exact Or.inl rfl | exact Or.inr rfl)) pgs_nil))) (fun _ _ _ _ _=>pts_one (pt_cmpR (kx_eq (K:=K) rfl hr) (pv 2) (pe_int) (nomark _))) (fun _ _ _ _ _=>pv 1))),?_⟩
    exact⟨_,fun x=>(simS_ret le_none (sim_lc (simI_enumL (simA_cons (sim_var (i:=0) (r:=(kL kI)) (x:=x.1) rfl) simA_nil)) (simG_pair simG_name simG_name) (fun _ _ hy=>hy) (fun (x4:(Int×Int))=>(simB_test (sim_op os_eqI (sim_var (i:=2) (r:=kI) (x:=x4.2) rfl) sim_i))) (fun (x4:(Int×Int))=>(sim_var (i:=1) (r:=kI) (x:=x4.1) rfl)))),fun _ _ _ _ h=>h⟩)
def w__law_made (K:PySem.W.Frag) (cl:Cl):(List Int)×Unit→W K (Nat×Nat):=fun x=>outW (bnd (bnd (bnd (bnd (bnd (bnd (bnd (ret x.1) fun p2=>(bnd (ret ()) fun p3=>(ret (p2,p3)))) fun y1=>(ret (y1.1.length:Int))) fun v4=>(ret (PyData.int v4))) fun p14=>(bnd (ret ()) fun p15=>(ret (p14,p15)))) fun p11=>(bnd (bnd (bnd (bnd (bnd (ret x.1) fun p8=>(bnd (ret ()) fun p9=>(ret (p8,p9)))) fun p5=>(w__law_up K cl p5)) fun v10=>(ret ((fun xs=>PyData.list (xs.map PyData.int)) v10))) fun p16=>(bnd (ret ()) fun p17=>(ret (p16,p17)))) fun p12=>(wMk cl.Board (w_Board____init__ K cl) ((fun (x:PyData×Unit) (y:PyData×Unit)=>(x.1,y.1,())) p11 p12)))) (wFrz cl.Board (fs_Board K cl))) fun v18=>(ret (Flow.rt v18))) none
abbrev sp__law_made (K:PySem.W.Frag) (cl:Cl):Sp:=lift K (fun x:(List Int)×Unit=> [(kL kI) x.1]) (k_Board K cl) (w__law_made K cl)
theorem ok__law_made (T:Tx K mg cl):FnG P w K mg base 7 T.a__law_made T.fd__law_made ["_law_bits_here"] (sp__law_made K cl):=
  okL T.F__law_made sc__law_made (fun _=>rfl) none (fun y e=>nomatch e) (fun cdv A outer s H E hg hr=>by
    refine⟨_,pss_one (ps_ret (pe_fnKS ((ok_Board____init__ T).makeK T.mk_Board hg (hr.mono (by decide)) (kb_Board____init____2_up T) (takes_of rfl rfl rfl rfl)) rfl T.gc_Board T.mk_Board.kp (pa_cons (pe_callB (kx_len (K:=K) rfl) (by rfl) T.z_len bt_len (pa_cons (pv 0) pa_nil)) pa_nil) (pk_cons (pe_fnS ((ok__law_up T).atS hg (hr.mono (by decide)) (b__law_up T) .nil (takes_of rfl rfl rfl rfl)) rfl T.g__law_up T.F__law_up.kp (pa_cons (pv 0) pa_nil)) pk_nil))),?_⟩
    exact⟨_,fun x=>(simS_ret le_none (sim_frz (fs:=fs_Board K cl) (r:=(k_Board K cl)) (fun _=>rfl) (sim_callK (cal_mkK (δ':=fun x:PyData×PyData×Unit=> [kPy x.1,kPy x.2.1]) (w:=w_Board____init__ K cl) (fun (x:PyData×Unit) (y:PyData×Unit)=>(x.1,y.1,())) (by rintro Z H x y vs zs v ⟨_,_,rfl,a0,rfl⟩ ⟨_,_,rfl,a1,rfl⟩;exact⟨_,rfl,_,_,rfl,a0,_,_,rfl,a1,rfl⟩)) (simA_cons (sim_co (sim_callB cb_lenL (simA_cons (sim_var (i:=0) (r:=(kL kI)) (x:=x.1) rfl) simA_nil)) co_I) simA_nil) (simA_cons (sim_co (sim_call (cal_lift (w:=w__law_up K cl)) (simA_cons (sim_var (i:=0) (r:=(kL kI)) (x:=x.1) rfl) simA_nil)) (co_LP co_I)) simA_nil)))),fun _ _ _ _ h=>h⟩)
def w__law_any_thing (K:PySem.W.Frag) (cl:Cl):Addr×Unit→W K PyData:=fun x=>outW (bnd (bnd (bnd (ret (10:Int)) fun v1=>(bnd (ret (20:Int)) fun v2=>(wAss (CPow v1 v2) (ret (v1 ^ (v2).toNat))))) fun v12=>(bnd (bnd (bnd (ret x.1) fun p10=>(bnd (bnd (bnd (ret (10:Int)) fun v3=>(bnd (ret (9:Int)) fun v4=>(wAss (CPow v3 v4) (ret (v3 ^ (v4).toNat))))) fun p8=>(bnd (ret ()) fun p9=>(ret (p8,p9)))) fun p11=>(ret (p10,p11)))) fun p5=>(w__law_draw K cl p5)) fun v13=>(ret (v12+v13)))) fun (far_14:Int)=>(bnd (bnd (bnd (bnd (ret ()) fun v26=>(ret ((fun _=>PyData.none) v26))) fun p85=>(bnd (bnd (bnd (ret true) fun v27=>(ret (PyData.bool v27))) fun p83=>(bnd (bnd (bnd (ret false) fun v28=>(ret (PyData.bool v28))) fun p81=>(bnd (bnd (bnd (bnd (ret (1:Int)) fun v16=>(ret (-v16))) fun v29=>(ret (PyData.int v29))) fun p79=>(bnd (bnd (bnd (ret (0:Int)) fun v30=>(ret (PyData.int v30))) fun p77=>(bnd (bnd (bnd (ret (1:Int)) fun v31=>(ret (PyData.int v31))) fun p75=>(bnd (bnd (bnd (ret (39:Int)) fun v32=>(ret (PyData.int v32))) fun p73=>(bnd (bnd (bnd (ret (40:Int)) fun v33=>(ret (PyData.int v33))) fun p71=>(bnd (bnd (bnd (ret (41:Int)) fun v34=>(ret (PyData.int v34))) fun p69=>(bnd (bnd (bnd (ret far_14) fun v35=>(ret (PyData.int v35))) fun p67=>(bnd (bnd (bnd (bnd (ret far_14) fun v17=>(ret (-v17))) fun v36=>(ret (PyData.int v36))) fun p65=>(bnd (bnd (bnd (ret ("" :Str)) fun v37=>(ret (PyData.str v37))) fun p63=>(bnd (bnd (bnd (ret ("1" :Str)) fun v38=>(ret (PyData.str v38))) fun p61=>(bnd (bnd (bnd (ret ("a" :Str)) fun v39=>(ret (PyData.str v39))) fun p59=>(bnd (bnd (bnd (ret ("ab" :Str)) fun v40=>(ret (PyData.str v40))) fun p57=>(bnd (bnd (bnd (bnd (ret ()) fun y18=>(ret ([]:List PyData))) fun v41=>(ret ((fun xs=>PyData.tuple (xs.map id)) v41))) fun p55=>(bnd (bnd (bnd (bnd (ret ()) fun y19=>(ret ([]:List PyData))) fun v42=>(ret ((fun xs=>PyData.list (xs.map id)) v42))) fun p53=>(bnd (bnd (ret (PyData.dict [])) fun p51=>(bnd (bnd (bnd (bnd (bnd (ret (0:Int)) fun p21=>(bnd (ret ()) fun p22=>(ret (p21,p22)))) fun y20=>(ret ([y20.1]:List Int))) fun v43=>(ret ((fun xs=>PyData.list (xs.map PyData.int)) v43))) fun p49=>(bnd (bnd (bnd (bnd (bnd (ret (1:Int)) fun p24=>(bnd (ret ()) fun p25=>(ret (p24,p25)))) fun y23=>(ret ([y23.1]:List Int))) fun v44=>(ret ((fun xs=>PyData.tuple (xs.map PyData.int)) v44))) fun p47=>(bnd (bnd (ret (PyData.dict [(.int (1),.int (2))])) fun p45=>(bnd (ret ()) fun p46=>(ret (p45,p46)))) fun p48=>(ret (p47,p48)))) fun p50=>(ret (p49,p50)))) fun p52=>(ret (p51,p52)))) fun p54=>(ret (p53,p54)))) fun p56=>(ret (p55,p56)))) fun p58=>(ret (p57,p58)))) fun p60=>(ret (p59,p60)))) fun p62=>(ret (p61,p62)))) fun p64=>(ret (p63,p64)))) fun p66=>(ret (p65,p66)))) fun p68=>(ret (p67,p68)))) fun p70=>(ret (p69,p70)))) fun p72=>(ret (p71,p72)))) fun p74=>(ret (p73,p74)))) fun p76=>(ret (p75,p76)))) fun p78=>(ret (p77,p78)))) fun p80=>(ret (p79,p80)))) fun p82=>(ret (p81,p82)))) fun p84=>(ret (p83,p84)))) fun p86=>(ret (p85,p86)))) fun y15=>(ret ([y15.1,y15.2.1,y15.2.2.1,y15.2.2.2.1,y15.2.2.2.2.1,y15.2.2.2.2.2.1,y15.2.2.2.2.2.2.1,y15.2.2.2.2.2.2.2.1,y15.2.2.2.2.2.2.2.2.1,y15.2.2.2.2.2.2.2.2.2.1,y15.2.2.2.2.2.2.2.2.2.2.1,y15.2.2.2.2.2.2.2.2.2.2.2.1,y15.2.2.2.2.2.2.2.2.2.2.2.2.1,y15.2.2.2.2.2.2.2.2.2.2.2.2.2.1,y15.2.2.2.2.2.2.2.2.2.2.2.2.2.2.1,y15.2.2.2.2.2.2.2.2.2.2.2.2.2.2.2.1,y15.2.2.2.2.2.2.2.2.2.2.2.2.2.2.2.2.1,y15.2.2.2.2.2.2.2.2.2.2.2.2.2.2.2.2.2.1,y15.2.2.2.2.2.2.2.2.2.2.2.2.2.2.2.2.2.2.1,y15.2.2.2.2.2.2.2.2.2.2.2.2.2.2.2.2.2.2.2.1,y15.2.2.2.2.2.2.2.2.2.2.2.2.2.2.2.2.2.2.2.2.1]:List PyData))) fun (some_87:List PyData)=>(bnd (bnd (ret some_87) fun v99=>(bnd (bnd (bnd (ret x.1) fun p97=>(bnd (bnd (bnd (bnd (ret some_87) fun p90=>(bnd (ret ()) fun p91=>(ret (p90,p91)))) fun y89=>(ret (y89.1.length:Int))) fun p95=>(bnd (ret ()) fun p96=>(ret (p95,p96)))) fun p98=>(ret (p97,p98)))) fun p92=>(w__law_draw K cl p92)) fun v100=>(wIx v99 v100))) fun v101=>(ret (Flow.rt v101))))) none
abbrev sp__law_any_thing (K:PySem.W.Frag) (cl:Cl):Sp:=lift K (fun x:Addr×Unit=> [kRef x.1]) kPy (w__law_any_thing K cl)
theorem ok__law_any_thing (T:Tx K mg cl):FnG P w K mg base 2 T.a__law_any_thing T.fd__law_any_thing ["_law_pot_here"] (sp__law_any_thing K cl):=
  okL T.F__law_any_thing sc__law_any_thing (fun _=>rfl) none (fun y e=>nomatch e) (fun cdv A outer s H E hg hr=>by
    refine⟨_,pss_cons (ps_set (i:=1) sc__law_any_thing.nd rfl (by first | exact Or.inl rfl | exact Or.inr rfl) (pe_op (kx_add (K:=K) rfl) (pe_op op_pow (pe_int) (pe_int)) (pe_fnS ((ok__law_draw T).atS hg (hr.mono (by decide)) (b__law_draw T) .nil (takes_of rfl rfl rfl rfl)) rfl T.g__law_draw T.F__law_draw.kp (pa_cons (pv 0) (pa_cons (pe_op op_pow (pe_int) (pe_int)) pa_nil)))))
    (pss_cons (ps_set (i:=2) sc__law_any_thing.nd rfl (by first | exact Or.inl rfl | exact Or.inr rfl) (pe_lst (pa_cons (pe_non) (pa_cons (pe_bl) (pa_cons (pe_bl) (pa_cons (pe_un un_neg (pe_int)) (pa_cons (pe_int) (pa_cons (pe_int) (pa_cons (pe_int) (pa_cons (pe_int) (pa_cons (pe_int) (pa_cons (pv 1) (pa_cons (pe_un un_neg (pv 1)) (pa_cons (pe_str) (pa_cons (pe_str) (pa_cons (pe_str) (pa_cons (pe_str) (pa_cons (pe_tup (pa_nil)) (pa_cons (pe_lst (pa_nil)) (pa_cons (pe_dnewK) (pa_cons (pe_lst (pa_cons (pe_int) pa_nil)) (pa_cons (pe_tup (pa_cons (pe_int) pa_nil)) (pa_cons (pe_disp (pps_cons (pe_int) (pe_int) (pps_nil)) (by rfl) (by rfl) (fun z=>by cases z) (by decide)) pa_nil)))))))))))))))))))))))
    (pss_one (ps_ret (pe_ix (kx_ix (K:=K) rfl) (pv 2) (pe_fnS ((ok__law_draw T).atS hg (hr.mono (by decide)) (b__law_draw T) .nil (takes_of rfl rfl rfl rfl)) rfl T.g__law_draw T.F__law_draw.kp (pa_cons (pv 0) (pa_cons (pe_callB (kx_len (K:=K) rfl) (by rfl) T.z_len bt_len (pa_cons (pv 2) pa_nil)) pa_nil))) (fun _ _=>rfl))))),?_⟩
    exact⟨_,fun x=>(simS_seq (simS_asg simG_name le_none (sim_op os_add (sim_op os_I sim_i sim_i) (sim_call (cal_lift (w:=w__law_draw K cl)) (simA_cons (sim_var (i:=0) (r:=kRef) (x:=x.1) rfl) (simA_cons (sim_op os_I sim_i sim_i) simA_nil)))) (fun (far_14:Int)=>(show SimS _ _ ([some (kRef x.1),some (kI far_14),none]:Gm K) _ _ _ _ from (simS_seq (simS_asg simG_name le_none (sim_lstK (r:=kPy) (fun y15:PyData×PyData×PyData×PyData×PyData×PyData×PyData×PyData×PyData×PyData×PyData×PyData×PyData×PyData×PyData×PyData×PyData×PyData×PyData×PyData×PyData×Unit=>([y15.1,y15.2.1,y15.2.2.1,y15.2.2.2.1,y15.2.2.2.2.1,y15.2.2.2.2.2.1,y15.2.2.2.2.2.2.1,y15.2.2.2.2.2.2.2.1,y15.2.2.2.2.2.2.2.2.1,y15.2.2.2.2.2.2.2.2.2.1,y15.2.2.2.2.2.2.2.2.2.2.1,y15.2.2.2.2.2.2.2.2.2.2.2.1,y15.2.2.2.2.2.2.2.2.2.2.2.2.1,y15.2.2.2.2.2.2.2.2.2.2.2.2.2.1,y15.2.2.2.2.2.2.2.2.2.2.2.2.2.2.1,y15.2.2.2.2.2.2.2.2.2.2.2.2.2.2.2.1,y15.2.2.2.2.2.2.2.2.2.2.2.2.2.2.2.2.1,y15.2.2.2.2.2.2.2.2.2.2.2.2.2.2.2.2.2.1,y15.2.2.2.2.2.2.2.2.2.2.2.2.2.2.2.2.2.2.1,y15.2.2.2.2.2.2.2.2.2.2.2.2.2.2.2.2.2.2.2.1,y15.2.2.2.2.2.2.2.2.2.2.2.2.2.2.2.2.2.2.2.2.1]:List PyData)) (fun _=>rfl) (fun _=>(by decide:21≤50000)) (simA_cons (sim_co sim_n co_N) (simA_cons (sim_co sim_b co_B) (simA_cons (sim_co sim_b co_B) (simA_cons (sim_co (sim_neg sim_i) co_I) (simA_cons (sim_co sim_i co_I) (simA_cons (sim_co sim_i co_I) (simA_cons (sim_co sim_i co_I) (simA_cons (sim_co sim_i co_I) (simA_cons (sim_co sim_i co_I) (simA_cons (sim_co (sim_var (i:=1) (r:=kI) (x:=far_14) rfl) co_I) (simA_cons (sim_co (sim_neg (sim_var (i:=1) (r:=kI) (x:=far_14) rfl)) co_I) (simA_cons (sim_co sim_s co_S) (simA_cons (sim_co sim_s co_S) (simA_cons (sim_co sim_s co_S) (simA_cons (sim_co sim_s co_S) (simA_cons (sim_co (sim_tupK (r:=kPy) (fun y18:Unit=>([]:List PyData)) (fun _=>rfl) (fun _=>(by decide:0≤50000)) simA_nil) (co_TP co_id)) (simA_cons (sim_co (sim_lstK (r:=kPy) (fun y19:Unit=>([]:List PyData)) (fun _=>rfl) (fun _=>(by decide:0≤50000)) simA_nil) (co_LP co_id)) (simA_cons sim_dnewP (simA_cons (sim_co (sim_lstK (r:=kI) (fun y20:Int×Unit=>([y20.1]:List Int)) (fun _=>rfl) (fun _=>(by decide:1≤50000)) (simA_cons sim_i simA_nil)) (co_LP co_I)) (simA_cons (sim_co (sim_tupK (r:=kI) (fun y23:Int×Unit=>([y23.1]:List Int)) (fun _=>rfl) (fun _=>(by decide:1≤50000)) (simA_cons sim_i simA_nil)) (co_TP co_I)) (simA_cons (sim_disp1P (k:=(Sum.inl (1))) (v:= .int (2)) (d:= .int (2)) fun _ _=>by simp only[DatP]) simA_nil)))))))))))))))))))))) (fun (some_87:List PyData)=>(show SimS _ _ ([some (kRef x.1),some (kI far_14),some ((kL kPy) some_87)]:Gm K) _ _ _ _ from (simS_ret le_none (sim_op os_ixL (sim_var (i:=2) (r:=(kL kPy)) (x:=some_87) rfl) (sim_call (cal_lift (w:=w__law_draw K cl)) (simA_cons (sim_var (i:=0) (r:=kRef) (x:=x.1) rfl) (simA_cons (sim_callB cb_lenL (simA_cons (sim_var (i:=2) (r:=(kL kPy)) (x:=some_87) rfl) simA_nil)) simA_nil))))))))))))),fun _ _ _ _ h=>h⟩)
def w__law_mixed (K:PySem.W.Frag) (cl:Cl):Addr×(List Int)×Unit→W K Addr:=fun x=>outW (bnd (bnd (bnd (bnd (ret x.2.1) fun p2=>(bnd (ret ()) fun p3=>(ret (p2,p3)))) fun y1=>(ret y1.1)) (wThaw kI)) fun (left_5:Addr)=>(bnd (bnd (bnd (bnd (bnd (bnd (bnd (ret x.2.1) fun p8=>(bnd (ret ()) fun p9=>(ret (p8,p9)))) fun y7=>(ret (y7.1.length:Int))) fun p10=>(bnd (ret ()) fun p11=>(ret (p10,p11)))) fun y6=>(wAss (-(2 ^ 62)≤y6.1∧y6.1<2 ^ 62) (ret (rng 0 y6.1,nI)))) fun y13=>(wAss (y13.1.length≤50000) (wCalm (fmapW y13.2 (fun (x12:Int)=>(ret true)) (fun (x12:Int)=>(bnd (bnd (ret left_5) fun v14=>(wRcv (IsLst v14) (bnd (bnd (bnd (ret x.1) fun p24=>(bnd (bnd (bnd (bnd (ret left_5) fun p17=>(bnd (ret ()) fun p18=>(ret (p17,p18)))) fun y16=>(wLenC y16.1)) fun p22=>(bnd (ret ()) fun p23=>(ret (p22,p23)))) fun p25=>(ret (p24,p25)))) fun p19=>(w__law_draw K cl p19)) fun v15=>(wPop kI v14 v15)))) fun v26=>(ret (PyData.int v26)))) y13.1)))) (wThaw kPy)) fun v28=>(ret (Flow.rt v28)))) none
abbrev sp__law_mixed (K:PySem.W.Frag) (cl:Cl):Sp:=lift K (fun x:Addr×(List Int)×Unit=> [kRef x.1,(kL kI) x.2.1]) kRef (w__law_mixed K cl)
theorem ok__law_mixed (T:Tx K mg cl):FnG P w K mg base 2 T.a__law_mixed T.fd__law_mixed ["_law_pot_here","_law_given"] (sp__law_mixed K cl):=
  okL T.F__law_mixed sc__law_mixed (fun _=>rfl) none (fun y e=>nomatch e) (fun cdv A outer s H E hg hr=>by
    refine⟨_,pss_cons (ps_set (i:=2) sc__law_mixed.nd rfl (by first | exact Or.inl rfl | exact Or.inr rfl) (pe_callTy (kx_list (K:=K) rfl) (by rfl) T.z_list bt_list (pa_cons (pv 1) pa_nil)))
    (pss_one (ps_ret (pe_lc (own:= [("_law_spot",3)]) (g:=gName 3) (tt:=tYes)  rfl sc__law_mixed.nd (pi_range1 rfl T.z_range (pa_cons (pe_callB (kx_len (K:=K) rfl) (by rfl) T.z_len bt_len (pa_cons (pv 1) pa_nil)) pa_nil)) (blkOk_by (own:= [("_law_spot",3)]) (N:=N__law_mixed) (sc:=defScope st__law_mixed) (by decide +kernel)) (fun _ _ _ _ _=>pg_name (i:=3) sc__law_mixed.nd rfl (by first | exact Or.inl rfl | exact Or.inr rfl)) (fun _ _ _ _ _=>pts_nil) (fun _ _ _ _ _=>pe_bmK (K:=K) rfl PySem.F.plainAttrs_list PySem.F.slot_list_pop PySem.F.type_list_pop mt_popAt (pv 2) (pa_cons (pe_fnS ((ok__law_draw T).atS hg (hr.mono (by decide)) (b__law_draw T) .nil takes0) rfl T.g__law_draw T.F__law_draw.kp (pa_cons (pv 0) (pa_cons (pe_callB (kx_len (K:=K) rfl) (by rfl) T.z_len bt_len (pa_cons (pv 2) pa_nil)) pa_nil))) pa_nil))))),?_⟩
    exact⟨_,fun x=>(simS_seq (simS_asg simG_name le_none (sim_thaw (simN_callB cn_listL (simA_cons (sim_var (i:=1) (r:=(kL kI)) (x:=x.2.1) rfl) simA_nil))) (fun (left_5:Addr)=>(show SimS _ _ ([some (kRef x.1),some ((kL kI) x.2.1),some (kRef left_5),none]:Gm K) _ _ _ _ from (simS_ret le_none (sim_thaw (simN_lc (simI_r1 (simA_cons (sim_callB cb_lenL (simA_cons (sim_var (i:=1) (r:=(kL kI)) (x:=x.2.1) rfl) simA_nil)) simA_nil)) simG_name (fun _ _ hy=>hy) (fun (x12:Int)=>simB_yes) (fun (x12:Int)=>(sim_co (sim_popAt (r:=kI) (sim_var (i:=2) (r:=kRef) (x:=left_5) rfl) (sim_call (cal_lift (w:=w__law_draw K cl)) (simA_cons (sim_var (i:=0) (r:=kRef) (x:=x.1) rfl) (simA_cons (sim_callB cb_lenC (simA_cons (sim_var (i:=2) (r:=kRef) (x:=left_5) rfl) simA_nil)) simA_nil)))) co_I))))))))),fun _ _ _ _ h=>h⟩)
def w__law_spots (K:PySem.W.Frag) (cl:Cl):Addr×Int×Int×Unit→W K (List Int):=fun x=>outW (bnd (bnd (bnd (ret x.1) fun p6=>(bnd (bnd (ret (5:Int)) fun p4=>(bnd (ret ()) fun p5=>(ret (p4,p5)))) fun p7=>(ret (p6,p7)))) fun p1=>(w__law_draw K cl p1)) fun (way_8:Int)=>(bnd (bnd (bnd (ret way_8) fun v9=>(bnd (ret (0:Int)) fun v10=>(ret (decide (v9=v10))))) fun v13=>(wIf v13 (ret true) (bnd (ret x.2.2.1) fun v11=>(bnd (ret x.2.1) fun v12=>(ret (decide (v11≤v12))))))) fun v57=>(wIf v57 (bnd (bnd (ret ()) fun y14=>(ret ([]:List Int))) fun v15=>(ret (Flow.rt v15))) (bnd (bnd (ret way_8) fun v16=>(bnd (ret (1:Int)) fun v17=>(ret (decide (v16=v17))))) fun v56=>(wIf v56 (bnd (bnd (bnd (bnd (ret x.2.1) fun v28=>(bnd (bnd (bnd (ret x.1) fun p26=>(bnd (bnd (bnd (ret x.2.2.1) fun v19=>(bnd (ret x.2.1) fun v20=>(ret (v19 - v20)))) fun p24=>(bnd (ret ()) fun p25=>(ret (p24,p25)))) fun p27=>(ret (p26,p27)))) fun p21=>(w__law_draw K cl p21)) fun v29=>(ret (v28+v29)))) fun p30=>(bnd (ret ()) fun p31=>(ret (p30,p31)))) fun y18=>(ret ([y18.1]:List Int))) fun v32=>(ret (Flow.rt v32))) (bnd (bnd (ret way_8) fun v33=>(bnd (ret (2:Int)) fun v34=>(ret (decide (v33=v34))))) fun v55=>(wIf v55 (bnd (bnd (ret x.2.1) fun v35=>(bnd (ret x.2.2.1) fun v36=>(wAss (RgOk v35 v36) (ret (rng v35 v36))))) fun v37=>(ret (Flow.rt v37))) (bnd (bnd (bnd (bnd (ret x.2.1) fun p41=>(bnd (bnd (ret x.2.2.1) fun p39=>(bnd (ret ()) fun p40=>(ret (p39,p40)))) fun p42=>(ret (p41,p42)))) fun y38=>(wAss (-(2 ^ 62)≤y38.1∧y38.1<2 ^ 62∧ -(2 ^ 62)≤y38.2.1∧y38.2.1<2 ^ 62) (ret (rng y38.1 y38.2.1,nI)))) fun y44=>(wAss (y44.1.length≤50000) (wCalm (fmapW y44.2 (fun (x43:Int)=>(bnd (bnd (bnd (ret x.1) fun p50=>(bnd (bnd (ret (2:Int)) fun p48=>(bnd (ret ()) fun p49=>(ret (p48,p49)))) fun p51=>(ret (p50,p51)))) fun p45=>(w__law_draw K cl p45)) fun v52=>(bnd (ret (0:Int)) fun v53=>(ret (decide (v52=v53)))))) (fun (x43:Int)=>(ret x43)) y44.1)))) fun v54=>(ret (Flow.rt v54)))))))))) none
abbrev sp__law_spots (K:PySem.W.Frag) (cl:Cl):Sp:=lift K (fun x:Addr×Int×Int×Unit=> [kRef x.1,kI x.2.1,kI x.2.2.1]) (kL kI) (w__law_spots K cl)
theorem ok__law_spots (T:Tx K mg cl):FnG P w K mg base 2 T.a__law_spots T.fd__law_spots ["_law_pot_here","_law_least","_law_width_here"] (sp__law_spots K cl):=
  okL T.F__law_spots sc__law_spots (fun _=>rfl) none (fun y e=>nomatch e) (fun cdv A outer s H E hg hr=>by
    refine⟨_,pss_cons (ps_set (i:=3) sc__law_spots.nd rfl (by first | exact Or.inl rfl | exact Or.inr rfl) (pe_fnS ((ok__law_draw T).atS hg (hr.mono (by decide)) (b__law_draw T) .nil (takes_of rfl rfl rfl rfl)) rfl T.g__law_draw T.F__law_draw.kp (pa_cons (pv 0) (pa_cons (pe_int) pa_nil))))
    (pss_cons (ps_if (PW.pt (pw_or (pt_cmpR (kx_eq (K:=K) rfl hr) (pv 3) (pe_int) (nomark _)) (pw_or1 (pt_cmpR op_le (pv 2) (pv 1) (nomark _))))) (pss_one (ps_ret (pe_lst (pa_nil)))) pss_nil)
    (pss_cons (ps_if (pt_cmpR (kx_eq (K:=K) rfl hr) (pv 3) (pe_int) (nomark _)) (pss_one (ps_ret (pe_lst (pa_cons (pe_op (kx_add (K:=K) rfl) (pv 1) (pe_fnS ((ok__law_draw T).atS hg (hr.mono (by decide)) (b__law_draw T) .nil (takes_of rfl rfl rfl rfl)) rfl T.g__law_draw T.F__law_draw.kp (pa_cons (pv 0) (pa_cons (pe_op op_sub (pv 2) (pv 1)) pa_nil)))) pa_nil)))) pss_nil)
    (pss_cons (ps_if (pt_cmpR (kx_eq (K:=K) rfl hr) (pv 3) (pe_int) (nomark _)) (pss_one (ps_ret (pe_listRg rfl rfl T.z_list (prg_2 rfl T.z_range (pv 1) (pv 2))))) pss_nil)
    (pss_one (ps_ret (pe_lc (own:= [("_law_spot",4)]) (g:=gName 4)  rfl sc__law_spots.nd (pi_range2 rfl T.z_range (pa_cons (pv 1) (pa_cons (pv 2) pa_nil))) (blkOk_by (own:= [("_law_spot",4)]) (N:=N__law_spots) (sc:=defScope st__law_spots) (by decide +kernel)) (fun _ _ _ _ _=>pg_name (i:=4) sc__law_spots.nd rfl (by first | exact Or.inl rfl | exact Or.inr rfl)) (fun _ _ _ _ _=>pts_one (pt_cmpR (kx_eq (K:=K) rfl hr) (pe_fnS ((ok__law_draw T).atS hg (hr.mono (by decide)) (b__law_draw T) .nil takes0) rfl T.g__law_draw T.F__law_draw.kp (pa_cons (pv 0) (pa_cons (pe_int) pa_nil))) (pe_int) (nomark _))) (fun _ _ _ _ _=>pv 4))))))),?_⟩
    exact⟨_,fun x=>(simS_seq (simS_asg simG_name le_none (sim_call (cal_lift (w:=w__law_draw K cl)) (simA_cons (sim_var (i:=0) (r:=kRef) (x:=x.1) rfl) (simA_cons sim_i simA_nil))) (fun (way_8:Int)=>(show SimS _ _ ([some (kRef x.1),some (kI x.2.1),some (kI x.2.2.1),some (kI way_8),none]:Gm K) _ _ _ _ from (simS_seq (simS_if le_none (simB_or (simB_test (sim_op os_eqI (sim_var (i:=3) (r:=kI) (x:=way_8) rfl) sim_i)) (simB_test (sim_op os_B0 (sim_var (i:=2) (r:=kI) (x:=x.2.2.1) rfl) (sim_var (i:=1) (r:=kI) (x:=x.2.1) rfl)))) (simS_ret le_none (sim_lstK (r:=kI) (fun y14:Unit=>([]:List Int)) (fun _=>rfl) (fun _=>(by decide:0≤50000)) simA_nil)) (simS_next (simS_seq (simS_if le_none (simB_test (sim_op os_eqI (sim_var (i:=3) (r:=kI) (x:=way_8) rfl) sim_i)) (simS_ret le_none (sim_lstK (r:=kI) (fun y18:Int×Unit=>([y18.1]:List Int)) (fun _=>rfl) (fun _=>(by decide:1≤50000)) (simA_cons (sim_op os_add (sim_var (i:=1) (r:=kI) (x:=x.2.1) rfl) (sim_call (cal_lift (w:=w__law_draw K cl)) (simA_cons (sim_var (i:=0) (r:=kRef) (x:=x.1) rfl) (simA_cons (sim_op os_I0 (sim_var (i:=2) (r:=kI) (x:=x.2.2.1) rfl) (sim_var (i:=1) (r:=kI) (x:=x.2.1) rfl)) simA_nil)))) simA_nil))) (simS_next (simS_seq (simS_if le_none (simB_test (sim_op os_eqI (sim_var (i:=3) (r:=kI) (x:=way_8) rfl) sim_i)) (simS_ret le_none (sim_new (simN_lstR2 (sim_var (i:=1) (r:=kI) (x:=x.2.1) rfl) (sim_var (i:=2) (r:=kI) (x:=x.2.2.1) rfl)))) (simS_next (simS_ret le_none (sim_lc (simI_r2 (simA_cons (sim_var (i:=1) (r:=kI) (x:=x.2.1) rfl) (simA_cons (sim_var (i:=2) (r:=kI) (x:=x.2.2.1) rfl) simA_nil))) simG_name (fun _ _ hy=>hy) (fun (x43:Int)=>(simB_test (sim_op os_eqI (sim_call (cal_lift (w:=w__law_draw K cl)) (simA_cons (sim_var (i:=0) (r:=kRef) (x:=x.1) rfl) (simA_cons sim_i simA_nil))) sim_i))) (fun (x43:Int)=>(sim_var (i:=4) (r:=kI) (x:=x43) rfl))))))))))))))))),fun _ _ _ _ h=>h⟩)
def w__law_odd_spots (K:PySem.W.Frag) (cl:Cl):Addr×Int×Unit→W K PyData:=fun x=>outW (bnd (bnd (bnd (ret x.1) fun p15=>(bnd (bnd (bnd (bnd (ret x.1) fun p8=>(bnd (bnd (ret (0:Int)) fun p6=>(bnd (bnd (ret x.2.1) fun p4=>(bnd (ret ()) fun p5=>(ret (p4,p5)))) fun p7=>(ret (p6,p7)))) fun p9=>(ret (p8,p9)))) fun p1=>(w__law_spots K cl p1)) fun p13=>(bnd (ret ()) fun p14=>(ret (p13,p14)))) fun p16=>(ret (p15,p16)))) fun p10=>(w__law_mixed K cl p10)) fun (spots_here_17:Addr)=>(bnd (bnd (bnd (ret x.1) fun p23=>(bnd (bnd (ret (6:Int)) fun p21=>(bnd (ret ()) fun p22=>(ret (p21,p22)))) fun p24=>(ret (p23,p24)))) fun p18=>(w__law_draw K cl p18)) fun (way_25:Int)=>(bnd (bnd (ret way_25) fun v26=>(bnd (ret (0:Int)) fun v27=>(ret (decide (v26=v27))))) fun v301=>(wIf v301 (bnd (bnd (bnd (ret x.1) fun p31=>(bnd (ret ()) fun p32=>(ret (p31,p32)))) fun p28=>(w__law_any_thing K cl p28)) fun v33=>(ret (Flow.rt v33))) (bnd (bnd (bnd (ret way_25) fun v34=>(bnd (ret (1:Int)) fun v35=>(ret (decide (v34=v35))))) fun v40=>(wIf v40 (bnd (ret spots_here_17) fun v38=>(bnd (bnd (ret ()) fun y37=>(ret ([]:List PyData))) fun v39=>(wAss (v39= []) (bnd (wLenC v38) fun n=>ret (!decide (n=0)))))) (ret false))) fun v300=>(wIf v300 (bnd (bnd (ret spots_here_17) fun v41=>(wRcv (IsLst v41) (bnd (bnd (ret spots_here_17) fun v54=>(bnd (bnd (bnd (ret x.1) fun p52=>(bnd (bnd (bnd (bnd (ret spots_here_17) fun p45=>(bnd (ret ()) fun p46=>(ret (p45,p46)))) fun y44=>(wLenC y44.1)) fun p50=>(bnd (ret ()) fun p51=>(ret (p50,p51)))) fun p53=>(ret (p52,p53)))) fun p47=>(w__law_draw K cl p47)) fun v55=>(wPk kPy v54 fun z=>wIx z v55))) fun v42=>(wApp v41 (kPy v42) (ret ()))))) fun _=>(bnd (bnd (ret way_25) fun v56=>(bnd (ret (2:Int)) fun v57=>(ret (decide (v56=v57))))) fun v177=>(wIf v177 (bnd (bnd (ret spots_here_17) fun v58=>(wRcv (IsLst v58) (bnd (bnd (bnd (ret x.1) fun p71=>(bnd (bnd (bnd (bnd (bnd (ret spots_here_17) fun p62=>(bnd (ret ()) fun p63=>(ret (p62,p63)))) fun y61=>(wLenC y61.1)) fun v64=>(bnd (ret (1:Int)) fun v65=>(ret (v64+v65)))) fun p69=>(bnd (ret ()) fun p70=>(ret (p69,p70)))) fun p72=>(ret (p71,p72)))) fun p66=>(w__law_draw K cl p66)) fun v60=>(bnd (bnd (bnd (bnd (bnd (ret true) fun v81=>(ret (PyData.bool v81))) fun p103=>(bnd (bnd (bnd (ret false) fun v82=>(ret (PyData.bool v82))) fun p101=>(bnd (bnd (bnd (ret ()) fun v83=>(ret ((fun _=>PyData.none) v83))) fun p99=>(bnd (bnd (bnd (ret ("1" :Str)) fun v84=>(ret (PyData.str v84))) fun p97=>(bnd (bnd (bnd (bnd (bnd (ret (1:Int)) fun p75=>(bnd (ret ()) fun p76=>(ret (p75,p76)))) fun y74=>(ret ([y74.1]:List Int))) fun v85=>(ret ((fun xs=>PyData.list (xs.map PyData.int)) v85))) fun p95=>(bnd (bnd (bnd (bnd (bnd (ret (0:Int)) fun p78=>(bnd (ret ()) fun p79=>(ret (p78,p79)))) fun y77=>(ret ([y77.1]:List Int))) fun v86=>(ret ((fun xs=>PyData.tuple (xs.map PyData.int)) v86))) fun p93=>(bnd (bnd (bnd (bnd (ret (1:Int)) fun v80=>(ret (-v80))) fun v87=>(ret (PyData.int v87))) fun p91=>(bnd (bnd (bnd (ret x.2.1) fun v88=>(ret (PyData.int v88))) fun p89=>(bnd (ret ()) fun p90=>(ret (p89,p90)))) fun p92=>(ret (p91,p92)))) fun p94=>(ret (p93,p94)))) fun p96=>(ret (p95,p96)))) fun p98=>(ret (p97,p98)))) fun p100=>(ret (p99,p100)))) fun p102=>(ret (p101,p102)))) fun p104=>(ret (p103,p104)))) fun y73=>(ret ([y73.1,y73.2.1,y73.2.2.1,y73.2.2.2.1,y73.2.2.2.2.1,y73.2.2.2.2.2.1,y73.2.2.2.2.2.2.1,y73.2.2.2.2.2.2.2.1]:List PyData))) fun v113=>(bnd (bnd (bnd (ret x.1) fun p111=>(bnd (bnd (ret (8:Int)) fun p109=>(bnd (ret ()) fun p110=>(ret (p109,p110)))) fun p112=>(ret (p111,p112)))) fun p106=>(w__law_draw K cl p106)) fun v114=>(wIx v113 v114))) fun v59=>(wIns v58 v60 (kPy v59) (ret ())))))) fun _=>(bnd (bnd (ret way_25) fun v115=>(bnd (ret (3:Int)) fun v116=>(ret (decide (v115=v116))))) fun v145=>(wIf v145 (bnd (bnd (bnd (bnd (ret spots_here_17) fun p118=>(bnd (ret ()) fun p119=>(ret (p118,p119)))) fun y117=>(wPk kPy y117.1 ret)) fun v120=>(ret ((fun xs=>PyData.tuple (xs.map id)) v120))) fun v121=>(ret (Flow.rt v121))) (bnd (bnd (ret way_25) fun v122=>(bnd (ret (4:Int)) fun v123=>(ret (decide (v122=v123))))) fun v144=>(wIf v144 (bnd (bnd (ret spots_here_17) fun v124=>(wRcv (IsLst v124) (bnd (bnd (bnd (ret x.2.1) fun v133=>(bnd (bnd (bnd (ret x.1) fun p131=>(bnd (bnd (ret (3:Int)) fun p129=>(bnd (ret ()) fun p130=>(ret (p129,p130)))) fun p132=>(ret (p131,p132)))) fun p126=>(w__law_draw K cl p126)) fun v134=>(ret (v133+v134)))) fun v135=>(ret (PyData.int v135))) fun v125=>(wApp v124 (kPy v125) (ret ()))))) fun _=>(bnd (bnd (bnd (ret spots_here_17) (wFrzL kPy)) fun v138=>(ret ((fun xs=>PyData.list (xs.map id)) v138))) fun v139=>(ret (Flow.rt v139)))) (bnd (bnd (bnd (ret spots_here_17) (wFrzL kPy)) fun v142=>(ret ((fun xs=>PyData.list (xs.map id)) v142))) fun v143=>(ret (Flow.rt v143)))))))) (bnd (bnd (ret way_25) fun v146=>(bnd (ret (3:Int)) fun v147=>(ret (decide (v146=v147))))) fun v176=>(wIf v176 (bnd (bnd (bnd (bnd (ret spots_here_17) fun p149=>(bnd (ret ()) fun p150=>(ret (p149,p150)))) fun y148=>(wPk kPy y148.1 ret)) fun v151=>(ret ((fun xs=>PyData.tuple (xs.map id)) v151))) fun v152=>(ret (Flow.rt v152))) (bnd (bnd (ret way_25) fun v153=>(bnd (ret (4:Int)) fun v154=>(ret (decide (v153=v154))))) fun v175=>(wIf v175 (bnd (bnd (ret spots_here_17) fun v155=>(wRcv (IsLst v155) (bnd (bnd (bnd (ret x.2.1) fun v164=>(bnd (bnd (bnd (ret x.1) fun p162=>(bnd (bnd (ret (3:Int)) fun p160=>(bnd (ret ()) fun p161=>(ret (p160,p161)))) fun p163=>(ret (p162,p163)))) fun p157=>(w__law_draw K cl p157)) fun v165=>(ret (v164+v165)))) fun v166=>(ret (PyData.int v166))) fun v156=>(wApp v155 (kPy v156) (ret ()))))) fun _=>(bnd (bnd (bnd (ret spots_here_17) (wFrzL kPy)) fun v169=>(ret ((fun xs=>PyData.list (xs.map id)) v169))) fun v170=>(ret (Flow.rt v170)))) (bnd (bnd (bnd (ret spots_here_17) (wFrzL kPy)) fun v173=>(ret ((fun xs=>PyData.list (xs.map id)) v173))) fun v174=>(ret (Flow.rt v174)))))))))) (bnd (bnd (ret way_25) fun v178=>(bnd (ret (2:Int)) fun v179=>(ret (decide (v178=v179))))) fun v299=>(wIf v299 (bnd (bnd (ret spots_here_17) fun v180=>(wRcv (IsLst v180) (bnd (bnd (bnd (ret x.1) fun p193=>(bnd (bnd (bnd (bnd (bnd (ret spots_here_17) fun p184=>(bnd (ret ()) fun p185=>(ret (p184,p185)))) fun y183=>(wLenC y183.1)) fun v186=>(bnd (ret (1:Int)) fun v187=>(ret (v186+v187)))) fun p191=>(bnd (ret ()) fun p192=>(ret (p191,p192)))) fun p194=>(ret (p193,p194)))) fun p188=>(w__law_draw K cl p188)) fun v182=>(bnd (bnd (bnd (bnd (bnd (ret true) fun v203=>(ret (PyData.bool v203))) fun p225=>(bnd (bnd (bnd (ret false) fun v204=>(ret (PyData.bool v204))) fun p223=>(bnd (bnd (bnd (ret ()) fun v205=>(ret ((fun _=>PyData.none) v205))) fun p221=>(bnd (bnd (bnd (ret ("1" :Str)) fun v206=>(ret (PyData.str v206))) fun p219=>(bnd (bnd (bnd (bnd (bnd (ret (1:Int)) fun p197=>(bnd (ret ()) fun p198=>(ret (p197,p198)))) fun y196=>(ret ([y196.1]:List Int))) fun v207=>(ret ((fun xs=>PyData.list (xs.map PyData.int)) v207))) fun p217=>(bnd (bnd (bnd (bnd (bnd (ret (0:Int)) fun p200=>(bnd (ret ()) fun p201=>(ret (p200,p201)))) fun y199=>(ret ([y199.1]:List Int))) fun v208=>(ret ((fun xs=>PyData.tuple (xs.map PyData.int)) v208))) fun p215=>(bnd (bnd (bnd (bnd (ret (1:Int)) fun v202=>(ret (-v202))) fun v209=>(ret (PyData.int v209))) fun p213=>(bnd (bnd (bnd (ret x.2.1) fun v210=>(ret (PyData.int v210))) fun p211=>(bnd (ret ()) fun p212=>(ret (p211,p212)))) fun p214=>(ret (p213,p214)))) fun p216=>(ret (p215,p216)))) fun p218=>(ret (p217,p218)))) fun p220=>(ret (p219,p220)))) fun p222=>(ret (p221,p222)))) fun p224=>(ret (p223,p224)))) fun p226=>(ret (p225,p226)))) fun y195=>(ret ([y195.1,y195.2.1,y195.2.2.1,y195.2.2.2.1,y195.2.2.2.2.1,y195.2.2.2.2.2.1,y195.2.2.2.2.2.2.1,y195.2.2.2.2.2.2.2.1]:List PyData))) fun v235=>(bnd (bnd (bnd (ret x.1) fun p233=>(bnd (bnd (ret (8:Int)) fun p231=>(bnd (ret ()) fun p232=>(ret (p231,p232)))) fun p234=>(ret (p233,p234)))) fun p228=>(w__law_draw K cl p228)) fun v236=>(wIx v235 v236))) fun v181=>(wIns v180 v182 (kPy v181) (ret ())))))) fun _=>(bnd (bnd (ret way_25) fun v237=>(bnd (ret (3:Int)) fun v238=>(ret (decide (v237=v238))))) fun v267=>(wIf v267 (bnd (bnd (bnd (bnd (ret spots_here_17) fun p240=>(bnd (ret ()) fun p241=>(ret (p240,p241)))) fun y239=>(wPk kPy y239.1 ret)) fun v242=>(ret ((fun xs=>PyData.tuple (xs.map id)) v242))) fun v243=>(ret (Flow.rt v243))) (bnd (bnd (ret way_25) fun v244=>(bnd (ret (4:Int)) fun v245=>(ret (decide (v244=v245))))) fun v266=>(wIf v266 (bnd (bnd (ret spots_here_17) fun v246=>(wRcv (IsLst v246) (bnd (bnd (bnd (ret x.2.1) fun v255=>(bnd (bnd (bnd (ret x.1) fun p253=>(bnd (bnd (ret (3:Int)) fun p251=>(bnd (ret ()) fun p252=>(ret (p251,p252)))) fun p254=>(ret (p253,p254)))) fun p248=>(w__law_draw K cl p248)) fun v256=>(ret (v255+v256)))) fun v257=>(ret (PyData.int v257))) fun v247=>(wApp v246 (kPy v247) (ret ()))))) fun _=>(bnd (bnd (bnd (ret spots_here_17) (wFrzL kPy)) fun v260=>(ret ((fun xs=>PyData.list (xs.map id)) v260))) fun v261=>(ret (Flow.rt v261)))) (bnd (bnd (bnd (ret spots_here_17) (wFrzL kPy)) fun v264=>(ret ((fun xs=>PyData.list (xs.map id)) v264))) fun v265=>(ret (Flow.rt v265)))))))) (bnd (bnd (ret way_25) fun v268=>(bnd (ret (3:Int)) fun v269=>(ret (decide (v268=v269))))) fun v298=>(wIf v298 (bnd (bnd (bnd (bnd (ret spots_here_17) fun p271=>(bnd (ret ()) fun p272=>(ret (p271,p272)))) fun y270=>(wPk kPy y270.1 ret)) fun v273=>(ret ((fun xs=>PyData.tuple (xs.map id)) v273))) fun v274=>(ret (Flow.rt v274))) (bnd (bnd (ret way_25) fun v275=>(bnd (ret (4:Int)) fun v276=>(ret (decide (v275=v276))))) fun v297=>(wIf v297 (bnd (bnd (ret spots_here_17) fun v277=>(wRcv (IsLst v277) (bnd (bnd (bnd (ret x.2.1) fun v286=>(bnd (bnd (bnd (ret x.1) fun p284=>(bnd (bnd (ret (3:Int)) fun p282=>(bnd (ret ()) fun p283=>(ret (p282,p283)))) fun p285=>(ret (p284,p285)))) fun p279=>(w__law_draw K cl p279)) fun v287=>(ret (v286+v287)))) fun v288=>(ret (PyData.int v288))) fun v278=>(wApp v277 (kPy v278) (ret ()))))) fun _=>(bnd (bnd (bnd (ret spots_here_17) (wFrzL kPy)) fun v291=>(ret ((fun xs=>PyData.list (xs.map id)) v291))) fun v292=>(ret (Flow.rt v292)))) (bnd (bnd (bnd (ret spots_here_17) (wFrzL kPy)) fun v295=>(ret ((fun xs=>PyData.list (xs.map id)) v295))) fun v296=>(ret (Flow.rt v296))))))))))))))) none
abbrev sp__law_odd_spots (K:PySem.W.Frag) (cl:Cl):Sp:=lift K (fun x:Addr×Int×Unit=> [kRef x.1,kI x.2.1]) kPy (w__law_odd_spots K cl)
theorem ok__law_odd_spots (T:Tx K mg cl):FnG P w K mg base 3 T.a__law_odd_spots T.fd__law_odd_spots ["_law_pot_here","_law_width_here"] (sp__law_odd_spots K cl):=
  okL T.F__law_odd_spots sc__law_odd_spots (fun _=>rfl) none (fun y e=>nomatch e) (fun cdv A outer s H E hg hr=>by
    refine⟨_,pss_cons (ps_set (i:=2) sc__law_odd_spots.nd rfl (by first | exact Or.inl rfl | exact Or.inr rfl) (pe_fnS ((ok__law_mixed T).atS hg (hr.mono (by decide)) (b__law_mixed T) .nil (takes_of rfl rfl rfl rfl)) rfl T.g__law_mixed T.F__law_mixed.kp (pa_cons (pv 0) (pa_cons (pe_fnS ((ok__law_spots T).atS hg (hr.mono (by decide)) (b__law_spots T) .nil (takes_of rfl rfl rfl rfl)) rfl T.g__law_spots T.F__law_spots.kp (pa_cons (pv 0) (pa_cons (pe_int) (pa_cons (pv 1) pa_nil)))) pa_nil))))
    (pss_cons (ps_set (i:=3) sc__law_odd_spots.nd rfl (by first | exact Or.inl rfl | exact Or.inr rfl) (pe_fnS ((ok__law_draw T).atS hg (hr.mono (by decide)) (b__law_draw T) .nil (takes_of rfl rfl rfl rfl)) rfl T.g__law_draw T.F__law_draw.kp (pa_cons (pv 0) (pa_cons (pe_int) pa_nil))))
    (pss_cons (ps_if (pt_cmpR (kx_eq (K:=K) rfl hr) (pv 3) (pe_int) (nomark _)) (pss_one (ps_ret (pe_fnS ((ok__law_any_thing T).atS hg (hr.mono (by decide)) (b__law_any_thing T) .nil (takes_of rfl rfl rfl rfl)) rfl T.g__law_any_thing T.F__law_any_thing.kp (pa_cons (pv 0) pa_nil)))) pss_nil)
    (pss_cons (ps_if (PW.pt (pw_and (pt_cmpR (kx_eq (K:=K) rfl hr) (pv 3) (pe_int) (nomark _)) (pw_and1 (pt_cmpR (op_neE hr) (pv 2) (pe_lst (pa_nil)) (nomark _))))) (pss_one (ps_expr (pe_bmK (K:=K) rfl PySem.F.plainAttrs_list PySem.F.slot_list_append PySem.F.type_list_append mt_append (pv 2) (pa_cons (pe_ix (kx_ix (K:=K) rfl) (pv 2) (pe_fnS ((ok__law_draw T).atS hg (hr.mono (by decide)) (b__law_draw T) .nil (takes_of rfl rfl rfl rfl)) rfl T.g__law_draw T.F__law_draw.kp (pa_cons (pv 0) (pa_cons (pe_callB (kx_len (K:=K) rfl) (by rfl) T.z_len bt_len (pa_cons (pv 2) pa_nil)) pa_nil))) (fun _ _=>rfl)) pa_nil)))) pss_nil)
    (pss_cons (ps_if (pt_cmpR (kx_eq (K:=K) rfl hr) (pv 3) (pe_int) (nomark _)) (pss_one (ps_expr (pe_bmK (K:=K) rfl PySem.F.plainAttrs_list PySem.F.slot_list_insert PySem.F.type_list_insert mt_ins (pv 2) (pa_cons (pe_fnS ((ok__law_draw T).atS hg (hr.mono (by decide)) (b__law_draw T) .nil (takes_of rfl rfl rfl rfl)) rfl T.g__law_draw T.F__law_draw.kp (pa_cons (pv 0) (pa_cons (pe_op (kx_add (K:=K) rfl) (pe_callB (kx_len (K:=K) rfl) (by rfl) T.z_len bt_len (pa_cons (pv 2) pa_nil)) (pe_int)) pa_nil))) (pa_cons (pe_ix (kx_ix (K:=K) rfl) (pe_lst (pa_cons (pe_bl) (pa_cons (pe_bl) (pa_cons (pe_non) (pa_cons (pe_str) (pa_cons (pe_lst (pa_cons (pe_int) pa_nil)) (pa_cons (pe_tup (pa_cons (pe_int) pa_nil)) (pa_cons (pe_un un_neg (pe_int)) (pa_cons (pv 1) pa_nil))))))))) (pe_fnS ((ok__law_draw T).atS hg (hr.mono (by decide)) (b__law_draw T) .nil (takes_of rfl rfl rfl rfl)) rfl T.g__law_draw T.F__law_draw.kp (pa_cons (pv 0) (pa_cons (pe_int) pa_nil))) (fun _ _=>rfl)) pa_nil))))) pss_nil)
    (pss_cons (ps_if (pt_cmpR (kx_eq (K:=K) rfl hr) (pv 3) (pe_int) (nomark _)) (pss_one (ps_ret (pe_callTy (kx_tuple (K:=K) rfl) (by rfl) T.z_tuple bt_tuple (pa_cons (pv 2) pa_nil)))) pss_nil)
    (pss_cons (ps_if (pt_cmpR (kx_eq (K:=K) rfl hr) (pv 3) (pe_int) (nomark _)) (pss_one (ps_expr (pe_bmK (K:=K) rfl PySem.F.plainAttrs_list PySem.F.slot_list_append PySem.F.type_list_append mt_append (pv 2) (pa_cons (pe_op (kx_add (K:=K) rfl) (pv 1) (pe_fnS ((ok__law_draw T).atS hg (hr.mono (by decide)) (b__law_draw T) .nil (takes_of rfl rfl rfl rfl)) rfl T.g__law_draw T.F__law_draw.kp (pa_cons (pv 0) (pa_cons (pe_int) pa_nil)))) pa_nil)))) pss_nil)
    (pss_one (ps_ret (pv 2))))))))),?_⟩
    exact⟨_,fun x=>(simS_seq (simS_asg simG_name le_none (sim_call (cal_lift (w:=w__law_mixed K cl)) (simA_cons (sim_var (i:=0) (r:=kRef) (x:=x.1) rfl) (simA_cons (sim_call (cal_lift (w:=w__law_spots K cl)) (simA_cons (sim_var (i:=0) (r:=kRef) (x:=x.1) rfl) (simA_cons sim_i (simA_cons (sim_var (i:=1) (r:=kI) (x:=x.2.1) rfl) simA_nil)))) simA_nil))) (fun (spots_here_17:Addr)=>(show SimS _ _ ([some (kRef x.1),some (kI x.2.1),some (kRef spots_here_17),none]:Gm K) _ _ _ _ from (simS_seq (simS_asg simG_name le_none (sim_call (cal_lift (w:=w__law_draw K cl)) (simA_cons (sim_var (i:=0) (r:=kRef) (x:=x.1) rfl) (simA_cons sim_i simA_nil))) (fun (way_25:Int)=>(show SimS _ _ ([some (kRef x.1),some (kI x.2.1),some (kRef spots_here_17),some (kI way_25)]:Gm K) _ _ _ _ from (simS_seq (simS_if le_none (simB_test (sim_op os_eqI (sim_var (i:=3) (r:=kI) (x:=way_25) rfl) sim_i)) (simS_ret le_none (sim_call (cal_lift (w:=w__law_any_thing K cl)) (simA_cons (sim_var (i:=0) (r:=kRef) (x:=x.1) rfl) simA_nil))) (simS_next (simS_seq (simS_if le_none (simB_and (simB_test (sim_op os_eqI (sim_var (i:=3) (r:=kI) (x:=way_25) rfl) sim_i)) (simB_test (sim_op os_neEC (sim_var (i:=2) (r:=kRef) (x:=spots_here_17) rfl) (sim_lstK (r:=kPy) (fun y37:Unit=>([]:List PyData)) (fun _=>rfl) (fun _=>(by decide:0≤50000)) simA_nil)))) (simS_drop le_none (sim_append (r:=kPy) (sim_var (i:=2) (r:=kRef) (x:=spots_here_17) rfl) (sim_op (os_ixC (r:=kPy)) (sim_var (i:=2) (r:=kRef) (x:=spots_here_17) rfl) (sim_call (cal_lift (w:=w__law_draw K cl)) (simA_cons (sim_var (i:=0) (r:=kRef) (x:=x.1) rfl) (simA_cons (sim_callB cb_lenC (simA_cons (sim_var (i:=2) (r:=kRef) (x:=spots_here_17) rfl) simA_nil)) simA_nil))))) (simS_seq (simS_if le_none (simB_test (sim_op os_eqI (sim_var (i:=3) (r:=kI) (x:=way_25) rfl) sim_i)) (simS_drop le_none (sim_insert (r:=kPy) (sim_var (i:=2) (r:=kRef) (x:=spots_here_17) rfl) (sim_call (cal_lift (w:=w__law_draw K cl)) (simA_cons (sim_var (i:=0) (r:=kRef) (x:=x.1) rfl) (simA_cons (sim_op os_add (sim_callB cb_lenC (simA_cons (sim_var (i:=2) (r:=kRef) (x:=spots_here_17) rfl) simA_nil)) sim_i) simA_nil))) (sim_op os_ixL (sim_lstK (r:=kPy) (fun y73:PyData×PyData×PyData×PyData×PyData×PyData×PyData×PyData×Unit=>([y73.1,y73.2.1,y73.2.2.1,y73.2.2.2.1,y73.2.2.2.2.1,y73.2.2.2.2.2.1,y73.2.2.2.2.2.2.1,y73.2.2.2.2.2.2.2.1]:List PyData)) (fun _=>rfl) (fun _=>(by decide:8≤50000)) (simA_cons (sim_co sim_b co_B) (simA_cons (sim_co sim_b co_B) (simA_cons (sim_co sim_n co_N) (simA_cons (sim_co sim_s co_S) (simA_cons (sim_co (sim_lstK (r:=kI) (fun y74:Int×Unit=>([y74.1]:List Int)) (fun _=>rfl) (fun _=>(by decide:1≤50000)) (simA_cons sim_i simA_nil)) (co_LP co_I)) (simA_cons (sim_co (sim_tupK (r:=kI) (fun y77:Int×Unit=>([y77.1]:List Int)) (fun _=>rfl) (fun _=>(by decide:1≤50000)) (simA_cons sim_i simA_nil)) (co_TP co_I)) (simA_cons (sim_co (sim_neg sim_i) co_I) (simA_cons (sim_co (sim_var (i:=1) (r:=kI) (x:=x.2.1) rfl) co_I) simA_nil))))))))) (sim_call (cal_lift (w:=w__law_draw K cl)) (simA_cons (sim_var (i:=0) (r:=kRef) (x:=x.1) rfl) (simA_cons sim_i simA_nil))))) (simS_seq (simS_if le_none (simB_test (sim_op os_eqI (sim_var (i:=3) (r:=kI) (x:=way_25) rfl) sim_i)) (simS_ret le_none (sim_co (sim_callB (cb_tupleC (r:=kPy)) (simA_cons (sim_var (i:=2) (r:=kRef) (x:=spots_here_17) rfl) simA_nil)) (co_TP co_id))) (simS_next (simS_seq (simS_if le_none (simB_test (sim_op os_eqI (sim_var (i:=3) (r:=kI) (x:=way_25) rfl) sim_i)) (simS_drop le_none (sim_append (r:=kPy) (sim_var (i:=2) (r:=kRef) (x:=spots_here_17) rfl) (sim_co (sim_op os_add (sim_var (i:=1) (r:=kI) (x:=x.2.1) rfl) (sim_call (cal_lift (w:=w__law_draw K cl)) (simA_cons (sim_var (i:=0) (r:=kRef) (x:=x.1) rfl) (simA_cons sim_i simA_nil)))) co_I)) (simS_ret le_none (sim_co (sim_frzL (r:=kPy) (sim_var (i:=2) (r:=kRef) (x:=spots_here_17) rfl)) (co_LP co_id)))) (simS_next (simS_ret le_none (sim_co (sim_frzL (r:=kPy) (sim_var (i:=2) (r:=kRef) (x:=spots_here_17) rfl)) (co_LP co_id)))))))))) (simS_next (simS_seq (simS_if le_none (simB_test (sim_op os_eqI (sim_var (i:=3) (r:=kI) (x:=way_25) rfl) sim_i)) (simS_ret le_none (sim_co (sim_callB (cb_tupleC (r:=kPy)) (simA_cons (sim_var (i:=2) (r:=kRef) (x:=spots_here_17) rfl) simA_nil)) (co_TP co_id))) (simS_next (simS_seq (simS_if le_none (simB_test (sim_op os_eqI (sim_var (i:=3) (r:=kI) (x:=way_25) rfl) sim_i)) (simS_drop le_none (sim_append (r:=kPy) (sim_var (i:=2) (r:=kRef) (x:=spots_here_17) rfl) (sim_co (sim_op os_add (sim_var (i:=1) (r:=kI) (x:=x.2.1) rfl) (sim_call (cal_lift (w:=w__law_draw K cl)) (simA_cons (sim_var (i:=0) (r:=kRef) (x:=x.1) rfl) (simA_cons sim_i simA_nil)))) co_I)) (simS_ret le_none (sim_co (sim_frzL (r:=kPy) (sim_var (i:=2) (r:=kRef) (x:=spots_here_17) rfl)) (co_LP co_id)))) (simS_next (simS_ret le_none (sim_co (sim_frzL (r:=kPy) (sim_var (i:=2) (r:=kRef) (x:=spots_here_17) rfl)) (co_LP co_id))))))))))))) (simS_next (simS_seq (simS_if le_none (simB_test (sim_op os_eqI (sim_var (i:=3) (r:=kI) (x:=way_25) rfl) sim_i)) (simS_drop le_none (sim_insert (r:=kPy) (sim_var (i:=2) (r:=kRef) (x:=spots_here_17) rfl) (sim_call (cal_lift (w:=w__law_draw K cl)) (simA_cons (sim_var (i:=0) (r:=kRef) (x:=x.1) rfl) (simA_cons (sim_op os_add (sim_callB cb_lenC (simA_cons (sim_var (i:=2) (r:=kRef) (x:=spots_here_17) rfl) simA_nil)) sim_i) simA_nil))) (sim_op os_ixL (sim_lstK (r:=kPy) (fun y195:PyData×PyData×PyData×PyData×PyData×PyData×PyData×PyData×Unit=>([y195.1,y195.2.1,y195.2.2.1,y195.2.2.2.1,y195.2.2.2.2.1,y195.2.2.2.2.2.1,y195.2.2.2.2.2.2.1,y195.2.2.2.2.2.2.2.1]:List PyData)) (fun _=>rfl) (fun _=>(by decide:8≤50000)) (simA_cons (sim_co sim_b co_B) (simA_cons (sim_co sim_b co_B) (simA_cons (sim_co sim_n co_N) (simA_cons (sim_co sim_s co_S) (simA_cons (sim_co (sim_lstK (r:=kI) (fun y196:Int×Unit=>([y196.1]:List Int)) (fun _=>rfl) (fun _=>(by decide:1≤50000)) (simA_cons sim_i simA_nil)) (co_LP co_I)) (simA_cons (sim_co (sim_tupK (r:=kI) (fun y199:Int×Unit=>([y199.1]:List Int)) (fun _=>rfl) (fun _=>(by decide:1≤50000)) (simA_cons sim_i simA_nil)) (co_TP co_I)) (simA_cons (sim_co (sim_neg sim_i) co_I) (simA_cons (sim_co (sim_var (i:=1) (r:=kI) (x:=x.2.1) rfl) co_I) simA_nil))))))))) (sim_call (cal_lift (w:=w__law_draw K cl)) (simA_cons (sim_var (i:=0) (r:=kRef) (x:=x.1) rfl) (simA_cons sim_i simA_nil))))) (simS_seq (simS_if le_none (simB_test (sim_op os_eqI (sim_var (i:=3) (r:=kI) (x:=way_25) rfl) sim_i)) (simS_ret le_none (sim_co (sim_callB (cb_tupleC (r:=kPy)) (simA_cons (sim_var (i:=2) (r:=kRef) (x:=spots_here_17) rfl) simA_nil)) (co_TP co_id))) (simS_next (simS_seq (simS_if le_none (simB_test (sim_op os_eqI (sim_var (i:=3) (r:=kI) (x:=way_25) rfl) sim_i)) (simS_drop le_none (sim_append (r:=kPy) (sim_var (i:=2) (r:=kRef) (x:=spots_here_17) rfl) (sim_co (sim_op os_add (sim_var (i:=1) (r:=kI) (x:=x.2.1) rfl) (sim_call (cal_lift (w:=w__law_draw K cl)) (simA_cons (sim_var (i:=0) (r:=kRef) (x:=x.1) rfl) (simA_cons sim_i simA_nil)))) co_I)) (simS_ret le_none (sim_co (sim_frzL (r:=kPy) (sim_var (i:=2) (r:=kRef) (x:=spots_here_17) rfl)) (co_LP co_id)))) (simS_next (simS_ret le_none (sim_co (sim_frzL (r:=kPy) (sim_var (i:=2) (r:=kRef) (x:=spots_here_17) rfl)) (co_LP co_id)))))))))) (simS_next (simS_seq (simS_if le_none (simB_test (sim_op os_eqI (sim_var (i:=3) (r:=kI) (x:=way_25) rfl) sim_i)) (simS_ret le_none (sim_co (sim_callB (cb_tupleC (r:=kPy)) (simA_cons (sim_var (i:=2) (r:=kRef) (x:=spots_here_17) rfl) simA_nil)) (co_TP co_id))) (simS_next (simS_seq (simS_if le_none (simB_test (sim_op os_eqI (sim_var (i:=3) (r:=kI) (x:=way_25) rfl) sim_i)) (simS_drop le_none (sim_append (r:=kPy) (sim_var (i:=2) (r:=kRef) (x:=spots_here_17) rfl) (sim_co (sim_op os_add (sim_var (i:=1) (r:=kI) (x:=x.2.1) rfl) (sim_call (cal_lift (w:=w__law_draw K cl)) (simA_cons (sim_var (i:=0) (r:=kRef) (x:=x.1) rfl) (simA_cons sim_i simA_nil)))) co_I)) (simS_ret le_none (sim_co (sim_frzL (r:=kPy) (sim_var (i:=2) (r:=kRef) (x:=spots_here_17) rfl)) (co_LP co_id)))) (simS_next (simS_ret le_none (sim_co (sim_frzL (r:=kPy) (sim_var (i:=2) (r:=kRef) (x:=spots_here_17) rfl)) (co_LP co_id)))))))))))))))))))))))))),fun _ _ _ _ h=>h⟩)
def w__law_is_int (K:PySem.W.Frag) (cl:Cl):PyData×Int×Int×Unit→W K Bool:=fun x=>outW (bnd (bnd (bnd (bnd (ret x.1) fun p4=>(bnd (bnd (ret "int") fun p2=>(bnd (ret ()) fun p3=>(ret (p2,p3)))) fun p5=>(ret (p4,p5)))) fun y1=>(wAss (IsTy y1.2.1) (ret (isD y1.1 y1.2.1)))) fun v18=>(wIf v18 (bnd (bnd (bnd (bnd (ret x.1) fun p10=>(bnd (bnd (ret "bool") fun p8=>(bnd (ret ()) fun p9=>(ret (p8,p9)))) fun p11=>(ret (p10,p11)))) fun y7=>(wAss (IsTy y7.2.1) (ret (isD y7.1 y7.2.1)))) fun v6=>(ret (!v6))) fun v17=>(wIf v17 (bnd (ret x.2.1) fun v13=>(bnd (bnd (ret x.1) (wAs PyData.int)) fun v14=>(bnd (ret (decide (v13≤v14))) fun v15=>(wIf v15 (bnd (ret x.2.2.1) fun v16=>(ret (decide (v14≤v16)))) (ret false))))) (ret false))) (ret false))) fun v19=>(ret (Flow.rt v19))) none
abbrev sp__law_is_int (K:PySem.W.Frag) (cl:Cl):Sp:=lift K (fun x:PyData×Int×Int×Unit=> [kPy x.1,kI x.2.1,kI x.2.2.1]) kB (w__law_is_int K cl)
theorem ok__law_is_int (T:Tx K mg cl):FnG P w K mg base 1 T.a__law_is_int T.fd__law_is_int ["_law_item","_law_low","_law_high"] (sp__law_is_int K cl):=
  okL T.F__law_is_int sc__law_is_int (fun _=>rfl) none (fun y e=>nomatch e) (fun cdv A outer s H E hg hr=>by
    refine⟨_,pss_one (ps_ret (pe_and (pe_callB (kx_isi (K:=K) rfl) (by rfl) T.z_isinstance bt_isinstance (pa_cons (pv 0) (pa_cons (pe_bltn (v:= .ty "int") (by rfl) T.z_int bt_int rfl) pa_nil))) (pe_and (pe_not (pe_callB (kx_isi (K:=K) rfl) (by rfl) T.z_isinstance bt_isinstance (pa_cons (pv 0) (pa_cons (pe_bltn (v:= .ty "bool") (by rfl) T.z_bool bt_bool rfl) pa_nil)))) (pe_one (pe_chain op_le op_le (pv 1) (pv 0) (pv 2)))))),?_⟩
    exact⟨_,fun x=>(simS_ret le_none (sim_andV (sim_callB cb_isi (simA_cons (sim_var (i:=0) (r:=kPy) (x:=x.1) rfl) (simA_cons (sim_ty (T:= "int")) simA_nil))) (sim_andV (sim_notV (sim_callB cb_isi (simA_cons (sim_var (i:=0) (r:=kPy) (x:=x.1) rfl) (simA_cons (sim_ty (T:= "bool")) simA_nil)))) (sim_chain os_B0 os_B0 (sim_var (i:=1) (r:=kI) (x:=x.2.1) rfl) (sim_as oc_I (sim_var (i:=0) (r:=kPy) (x:=x.1) rfl)) (sim_var (i:=2) (r:=kI) (x:=x.2.2.1) rfl))))),fun _ _ _ _ h=>h⟩)
def w__law_kind (K:PySem.W.Frag) (cl:Cl):(Err K)×Unit→W K Str:=fun x=>outW (bnd (bnd (bnd (bnd (bnd (ret x.1) fun p5=>(bnd (bnd (ret (Value.ref cl.NoSize)) fun p3=>(bnd (ret ()) fun p4=>(ret (p3,p4)))) fun p6=>(ret (p5,p6)))) fun y2=>(wIsE y2.1 y2.2.1)) fun p28=>(bnd (bnd (bnd (bnd (ret x.1) fun p10=>(bnd (bnd (ret (Value.ref cl.NoCell)) fun p8=>(bnd (ret ()) fun p9=>(ret (p8,p9)))) fun p11=>(ret (p10,p11)))) fun y7=>(wIsE y7.1 y7.2.1)) fun p26=>(bnd (bnd (bnd (bnd (ret x.1) fun p15=>(bnd (bnd (ret (Value.ref cl.NoCells)) fun p13=>(bnd (ret ()) fun p14=>(ret (p13,p14)))) fun p16=>(ret (p15,p16)))) fun y12=>(wIsE y12.1 y12.2.1)) fun p24=>(bnd (bnd (bnd (bnd (ret x.1) fun p20=>(bnd (bnd (ret (Value.ref cl.NoFlip)) fun p18=>(bnd (ret ()) fun p19=>(ret (p18,p19)))) fun p21=>(ret (p20,p21)))) fun y17=>(wIsE y17.1 y17.2.1)) fun p22=>(bnd (ret ()) fun p23=>(ret (p22,p23)))) fun p25=>(ret (p24,p25)))) fun p27=>(ret (p26,p27)))) fun p29=>(ret (p28,p29)))) fun y1=>(ret ([y1.1,y1.2.1,y1.2.2.1,y1.2.2.2.1]:List Bool))) fun (found_30:List Bool)=>(bnd (bnd (bnd (bnd (ret found_30) fun v31=>(wRcv (fun _=>True) (bnd (ret true) fun v32=>(ret ((v31.count v32:Nat):Int))))) fun v33=>(bnd (ret (1:Int)) fun v34=>(ret (!decide (v33=v34))))) fun v41=>(wIf v41 (ret true) (bnd (bnd (bnd (ret x.1) fun p38=>(bnd (bnd (ret (Value.type "ValueError")) fun p36=>(bnd (ret ()) fun p37=>(ret (p36,p37)))) fun p39=>(ret (p38,p39)))) fun y35=>(wIsE y35.1 y35.2.1)) fun v40=>(ret (!v40))))) fun v58=>(wIf v58 (bnd (ret ("other" :Str)) fun v42=>(ret (Flow.rt v42))) (bnd (bnd (bnd (bnd (ret ("size" :Str)) fun p50=>(bnd (bnd (ret ("cell" :Str)) fun p48=>(bnd (bnd (ret ("cells" :Str)) fun p46=>(bnd (bnd (ret ("flip" :Str)) fun p44=>(bnd (ret ()) fun p45=>(ret (p44,p45)))) fun p47=>(ret (p46,p47)))) fun p49=>(ret (p48,p49)))) fun p51=>(ret (p50,p51)))) fun y43=>(ret ([y43.1,y43.2.1,y43.2.2.1,y43.2.2.2.1]:List Str))) fun v55=>(bnd (bnd (ret found_30) fun v53=>(wRcv (fun _=>True) (bnd (ret true) fun v54=>(wAss (v54∈v53) (ret ((v53.idxOf v54:Nat):Int)))))) fun v56=>(wIx v55 v56))) fun v57=>(ret (Flow.rt v57)))))) none
abbrev sp__law_kind (K:PySem.W.Frag) (cl:Cl) (a:Addr) (k:Value) (d:Option Addr):Sp:=lift K (fun x:(Err K)×Unit=> [(kErr a k d) x.1]) kS (w__law_kind K cl)
theorem ok__law_kind (T:Tx K mg cl) (a:Addr) (k:Value) (d:Option Addr):FnE P w K mg base a k d 1 T.a__law_kind T.fd__law_kind ["_law_e"] (sp__law_kind K cl a k d):=
  okE T.F__law_kind sc__law_kind (fun _=>rfl) none (fun y e=>nomatch e) (fun cdv A outer s H E oe hr hz hf=>by
    refine⟨_,pss_cons (ps_set (i:=1) sc__law_kind.nd rfl (by first | exact Or.inl rfl | exact Or.inr rfl) (pe_lst (pa_cons (pe_callB (call_isErrP List.mem_cons_self hz hf) (by rfl) T.z_isinstance bt_isinstance (pa_cons (pv 0) (pa_cons (pe_glob (v:= .ref cl.NoSize) rfl T.e_NoSize.gC rfl) pa_nil))) (pa_cons (pe_callB (call_isErrP List.mem_cons_self hz hf) (by rfl) T.z_isinstance bt_isinstance (pa_cons (pv 0) (pa_cons (pe_glob (v:= .ref cl.NoCell) rfl T.e_NoCell.gC rfl) pa_nil))) (pa_cons (pe_callB (call_isErrP List.mem_cons_self hz hf) (by rfl) T.z_isinstance bt_isinstance (pa_cons (pv 0) (pa_cons (pe_glob (v:= .ref cl.NoCells) rfl T.e_NoCells.gC rfl) pa_nil))) (pa_cons (pe_callB (call_isErrP List.mem_cons_self hz hf) (by rfl) T.z_isinstance bt_isinstance (pa_cons (pv 0) (pa_cons (pe_glob (v:= .ref cl.NoFlip) rfl T.e_NoFlip.gC rfl) pa_nil))) pa_nil))))))
    (pss_cons (ps_if (PW.pt (pw_or (pt_cmpR (kx_neU (K:=K) rfl (roomU hr)) (pe_bmK (K:=K) rfl PySem.F.plainAttrs_list PySem.F.slot_list_count PySem.F.type_list_count mt_cntF (pv 1) (pa_cons (pe_bl) pa_nil)) (pe_int) (nomark _)) (pw_or1 (pt_not (pt_val (pe_callB (call_isErrP List.mem_cons_self hz hf) (by rfl) T.z_isinstance bt_isinstance (pa_cons (pv 0) (pa_cons (pe_bltn (v:= .ty "ValueError") (by rfl) T.z_ValueError bt_ValueError rfl) pa_nil)))))))) (pss_one (ps_ret (pe_str))) pss_nil)
    (pss_one (ps_ret (pe_ix (kx_ix (K:=K) rfl) (pe_lst (pa_cons (pe_str) (pa_cons (pe_str) (pa_cons (pe_str) (pa_cons (pe_str) pa_nil))))) (pe_bmK (K:=K) rfl PySem.F.plainAttrs_list PySem.F.slot_list_index PySem.F.type_list_index mt_index (pv 1) (pa_cons (pe_bl) pa_nil)) (fun _ _=>rfl))))),?_⟩
    exact⟨_,fun x=>(simS_seq (simS_asg simG_name le_none (sim_lstK (r:=kB) (fun y1:Bool×Bool×Bool×Bool×Unit=>([y1.1,y1.2.1,y1.2.2.1,y1.2.2.2.1]:List Bool)) (fun _=>rfl) (fun _=>(by decide:4≤50000)) (simA_cons (sim_callB cb_isE (simA_cons (sim_var (i:=0) (r:=(kErr a k d)) (x:=x.1) rfl) (simA_cons (sim_clsR (C:=cl.NoSize)) simA_nil))) (simA_cons (sim_callB cb_isE (simA_cons (sim_var (i:=0) (r:=(kErr a k d)) (x:=x.1) rfl) (simA_cons (sim_clsR (C:=cl.NoCell)) simA_nil))) (simA_cons (sim_callB cb_isE (simA_cons (sim_var (i:=0) (r:=(kErr a k d)) (x:=x.1) rfl) (simA_cons (sim_clsR (C:=cl.NoCells)) simA_nil))) (simA_cons (sim_callB cb_isE (simA_cons (sim_var (i:=0) (r:=(kErr a k d)) (x:=x.1) rfl) (simA_cons (sim_clsR (C:=cl.NoFlip)) simA_nil))) simA_nil))))) (fun (found_30:List Bool)=>(show SimS _ _ ([some (kErr a k d x.1),some ((kL kB) found_30)]:Gm K) _ _ _ _ from (simS_seq (simS_if le_none (simB_or (simB_test (sim_op os_neI (sim_countB (sim_var (i:=1) (r:=(kL kB)) (x:=found_30) rfl) sim_b) sim_i)) (simB_not (simB_B (sim_callB cb_isE (simA_cons (sim_var (i:=0) (r:=(kErr a k d)) (x:=x.1) rfl) (simA_cons (sim_clsT (T:= "ValueError")) simA_nil)))))) (simS_ret le_none sim_s) (simS_next (simS_ret le_none (sim_op os_ixL (sim_lstK (r:=kS) (fun y43:Str×Str×Str×Str×Unit=>([y43.1,y43.2.1,y43.2.2.1,y43.2.2.2.1]:List Str)) (fun _=>rfl) (fun _=>(by decide:4≤50000)) (simA_cons sim_s (simA_cons sim_s (simA_cons sim_s (simA_cons sim_s simA_nil))))) (sim_indexB (sim_var (i:=1) (r:=(kL kB)) (x:=found_30) rfl) sim_b)))))))))),fun _ _ _ _ h=>h⟩)
def w__law_met (K:PySem.W.Frag) (cl:Cl) {a:Type} (r_a:a→Dm K) (m_:W K a):Unit×Unit→W K (List PyData):=fun x=>outW (bnd (bnd (bnd (bnd (ret ("returned" :Str)) fun v2=>(ret (PyData.str v2))) fun p3=>(bnd (ret ()) fun p4=>(ret (p3,p4)))) fun y1=>(ret ([y1.1]:List PyData))) fun (told_5:List PyData)=>(bnd (wTry (bnd m_ fun _=>(ret (Flow.nx (told_5,())))) (wCatch cl.NoSize (fun e33=>(bnd (bnd (bnd (bnd (bnd (bnd (ret e33) fun p38=>(bnd (ret ()) fun p39=>(ret (p38,p39)))) fun p35=>(wCalm (w__law_kind K cl p35))) fun v40=>(ret (PyData.str v40))) fun p43=>(bnd (bnd (bnd (ret e33) (wXf (C:=cl.NoSize) "value" kPy)) fun p41=>(bnd (ret ()) fun p42=>(ret (p41,p42)))) fun p44=>(ret (p43,p44)))) fun y34=>(ret ([y34.1,y34.2.1]:List PyData))) fun (told_45:List PyData)=>(ret (Flow.nx (told_45,()))))) (wCatch cl.NoCell (fun e20=>(bnd (bnd (bnd (bnd (bnd (bnd (ret e20) fun p25=>(bnd (ret ()) fun p26=>(ret (p25,p26)))) fun p22=>(wCalm (w__law_kind K cl p22))) fun v27=>(ret (PyData.str v27))) fun p30=>(bnd (bnd (bnd (ret e20) (wXf (C:=cl.NoCell) "cell" kPy)) fun p28=>(bnd (ret ()) fun p29=>(ret (p28,p29)))) fun p31=>(ret (p30,p31)))) fun y21=>(ret ([y21.1,y21.2.1]:List PyData))) fun (told_32:List PyData)=>(ret (Flow.nx (told_32,()))))) (wCatch cl.NoCells (fun e7=>(bnd (bnd (bnd (bnd (bnd (bnd (ret e7) fun p12=>(bnd (ret ()) fun p13=>(ret (p12,p13)))) fun p9=>(wCalm (w__law_kind K cl p9))) fun v14=>(ret (PyData.str v14))) fun p17=>(bnd (bnd (bnd (ret e7) (wXf (C:=cl.NoCells) "cells" kPy)) fun p15=>(bnd (ret ()) fun p16=>(ret (p15,p16)))) fun p18=>(ret (p17,p18)))) fun y8=>(ret ([y8.1,y8.2.1]:List PyData))) fun (told_19:List PyData)=>(ret (Flow.nx (told_19,()))))) wRaise)))) (aftT fun (s6:(List PyData)×Unit)=>(bnd (ret s6.1) fun v46=>(ret (Flow.rt v46)))))) none
theorem ok__law_met (T:Tx K mg cl):GivesT P w K mg T.lb 2 T.a__law_met "_law_met" st__law_met N__law_met "_law_call" (ttL (kL kPy) fun α r m=>w__law_met K cl r m ((),())):=
  givesL (fun cdv A outer s H f c' q tl hg hr act=>by
    refine⟨_,pss_cons (ps_set (i:=1) sc__law_met.nd rfl (by first | exact Or.inl rfl | exact Or.inr rfl) (pe_lst (pa_cons (pe_str) pa_nil)))
    (pss_cons (ps_try_clauses rfl rfl sc__law_met.nd (takes_of rfl rfl rfl rfl)
      (fun W pn xe tk _=>pss_one (ps_expr ((act _ _ _ _ _ tk))))
      (.cons (i:=2) rfl rfl ⟨rfl,by decide,Or.inl T.e_NoSize.gC⟩ (fun a oe cls d pn hz hf=>pss_one (ps_set (i:=1) sc__law_met.nd rfl (by first | exact Or.inl rfl | exact Or.inr rfl) (pe_lst (pa_cons (pe_fnS ((ok__law_kind T a cls d).atE List.mem_cons_self hz hf (L2H.roomH_mark (hr.mono (by decide)) _) (b__law_kind T) .nil takes0) rfl T.g__law_kind T.F__law_kind.kp (pa_cons (pv 2) pa_nil)) (pa_cons (pe_xf T.q_NoSize.xf (T.e_NoSize.noF _ (by simp)) hz hf (pv 2)) pa_nil))))) (.cons (i:=2) rfl rfl ⟨rfl,by decide,Or.inl T.e_NoCell.gC⟩ (fun a oe cls d pn hz hf=>pss_one (ps_set (i:=1) sc__law_met.nd rfl (by first | exact Or.inl rfl | exact Or.inr rfl) (pe_lst (pa_cons (pe_fnS ((ok__law_kind T a cls d).atE List.mem_cons_self hz hf (L2H.roomH_mark (hr.mono (by decide)) _) (b__law_kind T) .nil takes0) rfl T.g__law_kind T.F__law_kind.kp (pa_cons (pv 2) pa_nil)) (pa_cons (pe_xf T.q_NoCell.xf (T.e_NoCell.noF _ (by simp)) hz hf (pv 2)) pa_nil))))) (.cons (i:=2) rfl rfl ⟨rfl,by decide,Or.inl T.e_NoCells.gC⟩ (fun a oe cls d pn hz hf=>pss_one (ps_set (i:=1) sc__law_met.nd rfl (by first | exact Or.inl rfl | exact Or.inr rfl) (pe_lst (pa_cons (pe_fnS ((ok__law_kind T a cls d).atE List.mem_cons_self hz hf (L2H.roomH_mark (hr.mono (by decide)) _) (b__law_kind T) .nil takes0) rfl T.g__law_kind T.F__law_kind.kp (pa_cons (pv 2) pa_nil)) (pa_cons (pe_xf T.q_NoCells.xf (T.e_NoCells.noF _ (by simp)) hz hf (pv 2)) pa_nil))))) .nil))))
    (pss_one (ps_ret (pv 1)))),?_⟩
    exact fun Pc st a r_a m_ hl=>⟨_,(simS_seq (simS_asg simG_name le_none (sim_lstK (r:=kPy) (fun y1:PyData×Unit=>([y1.1]:List PyData)) (fun _=>rfl) (fun _=>(by decide:1≤50000)) (simA_cons (sim_co sim_s co_S) simA_nil)) (fun (told_5:List PyData)=>(show SimS _ _ ([some ((kLam f c' q Pc st) ()),some ((kL kPy) told_5),none]:Gm K) _ _ _ _ from (simS_seq (simS_try (Gc:= [some ((kLam f c' q Pc st) ()),none,none]) (G1:=(fun s6:(List PyData)×Unit=>([some ((kLam f c' q Pc st) ()),some ((kL kPy) s6.1),none]:Gm K))) (fun ε'=>(simS_drop (.so (.no (.no .nil))) (sim_tcall (i:=0) hl rfl) (simS_end (s:=((told_5,()):(List PyData)×Unit)) (.so (.so (.no .nil)))))) (SimC.cons (i:=2) (Gs:=(fun s6:(List PyData)×Unit=>([some ((kLam f c' q Pc st) ()),some ((kL kPy) s6.1),none]:Gm K))) (fun a k d e33=>(show SimS _ _ ([some ((kLam f c' q Pc st) ()),none,some (kErr a k d e33)]:Gm K) _ _ _ _ from (simS_asg simG_name le_none (sim_lstK (r:=kPy) (fun y34:PyData×PyData×Unit=>([y34.1,y34.2.1]:List PyData)) (fun _=>rfl) (fun _=>(by decide:2≤50000)) (simA_cons (sim_co (sim_call (cal_calm (cal_lift (w:=w__law_kind K cl))) (simA_cons (sim_var (i:=2) (r:=(kErr a k d)) (x:=e33) rfl) simA_nil)) co_S) (simA_cons (sim_xf (r:=kPy) (sim_var (i:=2) (r:=kErr a k d) (x:=e33) rfl)) simA_nil))) (fun (told_45:List PyData)=>(show SimS _ _ ([some ((kLam f c' q Pc st) ()),some ((kL kPy) told_45),some (kErr a k d e33)]:Gm K) _ _ _ _ from (simS_end (s:=((told_45,()):(List PyData)×Unit)) (.so (.so (.no .nil))))))))) (fun _=>(.so (.so (.no .nil)))) (SimC.cons (i:=2) (Gs:=(fun s6:(List PyData)×Unit=>([some ((kLam f c' q Pc st) ()),some ((kL kPy) s6.1),none]:Gm K))) (fun a k d e20=>(show SimS _ _ ([some ((kLam f c' q Pc st) ()),none,some (kErr a k d e20)]:Gm K) _ _ _ _ from (simS_asg simG_name le_none (sim_lstK (r:=kPy) (fun y21:PyData×PyData×Unit=>([y21.1,y21.2.1]:List PyData)) (fun _=>rfl) (fun _=>(by decide:2≤50000)) (simA_cons (sim_co (sim_call (cal_calm (cal_lift (w:=w__law_kind K cl))) (simA_cons (sim_var (i:=2) (r:=(kErr a k d)) (x:=e20) rfl) simA_nil)) co_S) (simA_cons (sim_xf (r:=kPy) (sim_var (i:=2) (r:=kErr a k d) (x:=e20) rfl)) simA_nil))) (fun (told_32:List PyData)=>(show SimS _ _ ([some ((kLam f c' q Pc st) ()),some ((kL kPy) told_32),some (kErr a k d e20)]:Gm K) _ _ _ _ from (simS_end (s:=((told_32,()):(List PyData)×Unit)) (.so (.so (.no .nil))))))))) (fun _=>(.so (.so (.no .nil)))) (SimC.cons (i:=2) (Gs:=(fun s6:(List PyData)×Unit=>([some ((kLam f c' q Pc st) ()),some ((kL kPy) s6.1),none]:Gm K))) (fun a k d e7=>(show SimS _ _ ([some ((kLam f c' q Pc st) ()),none,some (kErr a k d e7)]:Gm K) _ _ _ _ from (simS_asg simG_name le_none (sim_lstK (r:=kPy) (fun y8:PyData×PyData×Unit=>([y8.1,y8.2.1]:List PyData)) (fun _=>rfl) (fun _=>(by decide:2≤50000)) (simA_cons (sim_co (sim_call (cal_calm (cal_lift (w:=w__law_kind K cl))) (simA_cons (sim_var (i:=2) (r:=(kErr a k d)) (x:=e7) rfl) simA_nil)) co_S) (simA_cons (sim_xf (r:=kPy) (sim_var (i:=2) (r:=kErr a k d) (x:=e7) rfl)) simA_nil))) (fun (told_19:List PyData)=>(show SimS _ _ ([some ((kLam f c' q Pc st) ()),some ((kL kPy) told_19),some (kErr a k d e7)]:Gm K) _ _ _ _ from (simS_end (s:=((told_19,()):(List PyData)×Unit)) (.so (.so (.no .nil))))))))) (fun _=>(.so (.so (.no .nil)))) (.nil le_none)))) (fun (s6:(List PyData)×Unit)=>(show SimS _ _ ([some ((kLam f c' q Pc st) ()),some ((kL kPy) s6.1),none]:Gm K) _ _ _ _ from (simS_ret le_none (sim_var (i:=1) (r:=(kL kPy)) (x:=s6.1) rfl)))))))))),fun _ _ _ h=>h⟩)
def w_require_cell (K:PySem.W.Frag) (cl:Cl):PyData×Int×Int×Unit→W K Unit:=fun x=>outW (bnd (bnd (bnd (bnd (ret x.1) fun p10=>(bnd (bnd (ret x.2.1) fun p8=>(bnd (bnd (bnd (ret x.2.2.1) fun v1=>(bnd (ret (1:Int)) fun v2=>(ret (v1 - v2)))) fun p6=>(bnd (ret ()) fun p7=>(ret (p6,p7)))) fun p9=>(ret (p8,p9)))) fun p11=>(ret (p10,p11)))) fun p3=>(w_is_integer_in K cl p3)) fun v12=>(ret (!v12))) fun v15=>(wIf v15 (bnd (bnd (ret x.1) fun p13=>(bnd (ret ()) fun p14=>(ret (p13,p14)))) fun (y:PyData×Unit)=>(wRaise (cl.NoCell,[("cell",kPy y.1)]))) (ret (Flow.nx ())))) (some ())
abbrev sp_require_cell (K:PySem.W.Frag) (cl:Cl):Sp:=lift K (fun x:PyData×Int×Int×Unit=> [kPy x.1,kI x.2.1,kI x.2.2.1]) kN (w_require_cell K cl)
theorem ok_require_cell (T:Tx K mg cl):FnG P w K mg base 2 T.a_require_cell T.fd_require_cell ["cell","low","size"] (sp_require_cell K cl):=
  okL T.F_require_cell sc_require_cell (fun _=>rfl) (some ()) (fun y e=>by cases e;rfl) (fun cdv A outer s H E hg hr=>by
    refine⟨_,pss_one (ps_if (pt_not (pt_val (pe_fnS ((ok_is_integer_in T).atS hg (hr.mono (by decide)) (b_is_integer_in T) .nil (takes_of rfl rfl rfl rfl)) rfl T.g_is_integer_in T.F_is_integer_in.kp (pa_cons (pv 0) (pa_cons (pv 1) (pa_cons (pe_op op_sub (pv 2) (pe_int)) pa_nil)))))) (pss_one (ps_err (k:=0) rfl T.e_NoCell er_rel1 (hr.mono (by decide)) (takes_of rfl rfl rfl rfl) (pa_cons (pv 0) pa_nil) rfl)) pss_nil),?_⟩
    exact⟨_,fun x=>(simS_if le_none (simB_not (simB_B (sim_call (cal_lift (w:=w_is_integer_in K cl)) (simA_cons (sim_var (i:=0) (r:=kPy) (x:=x.1) rfl) (simA_cons (sim_var (i:=1) (r:=kI) (x:=x.2.1) rfl) (simA_cons (sim_op os_I0 (sim_var (i:=2) (r:=kI) (x:=x.2.2.1) rfl) sim_i) simA_nil)))))) (simS_raise le_none (simA_cons (sim_var (i:=0) (r:=kPy) (x:=x.1) rfl) simA_nil) (fun (y:PyData×Unit)=> [("cell",kPy y.1)]) (by rintro y Z H vs ⟨v,_,rfl,h,rfl⟩;exact⟨v,[],rfl,rfl,v,[],rfl,h,rfl⟩)) (simS_next (simS_end (.no (.no (.no .nil)))))),fun _ _ _ _ h=>h⟩)
def w_Board__is_up (K:PySem.W.Frag) (cl:Cl):(Nat×Nat)×PyData×Unit→W K Bool:=fun x=>outW (bnd (bnd (bnd (ret x.2.1) fun p8=>(bnd (bnd (ret (0:Int)) fun p6=>(bnd (bnd (bnd (ret x.1) fun x=>ret (x.1:Int)) fun p4=>(bnd (ret ()) fun p5=>(ret (p4,p5)))) fun p7=>(ret (p6,p7)))) fun p9=>(ret (p8,p9)))) fun p1=>(w_require_cell K cl p1)) fun _=>(bnd (bnd (bnd (bnd (bnd (ret x.1) fun x=>ret (x.2:Int)) fun v11=>(bnd (bnd (ret x.2.1) (wAs PyData.int)) fun v12=>(wAss (0≤v12) (ret (v11 / 2 ^ (v12).toNat))))) fun v13=>(bnd (ret (1:Int)) fun v14=>(ret (Builtin.bitAnd v13 v14)))) fun v15=>(bnd (ret (1:Int)) fun v16=>(ret (decide (v15=v16))))) fun v17=>(ret (Flow.rt v17)))) none
abbrev sp_Board__is_up (K:PySem.W.Frag) (cl:Cl):Sp:=lift K (fun x:(Nat×Nat)×PyData×Unit=> [(k_Board K cl) x.1,kPy x.2.1]) kB (w_Board__is_up K cl)
theorem ok_Board__is_up (T:Tx K mg cl):FnG P w K mg base 3 T.a_Board__is_up T.fd_Board__is_up ["self","cell"] (sp_Board__is_up K cl):=
  okL T.F_Board__is_up sc_Board__is_up (fun _=>rfl) none (fun y e=>nomatch e) (fun cdv A outer s H E hg hr=>by
    refine⟨_,pss_cons (ps_expr (pe_fnS ((ok_require_cell T).atS hg (hr.mono (by decide)) (b_require_cell T) .nil (takes_of rfl rfl rfl rfl)) rfl T.g_require_cell T.F_require_cell.kp (pa_cons (pv 1) (pa_cons (pe_int) (pa_cons (pe_fldK (K:=K) rfl (pv 0)) pa_nil)))))
    (pss_one (ps_ret (pe_cmpR (kx_eq (K:=K) rfl hr) (pe_op op_and (pe_op op_shr (pe_fldK (K:=K) rfl (pv 0)) (pv 1)) (pe_int)) (pe_int) (nomark _)))),?_⟩
    exact⟨_,fun x=>(simS_seq (simS_drop le_none (sim_call (cal_lift (w:=w_require_cell K cl)) (simA_cons (sim_var (i:=1) (r:=kPy) (x:=x.2.1) rfl) (simA_cons sim_i (simA_cons (sim_fld (fs:=fs_Board K cl) (s:=kI) (fun x=>(x.1:Int)) (fun _=>rfl) (fun _=>fl_Board_own_size) T.cls_Board T.no_Board_own_size (sim_var (i:=0) (r:=(k_Board K cl)) (x:=x.1) rfl)) simA_nil)))) (simS_ret le_none (sim_op os_eqI (sim_op os_I0 (sim_op os_I (sim_fld (fs:=fs_Board K cl) (s:=kI) (fun x=>(x.2:Int)) (fun _=>rfl) (fun _=>fl_Board_up_mask) T.cls_Board T.no_Board_up_mask (sim_var (i:=0) (r:=(k_Board K cl)) (x:=x.1) rfl)) (sim_as oc_I (sim_var (i:=1) (r:=kPy) (x:=x.2.1) rfl))) sim_i) sim_i)))),fun _ _ _ _ h=>h⟩)
def w__law_are_spots (K:PySem.W.Frag) (cl:Cl):PyData×Int×PyData×Unit→W K Bool:=fun x=>outW (bnd (bnd (bnd (bnd (bnd (ret x.1) fun p14=>(bnd (bnd (bnd (bnd (ret "list") fun p9=>(bnd (bnd (ret "tuple") fun p7=>(bnd (ret ()) fun p8=>(ret (p7,p8)))) fun p10=>(ret (p9,p10)))) fun y6=>(ret (y6.1,y6.2.1))) fun p12=>(bnd (ret ()) fun p13=>(ret (p12,p13)))) fun p15=>(ret (p14,p15)))) fun y11=>(wAss (y11.2.1=("list","tuple")) (ret (isD y11.1 "list" || isD y11.1 "tuple")))) fun v16=>(ret (!v16))) fun v36=>(wIf v36 (ret true) (bnd (bnd (bnd (bnd (wSeq x.1 fun xs=>ret (xs,nI)) fun y19=>(wAss (y19.1.length≤50000) (wCalm (fmapW y19.2 (fun (x18:PyData)=>(ret true)) (fun (x18:PyData)=>(bnd (bnd (ret x18) fun p30=>(bnd (bnd (ret x.2.1) fun p28=>(bnd (bnd (bnd (bnd (ret x.2.2.1) (wAs PyData.int)) fun v21=>(bnd (ret (1:Int)) fun v22=>(ret (v21 - v22)))) fun p26=>(bnd (ret ()) fun p27=>(ret (p26,p27)))) fun p29=>(ret (p28,p29)))) fun p31=>(ret (p30,p31)))) fun p23=>(w__law_is_int K cl p23))) y19.1)))) fun p33=>(bnd (ret ()) fun p34=>(ret (p33,p34)))) fun y32=>(ret (y32.1.all id))) fun v35=>(ret (!v35))))) fun v53=>(wIf v53 (bnd (ret false) fun v37=>(ret (Flow.rt v37))) (bnd (bnd (bnd (bnd (bnd (bnd (ret x.1) fun p39=>(bnd (ret ()) fun p40=>(ret (p39,p40)))) fun y38=>(wSeq y38.1 fun ds=>ret (enumI ds,nI))) fun y42=>(wAss (y42.1.length≤50000) (wCalm (fmapW y42.2 (fun (x41:(Int×PyData))=>(ret true)) (fun (x41:(Int×PyData))=>(bnd (ret x41.2) fun v47=>(bnd (bnd (ret x.1) fun v43=>(bnd (ret none) fun v45=>(bnd (bnd (ret x41.1) fun v44=>(ret (some v44))) fun v46=>(wSlP v43 v45 v46)))) fun v48=>(wInP true v47 v48)))) y42.1)))) fun p50=>(bnd (ret ()) fun p51=>(ret (p50,p51)))) fun y49=>(ret (y49.1.all id))) fun v52=>(ret (Flow.rt v52))))) none
abbrev sp__law_are_spots (K:PySem.W.Frag) (cl:Cl):Sp:=lift K (fun x:PyData×Int×PyData×Unit=> [kPy x.1,kI x.2.1,kPy x.2.2.1]) kB (w__law_are_spots K cl)
theorem ok__law_are_spots (T:Tx K mg cl):FnG P w K mg base 2 T.a__law_are_spots T.fd__law_are_spots ["_law_given","_law_least","_law_width_here"] (sp__law_are_spots K cl):=
  okL T.F__law_are_spots sc__law_are_spots (fun _=>rfl) none (fun y e=>nomatch e) (fun cdv A outer s H E hg hr=>by
    refine⟨_,pss_cons (ps_if (PW.pt (pw_or (pt_not (pt_val (pe_callB (kx_isiT (K:=K) rfl) (by rfl) T.z_isinstance bt_isinstance (pa_cons (pv 0) (pa_cons (pe_tup (pa_cons (pe_bltn (v:= .ty "list") (by rfl) T.z_list bt_list rfl) (pa_cons (pe_bltn (v:= .ty "tuple") (by rfl) T.z_tuple bt_tuple rfl) pa_nil))) pa_nil))))) (pw_or1 (pt_not (pt_val (pe_callB (kx_all (K:=K) rfl rfl) (by rfl) T.z_all bt_all (pa_cons (pe_lc (own:= [("_law_one",3)]) (g:=gName 3) (tt:=tYes)  rfl sc__law_are_spots.nd (pi_seq (K:=K) rfl (pv 0)) (blkOk_by (own:= [("_law_one",3)]) (N:=N__law_are_spots) (sc:=defScope st__law_are_spots) (by decide +kernel)) (fun _ _ _ _ _=>pg_name (i:=3) sc__law_are_spots.nd rfl (by first | exact Or.inl rfl | exact Or.inr rfl)) (fun _ _ _ _ _=>pts_nil) (fun _ _ _ _ _=>pe_fnS ((ok__law_is_int T).atS hg (hr.mono (by decide)) (b__law_is_int T) .nil takes0) rfl T.g__law_is_int T.F__law_is_int.kp (pa_cons (pv 3) (pa_cons (pv 1) (pa_cons (pe_op op_sub (pv 2) (pe_int)) pa_nil))))) pa_nil))))))) (pss_one (ps_ret (pe_bl))) pss_nil)
    (pss_one (ps_ret (pe_callB (kx_all (K:=K) rfl rfl) (by rfl) T.z_all bt_all (pa_cons (pe_lc (own:= [("_law_at",4),("_law_one",3)]) (g:=gTup K 2 (gCons (gName 4) (gCons (gName 3) (gNil)))) (tt:=tYes)  rfl sc__law_are_spots.nd (pi_enumA (K:=K) rfl (by rfl) T.z_enumerate (pa_cons (pv 0) pa_nil)) (blkOk_by (own:= [("_law_at",4),("_law_one",3)]) (N:=N__law_are_spots) (sc:=defScope st__law_are_spots) (by decide +kernel)) (fun _ _ _ _ _=>pg_tupK (K:=K) rfl rfl (pgs_cons (pg_name (i:=4) sc__law_are_spots.nd rfl (by first | exact Or.inl rfl | exact Or.inr rfl)) (pgs_cons (pg_name (i:=3) sc__law_are_spots.nd rfl (by first | exact Or.inl rfl | exact Or.inr rfl)) pgs_nil))) (fun _ _ _ _ _=>pts_nil) (fun _ _ _ _ _=>pe_cmpR (kx_notInD (K:=K) rfl hr) (pv 3) (pe_slice (kx_sl (K:=K) rfl) (pv 0) po_none (po_some (pv 4))) rfl)) pa_nil)))),?_⟩
    exact⟨_,fun x=>(simS_seq (simS_if le_none (simB_or (simB_not (simB_B (sim_callB cb_isiT2 (simA_cons (sim_var (i:=0) (r:=kPy) (x:=x.1) rfl) (simA_cons (sim_pair (simA_cons (sim_ty (T:= "list")) (simA_cons (sim_ty (T:= "tuple")) simA_nil))) simA_nil))))) (simB_not (simB_B (sim_callB cb_all (simA_cons (sim_lc (simI_py (i:=0) (d:=x.1) rfl) simG_name (fun _ _ hy=>hy) (fun (x18:PyData)=>simB_yes) (fun (x18:PyData)=>(sim_call (cal_lift (w:=w__law_is_int K cl)) (simA_cons (sim_var (i:=3) (r:=kPy) (x:=x18) rfl) (simA_cons (sim_var (i:=1) (r:=kI) (x:=x.2.1) rfl) (simA_cons (sim_op os_I0 (sim_as oc_I (sim_var (i:=2) (r:=kPy) (x:=x.2.2.1) rfl)) sim_i) simA_nil)))))) simA_nil))))) (simS_ret le_none sim_b) (simS_next (simS_ret le_none (sim_callB cb_all (simA_cons (sim_lc (simI_enumPy (simA_cons (sim_var (i:=0) (r:=kPy) (x:=x.1) rfl) simA_nil)) (simG_pair simG_name simG_name) (fun _ _ hy=>hy) (fun (x41:(Int×PyData))=>simB_yes) (fun (x41:(Int×PyData))=>(sim_op os_niPY (sim_var (i:=3) (r:=kPy) (x:=x41.2) rfl) (sim_sl ss_PY (sim_var (i:=0) (r:=kPy) (x:=x.1) rfl) simO_no (simO_some (sim_var (i:=4) (r:=kI) (x:=x41.1) rfl)))))) simA_nil)))))),fun _ _ _ _ h=>h⟩)
def w_is_odd (K:PySem.W.Frag) (cl:Cl):Int×Unit→W K Bool:=fun x=>outW (bnd (bnd (ret x.1) fun p15=>(bnd (bnd (ret false) fun p13=>(bnd (ret ()) fun p14=>(ret (p13,p14)))) fun p16=>(ret (p15,p16)))) fun (y1:Int×Bool×Unit)=>(bnd (whileW (fun (s2:Int×Bool×Unit)=>(bnd (ret s2.1) fun v4=>(bnd (ret (0:Int)) fun v5=>(ret (decide (v5<v4)))))) (fun (s2:Int×Bool×Unit)=>(bnd (bnd (ret s2.1) fun v8=>(bnd (bnd (ret s2.1) fun v6=>(bnd (ret (1:Int)) fun v7=>(ret (v6 - v7)))) fun v9=>(ret (Builtin.bitAnd v8 v9)))) fun (rest_10:Int)=>(bnd (bnd (ret s2.2.1) fun v11=>(ret (!v11))) fun (found_12:Bool)=>(ret (Flow.nx (rest_10,found_12,())))))) (y1.1,y1.2.1,())) (aft fun (s2:Int×Bool×Unit)=>(bnd (ret s2.2.1) fun v3=>(ret (Flow.rt v3)))))) none
abbrev sp_is_odd (K:PySem.W.Frag) (cl:Cl):Sp:=lift K (fun x:Int×Unit=> [kI x.1]) kB (w_is_odd K cl)
theorem ok_is_odd (T:Tx K mg cl):FnG P w K mg base 1 T.a_is_odd T.fd_is_odd ["mask"] (sp_is_odd K cl):=
  okL T.F_is_odd sc_is_odd (fun _=>rfl) none (fun y e=>nomatch e) (fun cdv A outer s H E hg hr=>by
    refine⟨_,pss_cons (ps_par (i:=1) (j:=2) (by rfl) sc_is_odd.nd rfl rfl (by decide) rfl rfl (pa_cons (pv 0) (pa_cons (pe_bl) pa_nil)) (by rfl))
    (pss_cons (ps_while (passes_of rfl) (pt_cmpR op_gt (pv 1) (pe_int) (nomark _))
      (pss_cons (ps_set (i:=1) sc_is_odd.nd rfl (by first | exact Or.inl rfl | exact Or.inr rfl) (pe_op op_and (pv 1) (pe_op op_sub (pv 1) (pe_int))))
    (pss_one (ps_set (i:=2) sc_is_odd.nd rfl (by first | exact Or.inl rfl | exact Or.inr rfl) (pe_not (pv 2))))))
    (pss_one (ps_ret (pv 2)))),?_⟩
    exact⟨_,fun x=>(simS_seq (simS_par (r:=kI) (s:=kB) le_none (simA_cons (sim_var (i:=0) (r:=kI) (x:=x.1) rfl) (simA_cons sim_b simA_nil)) (fun (y1:Int×Bool×Unit)=>(show SimS _ _ ([some (kI x.1),some (kI y1.1),some (kB y1.2.1)]:Gm K) _ _ _ _ from (simS_seq (simS_while (Gl:=(fun s2:Int×Bool×Unit=>([some (kI x.1),some (kI s2.1),some (kB s2.2.1)]:Gm K))) (s0:=(y1.1,y1.2.1,())) (fun _=>le_none) (.so (.so (.so .nil))) (fun (s2:Int×Bool×Unit)=>(simB_test (sim_op os_B0 (sim_var (i:=1) (r:=kI) (x:=s2.1) rfl) sim_i))) (fun (s2:Int×Bool×Unit)=>(show SimS _ _ ([some (kI x.1),some (kI s2.1),some (kB s2.2.1)]:Gm K) _ _ _ _ from (simS_seq (simS_asg simG_name le_none (sim_op os_I0 (sim_var (i:=1) (r:=kI) (x:=s2.1) rfl) (sim_op os_I0 (sim_var (i:=1) (r:=kI) (x:=s2.1) rfl) sim_i)) (fun (rest_10:Int)=>(show SimS _ _ ([some (kI x.1),some (kI rest_10),some (kB s2.2.1)]:Gm K) _ _ _ _ from (simS_asg simG_name le_none (sim_notV (sim_var (i:=2) (r:=kB) (x:=s2.2.1) rfl)) (fun (found_12:Bool)=>(show SimS _ _ ([some (kI x.1),some (kI rest_10),some (kB found_12)]:Gm K) _ _ _ _ from (simS_end (s:=((rest_10,found_12,()):Int×Bool×Unit)) (.so (.so (.so .nil))))))))))))) (fun (s2:Int×Bool×Unit)=>(show SimS _ _ ([some (kI x.1),some (kI s2.1),some (kB s2.2.1)]:Gm K) _ _ _ _ from (simS_ret le_none (sim_var (i:=2) (r:=kB) (x:=s2.2.1) rfl)))))))))),fun _ _ _ _ h=>h⟩)
def w_Board__parity (K:PySem.W.Frag) (cl:Cl):(Nat×Nat)×PyData×Unit→W K Int:=fun x=>outW (bnd (bnd (bnd (bnd (bnd (bnd (bnd (bnd (ret x.2.1) fun p6=>(bnd (bnd (bnd (ret x.1) fun x=>ret (x.1:Int)) fun p4=>(bnd (ret ()) fun p5=>(ret (p4,p5)))) fun p7=>(ret (p6,p7)))) fun p1=>(w_cell_mask K cl p1)) fun v8=>(bnd (bnd (ret x.1) fun x=>ret (x.2:Int)) fun v9=>(ret (Builtin.bitAnd v8 v9)))) fun p13=>(bnd (ret ()) fun p14=>(ret (p13,p14)))) fun p10=>(w_is_odd K cl p10)) fun p16=>(bnd (ret ()) fun p17=>(ret (p16,p17)))) fun y15=>(ret (if y15.1 then (1:Int) else 0))) fun v18=>(ret (Flow.rt v18))) none
abbrev sp_Board__parity (K:PySem.W.Frag) (cl:Cl):Sp:=lift K (fun x:(Nat×Nat)×PyData×Unit=> [(k_Board K cl) x.1,kPy x.2.1]) kI (w_Board__parity K cl)
theorem ok_Board__parity (T:Tx K mg cl):FnG P w K mg base 5 T.a_Board__parity T.fd_Board__parity ["self","cells"] (sp_Board__parity K cl):=
  okL T.F_Board__parity sc_Board__parity (fun _=>rfl) none (fun y e=>nomatch e) (fun cdv A outer s H E hg hr=>by
    refine⟨_,pss_one (ps_ret (pe_callTy call_int1 (by rfl) T.z_int bt_int (pa_cons (pe_fnS ((ok_is_odd T).atS hg (hr.mono (by decide)) (b_is_odd T) .nil (takes_of rfl rfl rfl rfl)) rfl T.g_is_odd T.F_is_odd.kp (pa_cons (pe_op op_and (pe_fnS ((ok_cell_mask T).atS hg (hr.mono (by decide)) (b_cell_mask T) .nil (takes_of rfl rfl rfl rfl)) rfl T.g_cell_mask T.F_cell_mask.kp (pa_cons (pv 1) (pa_cons (pe_fldK (K:=K) rfl (pv 0)) pa_nil))) (pe_fldK (K:=K) rfl (pv 0))) pa_nil)) pa_nil))),?_⟩
    exact⟨_,fun x=>(simS_ret le_none (sim_callB cb_intB (simA_cons (sim_call (cal_lift (w:=w_is_odd K cl)) (simA_cons (sim_op os_I0 (sim_call (cal_lift (w:=w_cell_mask K cl)) (simA_cons (sim_var (i:=1) (r:=kPy) (x:=x.2.1) rfl) (simA_cons (sim_fld (fs:=fs_Board K cl) (s:=kI) (fun x=>(x.1:Int)) (fun _=>rfl) (fun _=>fl_Board_own_size) T.cls_Board T.no_Board_own_size (sim_var (i:=0) (r:=(k_Board K cl)) (x:=x.1) rfl)) simA_nil))) (sim_fld (fs:=fs_Board K cl) (s:=kI) (fun x=>(x.2:Int)) (fun _=>rfl) (fun _=>fl_Board_up_mask) T.cls_Board T.no_Board_up_mask (sim_var (i:=0) (r:=(k_Board K cl)) (x:=x.1) rfl))) simA_nil)) simA_nil))),fun _ _ _ _ h=>h⟩)
def w_cells_in (K:PySem.W.Frag) (cl:Cl):Int×Unit→W K (List Int):=fun x=>outW (bnd (bnd (bnd (bnd (bnd (bnd (bnd (ret x.1) fun v2=>(ret ((Builtin.Int.intBits v2:Nat):Int))) fun p4=>(bnd (ret ()) fun p5=>(ret (p4,p5)))) fun y1=>(wAss (-(2 ^ 62)≤y1.1∧y1.1<2 ^ 62) (ret (rng 0 y1.1,nI)))) fun y7=>(wAss (y7.1.length≤50000) (wCalm (fmapW y7.2 (fun (x6:Int)=>(bnd (bnd (bnd (ret x.1) fun v8=>(bnd (ret x6) fun v9=>(wAss (0≤v9) (ret (v8 / 2 ^ (v9).toNat))))) fun v10=>(bnd (ret (1:Int)) fun v11=>(ret (Builtin.bitAnd v10 v11)))) fun v12=>(bnd (ret (1:Int)) fun v13=>(ret (decide (v12=v13)))))) (fun (x6:Int)=>(ret x6)) y7.1)))) fun p15=>(bnd (ret ()) fun p16=>(ret (p15,p16)))) fun y14=>(ret y14.1)) fun v17=>(ret (Flow.rt v17))) none
abbrev sp_cells_in (K:PySem.W.Frag) (cl:Cl):Sp:=lift K (fun x:Int×Unit=> [kI x.1]) (kX kI) (w_cells_in K cl)
theorem ok_cells_in (T:Tx K mg cl):FnG P w K mg base 1 T.a_cells_in T.fd_cells_in ["mask"] (sp_cells_in K cl):=
  okL T.F_cells_in sc_cells_in (fun _=>rfl) none (fun y e=>nomatch e) (fun cdv A outer s H E hg hr=>by
    refine⟨_,pss_one (ps_ret (pe_callTy (kx_tuple (K:=K) rfl) (by rfl) T.z_tuple bt_tuple (pa_cons (pe_lc (own:= [("cell",1)]) (g:=gName 1)  rfl sc_cells_in.nd (pi_range1 rfl T.z_range (pa_cons (pe_bits (pv 0)) pa_nil)) (blkOk_by (own:= [("cell",1)]) (N:=N_cells_in) (sc:=defScope st_cells_in) (by decide +kernel)) (fun _ _ _ _ _=>pg_name (i:=1) sc_cells_in.nd rfl (by first | exact Or.inl rfl | exact Or.inr rfl)) (fun _ _ _ _ _=>pts_one (pt_cmpR (kx_eq (K:=K) rfl hr) (pe_op op_and (pe_op op_shr (pv 0) (pv 1)) (pe_int)) (pe_int) (nomark _))) (fun _ _ _ _ _=>pv 1)) pa_nil))),?_⟩
    exact⟨_,fun x=>(simS_ret le_none (sim_callB cb_tupleLX (simA_cons (sim_lc (simI_r1 (simA_cons (sim_bits (sim_var (i:=0) (r:=kI) (x:=x.1) rfl)) simA_nil)) simG_name (fun _ _ hy=>hy) (fun (x6:Int)=>(simB_test (sim_op os_eqI (sim_op os_I0 (sim_op os_I (sim_var (i:=0) (r:=kI) (x:=x.1) rfl) (sim_var (i:=1) (r:=kI) (x:=x6) rfl)) sim_i) sim_i))) (fun (x6:Int)=>(sim_var (i:=1) (r:=kI) (x:=x6) rfl))) simA_nil))),fun _ _ _ _ h=>h⟩)
def w_board_of (K:PySem.W.Frag) (cl:Cl):Int×Int×Unit→W K (Nat×Nat):=fun x=>outW (bnd (bnd (bnd (bnd (bnd (ret x.1) fun v1=>(ret (PyData.int v1))) fun p12=>(bnd (ret ()) fun p13=>(ret (p12,p13)))) fun p9=>(bnd (bnd (bnd (bnd (bnd (bnd (ret x.2.1) fun p5=>(bnd (ret ()) fun p6=>(ret (p5,p6)))) fun p2=>(w_cells_in K cl p2)) fun v7=>(ret v7)) fun v8=>(ret ((fun xs=>PyData.tuple (xs.map PyData.int)) v8))) fun p14=>(bnd (ret ()) fun p15=>(ret (p14,p15)))) fun p10=>(wMk cl.Board (w_Board____init__ K cl) ((fun (x:PyData×Unit) (y:PyData×Unit)=>(x.1,y.1,())) p9 p10)))) (wFrz cl.Board (fs_Board K cl))) fun v16=>(ret (Flow.rt v16))) none
abbrev sp_board_of (K:PySem.W.Frag) (cl:Cl):Sp:=lift K (fun x:Int×Int×Unit=> [kI x.1,kI x.2.1]) (k_Board K cl) (w_board_of K cl)
theorem ok_board_of (T:Tx K mg cl):FnG P w K mg base 7 T.a_board_of T.fd_board_of ["size","mask"] (sp_board_of K cl):=
  okL T.F_board_of sc_board_of (fun _=>rfl) none (fun y e=>nomatch e) (fun cdv A outer s H E hg hr=>by
    refine⟨_,pss_one (ps_ret (pe_fnKS ((ok_Board____init__ T).makeK T.mk_Board hg (hr.mono (by decide)) (kb_Board____init____2_up T) (takes_of rfl rfl rfl rfl)) rfl T.gc_Board T.mk_Board.kp (pa_cons (pv 0) pa_nil) (pk_cons (pe_fnS ((ok_cells_in T).atS hg (hr.mono (by decide)) (b_cells_in T) .nil (takes_of rfl rfl rfl rfl)) rfl T.g_cells_in T.F_cells_in.kp (pa_cons (pv 1) pa_nil)) pk_nil))),?_⟩
    exact⟨_,fun x=>(simS_ret le_none (sim_frz (fs:=fs_Board K cl) (r:=(k_Board K cl)) (fun _=>rfl) (sim_callK (cal_mkK (δ':=fun x:PyData×PyData×Unit=> [kPy x.1,kPy x.2.1]) (w:=w_Board____init__ K cl) (fun (x:PyData×Unit) (y:PyData×Unit)=>(x.1,y.1,())) (by rintro Z H x y vs zs v ⟨_,_,rfl,a0,rfl⟩ ⟨_,_,rfl,a1,rfl⟩;exact⟨_,rfl,_,_,rfl,a0,_,_,rfl,a1,rfl⟩)) (simA_cons (sim_co (sim_var (i:=0) (r:=kI) (x:=x.1) rfl) co_I) simA_nil) (simA_cons (sim_co (sim_co (sim_call (cal_lift (w:=w_cells_in K cl)) (simA_cons (sim_var (i:=1) (r:=kI) (x:=x.2.1) rfl) simA_nil)) co_XT) (co_TP co_I)) simA_nil)))),fun _ _ _ _ h=>h⟩)
def w_Board__toggled (K:PySem.W.Frag) (cl:Cl):(Nat×Nat)×PyData×Unit→W K (Nat×Nat):=fun x=>outW (bnd (bnd (bnd (ret x.2.1) fun p6=>(bnd (bnd (bnd (ret x.1) fun x=>ret (x.1:Int)) fun p4=>(bnd (ret ()) fun p5=>(ret (p4,p5)))) fun p7=>(ret (p6,p7)))) fun p1=>(w_cell_mask K cl p1)) fun (changed_8:Int)=>(bnd (bnd (bnd (ret changed_8) fun v9=>(bnd (ret (1:Int)) fun v10=>(ret (Builtin.bitAnd v9 v10)))) fun v11=>(bnd (ret (1:Int)) fun v12=>(ret (decide (v11=v12))))) fun v25=>(wIf v25 (bnd (bnd (ret x.2.1) fun p13=>(bnd (ret ()) fun p14=>(ret (p13,p14)))) fun (y:PyData×Unit)=>(wRaise (cl.NoCells,[("cells",kPy y.1)]))) (bnd (bnd (bnd (bnd (ret x.1) fun x=>ret (x.1:Int)) fun p22=>(bnd (bnd (bnd (bnd (ret x.1) fun x=>ret (x.2:Int)) fun v15=>(bnd (ret changed_8) fun v16=>(ret (Builtin.bitXor v15 v16)))) fun p20=>(bnd (ret ()) fun p21=>(ret (p20,p21)))) fun p23=>(ret (p22,p23)))) fun p17=>(w_board_of K cl p17)) fun v24=>(ret (Flow.rt v24)))))) none
abbrev sp_Board__toggled (K:PySem.W.Frag) (cl:Cl):Sp:=lift K (fun x:(Nat×Nat)×PyData×Unit=> [(k_Board K cl) x.1,kPy x.2.1]) (k_Board K cl) (w_Board__toggled K cl)
theorem ok_Board__toggled (T:Tx K mg cl):FnG P w K mg base 8 T.a_Board__toggled T.fd_Board__toggled ["self","cells"] (sp_Board__toggled K cl):=
  okL T.F_Board__toggled sc_Board__toggled (fun _=>rfl) none (fun y e=>nomatch e) (fun cdv A outer s H E hg hr=>by
    refine⟨_,pss_cons (ps_set (i:=2) sc_Board__toggled.nd rfl (by first | exact Or.inl rfl | exact Or.inr rfl) (pe_fnS ((ok_cell_mask T).atS hg (hr.mono (by decide)) (b_cell_mask T) .nil (takes_of rfl rfl rfl rfl)) rfl T.g_cell_mask T.F_cell_mask.kp (pa_cons (pv 1) (pa_cons (pe_fldK (K:=K) rfl (pv 0)) pa_nil))))
    (pss_cons (ps_if (pt_cmpR (kx_eq (K:=K) rfl hr) (pe_op op_and (pv 2) (pe_int)) (pe_int) (nomark _)) (pss_one (ps_err (k:=0) rfl T.e_NoCells er_rel1 (hr.mono (by decide)) (takes_of rfl rfl rfl rfl) (pa_cons (pv 1) pa_nil) rfl)) pss_nil)
    (pss_one (ps_ret (pe_fnS ((ok_board_of T).atS hg (hr.mono (by decide)) (b_board_of T) .nil (takes_of rfl rfl rfl rfl)) rfl T.g_board_of T.F_board_of.kp (pa_cons (pe_fldK (K:=K) rfl (pv 0)) (pa_cons (pe_op op_xor (pe_fldK (K:=K) rfl (pv 0)) (pv 2)) pa_nil)))))),?_⟩
    exact⟨_,fun x=>(simS_seq (simS_asg simG_name le_none (sim_call (cal_lift (w:=w_cell_mask K cl)) (simA_cons (sim_var (i:=1) (r:=kPy) (x:=x.2.1) rfl) (simA_cons (sim_fld (fs:=fs_Board K cl) (s:=kI) (fun x=>(x.1:Int)) (fun _=>rfl) (fun _=>fl_Board_own_size) T.cls_Board T.no_Board_own_size (sim_var (i:=0) (r:=(k_Board K cl)) (x:=x.1) rfl)) simA_nil))) (fun (changed_8:Int)=>(show SimS _ _ ([some ((k_Board K cl) x.1),some (kPy x.2.1),some (kI changed_8)]:Gm K) _ _ _ _ from (simS_seq (simS_if le_none (simB_test (sim_op os_eqI (sim_op os_I0 (sim_var (i:=2) (r:=kI) (x:=changed_8) rfl) sim_i) sim_i)) (simS_raise le_none (simA_cons (sim_var (i:=1) (r:=kPy) (x:=x.2.1) rfl) simA_nil) (fun (y:PyData×Unit)=> [("cells",kPy y.1)]) (by rintro y Z H vs ⟨v,_,rfl,h,rfl⟩;exact⟨v,[],rfl,rfl,v,[],rfl,h,rfl⟩)) (simS_next (simS_ret le_none (sim_call (cal_lift (w:=w_board_of K cl)) (simA_cons (sim_fld (fs:=fs_Board K cl) (s:=kI) (fun x=>(x.1:Int)) (fun _=>rfl) (fun _=>fl_Board_own_size) T.cls_Board T.no_Board_own_size (sim_var (i:=0) (r:=(k_Board K cl)) (x:=x.1) rfl)) (simA_cons (sim_op os_I0 (sim_fld (fs:=fs_Board K cl) (s:=kI) (fun x=>(x.2:Int)) (fun _=>rfl) (fun _=>fl_Board_up_mask) T.cls_Board T.no_Board_up_mask (sim_var (i:=0) (r:=(k_Board K cl)) (x:=x.1) rfl)) (sim_var (i:=2) (r:=kI) (x:=changed_8) rfl)) simA_nil))))))))))),fun _ _ _ _ h=>h⟩)
def w__law_asked_right (K:PySem.W.Frag) (cl:Cl):Addr×(Nat×Nat)×Int×Unit→W K Bool:=fun x=>outW (bnd (bnd (bnd (bnd (bnd (bnd (bnd (bnd (ret x.1) fun p5=>(bnd (ret ()) fun p6=>(ret (p5,p6)))) fun p2=>(w__law_any_thing K cl p2)) fun p15=>(bnd (bnd (bnd (ret x.2.2.1) fun v9=>(ret (PyData.int v9))) fun p13=>(bnd (bnd (bnd (bnd (ret x.2.2.1) fun v7=>(bnd (ret (1:Int)) fun v8=>(ret (v7 - v8)))) fun v10=>(ret (PyData.int v10))) fun p11=>(bnd (ret ()) fun p12=>(ret (p11,p12)))) fun p14=>(ret (p13,p14)))) fun p16=>(ret (p15,p16)))) fun y1=>(ret ([y1.1,y1.2.1,y1.2.2.1]:List PyData))) fun v25=>(bnd (bnd (bnd (ret x.1) fun p23=>(bnd (bnd (ret (3:Int)) fun p21=>(bnd (ret ()) fun p22=>(ret (p21,p22)))) fun p24=>(ret (p23,p24)))) fun p18=>(w__law_draw K cl p18)) fun v26=>(wIx v25 v26))) fun p37=>(bnd (bnd (bnd (bnd (ret x.1) fun p32=>(bnd (bnd (ret x.2.2.1) fun p30=>(bnd (ret ()) fun p31=>(ret (p30,p31)))) fun p33=>(ret (p32,p33)))) fun p27=>(w__law_odd_spots K cl p27)) fun p35=>(bnd (ret ()) fun p36=>(ret (p35,p36)))) fun p38=>(ret (p37,p38)))) fun y34=>(ret (y34.1,y34.2.1))) fun (y39:(PyData×PyData))=>(bnd (bnd (bnd (bnd (ret y39.1) fun p49=>(bnd (bnd (ret (0:Int)) fun p47=>(bnd (bnd (bnd (ret x.2.2.1) fun v40=>(bnd (ret (1:Int)) fun v41=>(ret (v40 - v41)))) fun p45=>(bnd (ret ()) fun p46=>(ret (p45,p46)))) fun p48=>(ret (p47,p48)))) fun p50=>(ret (p49,p50)))) fun p42=>(w__law_is_int K cl p42)) fun v61=>(wIf v61 (bnd (bnd (bnd (ret ("returned" :Str)) fun v52=>(ret (PyData.str v52))) fun p53=>(bnd (ret ()) fun p54=>(ret (p53,p54)))) fun y51=>(ret ([y51.1]:List PyData))) (bnd (bnd (bnd (ret ("cell" :Str)) fun v56=>(ret (PyData.str v56))) fun p59=>(bnd (bnd (ret y39.1) fun p57=>(bnd (ret ()) fun p58=>(ret (p57,p58)))) fun p60=>(ret (p59,p60)))) fun y55=>(ret ([y55.1,y55.2.1]:List PyData))))) fun (due_62:List PyData)=>(bnd (bnd (bnd (bnd (bnd (wLam cl.tb__law_asked_right q__law_asked_right (w__law_met K cl kB (bnd (ret x.2.1) fun p65=>(wRcv (fun _=>True) (bnd (bnd (ret y39.1) fun p66=>(bnd (ret ()) fun p67=>(ret (p66,p67)))) fun p63=>(w_Board__is_up K cl (p65,p63))))) ((),()))) fun v68=>(ret ((fun xs=>PyData.list (xs.map id)) v68))) fun p70=>(bnd (ret ()) fun p71=>(ret (p70,p71)))) fun y69=>(wAss (Tame y69.1 40 50000) (ret y69.1.shown))) fun v76=>(bnd (bnd (bnd (bnd (ret due_62) fun v72=>(ret ((fun xs=>PyData.list (xs.map id)) v72))) fun p74=>(bnd (ret ()) fun p75=>(ret (p74,p75)))) fun y73=>(wAss (Tame y73.1 40 50000) (ret y73.1.shown))) fun v77=>(ret (!decide (v76=v77))))) fun v156=>(wIf v156 (bnd (ret false) fun v78=>(ret (Flow.rt v78))) (bnd (bnd (bnd (bnd (ret y39.2) fun p87=>(bnd (bnd (ret (0:Int)) fun p85=>(bnd (bnd (bnd (ret x.2.2.1) fun v79=>(ret (PyData.int v79))) fun p83=>(bnd (ret ()) fun p84=>(ret (p83,p84)))) fun p86=>(ret (p85,p86)))) fun p88=>(ret (p87,p88)))) fun p80=>(w__law_are_spots K cl p80)) fun v99=>(wIf v99 (bnd (bnd (bnd (ret ("returned" :Str)) fun v90=>(ret (PyData.str v90))) fun p91=>(bnd (ret ()) fun p92=>(ret (p91,p92)))) fun y89=>(ret ([y89.1]:List PyData))) (bnd (bnd (bnd (ret ("cells" :Str)) fun v94=>(ret (PyData.str v94))) fun p97=>(bnd (bnd (ret y39.2) fun p95=>(bnd (ret ()) fun p96=>(ret (p95,p96)))) fun p98=>(ret (p97,p98)))) fun y93=>(ret ([y93.1,y93.2.1]:List PyData))))) fun (due_100:List PyData)=>(bnd (bnd (bnd (bnd (bnd (wLam cl.tb__law_asked_right q__law_asked_right (w__law_met K cl kI (bnd (ret x.2.1) fun p103=>(wRcv (fun _=>True) (bnd (bnd (ret y39.2) fun p104=>(bnd (ret ()) fun p105=>(ret (p104,p105)))) fun p101=>(w_Board__parity K cl (p103,p101))))) ((),()))) fun v106=>(ret ((fun xs=>PyData.list (xs.map id)) v106))) fun p108=>(bnd (ret ()) fun p109=>(ret (p108,p109)))) fun y107=>(wAss (Tame y107.1 40 50000) (ret y107.1.shown))) fun v114=>(bnd (bnd (bnd (bnd (ret due_100) fun v110=>(ret ((fun xs=>PyData.list (xs.map id)) v110))) fun p112=>(bnd (ret ()) fun p113=>(ret (p112,p113)))) fun y111=>(wAss (Tame y111.1 40 50000) (ret y111.1.shown))) fun v115=>(ret (!decide (v114=v115))))) fun v155=>(wIf v155 (bnd (ret false) fun v116=>(ret (Flow.rt v116))) (bnd (bnd (bnd (bnd (ret y39.2) fun p125=>(bnd (bnd (ret (1:Int)) fun p123=>(bnd (bnd (bnd (ret x.2.2.1) fun v117=>(ret (PyData.int v117))) fun p121=>(bnd (ret ()) fun p122=>(ret (p121,p122)))) fun p124=>(ret (p123,p124)))) fun p126=>(ret (p125,p126)))) fun p118=>(w__law_are_spots K cl p118)) fun v137=>(wIf v137 (bnd (bnd (bnd (ret ("returned" :Str)) fun v128=>(ret (PyData.str v128))) fun p129=>(bnd (ret ()) fun p130=>(ret (p129,p130)))) fun y127=>(ret ([y127.1]:List PyData))) (bnd (bnd (bnd (ret ("cells" :Str)) fun v132=>(ret (PyData.str v132))) fun p135=>(bnd (bnd (ret y39.2) fun p133=>(bnd (ret ()) fun p134=>(ret (p133,p134)))) fun p136=>(ret (p135,p136)))) fun y131=>(ret ([y131.1,y131.2.1]:List PyData))))) fun (due_138:List PyData)=>(bnd (bnd (bnd (bnd (bnd (wLam cl.tb__law_asked_right q__law_asked_right (w__law_met K cl (k_Board K cl) (bnd (ret x.2.1) fun p141=>(wRcv (fun _=>True) (bnd (bnd (ret y39.2) fun p142=>(bnd (ret ()) fun p143=>(ret (p142,p143)))) fun p139=>(w_Board__toggled K cl (p141,p139))))) ((),()))) fun v144=>(ret ((fun xs=>PyData.list (xs.map id)) v144))) fun p146=>(bnd (ret ()) fun p147=>(ret (p146,p147)))) fun y145=>(wAss (Tame y145.1 40 50000) (ret y145.1.shown))) fun v152=>(bnd (bnd (bnd (bnd (ret due_138) fun v148=>(ret ((fun xs=>PyData.list (xs.map id)) v148))) fun p150=>(bnd (ret ()) fun p151=>(ret (p150,p151)))) fun y149=>(wAss (Tame y149.1 40 50000) (ret y149.1.shown))) fun v153=>(ret (decide (v152=v153))))) fun v154=>(ret (Flow.rt v154))))))))))) none
abbrev sp__law_asked_right (K:PySem.W.Frag) (cl:Cl):Sp:=lift K (fun x:Addr×(Nat×Nat)×Int×Unit=> [kRef x.1,(k_Board K cl) x.2.1,kI x.2.2.1]) kB (w__law_asked_right K cl)
theorem ok__law_asked_right (T:Tx K mg cl):FnG P w K mg T.lb 11 T.a__law_asked_right T.fd__law_asked_right ["_law_pot_here","_law_board","_law_width_here"] (sp__law_asked_right K cl):=
  okLC T.F__law_asked_right T.lk__law_asked_right sc__law_asked_right (fun _=>rfl) none (fun y e=>nomatch e) (fun A outer s H E hg hr=>by
    refine⟨_,pss_cons (ps_asg (pe_tup (pa_cons (pe_ix (kx_ix (K:=K) rfl) (pe_lst (pa_cons (pe_fnS ((ok__law_any_thing T).atS hg (hr.mono (by decide)) (b__law_any_thing T) .nil (takes_of rfl rfl rfl rfl)) rfl T.g__law_any_thing T.F__law_any_thing.kp (pa_cons (pv 0) pa_nil)) (pa_cons (pv 2) (pa_cons (pe_op op_sub (pv 2) (pe_int)) pa_nil)))) (pe_fnS ((ok__law_draw T).atS hg (hr.mono (by decide)) (b__law_draw T) .nil (takes_of rfl rfl rfl rfl)) rfl T.g__law_draw T.F__law_draw.kp (pa_cons (pv 0) (pa_cons (pe_int) pa_nil))) (fun _ _=>rfl)) (pa_cons (pe_fnS ((ok__law_odd_spots T).atS hg (hr.mono (by decide)) (b__law_odd_spots T) .nil (takes_of rfl rfl rfl rfl)) rfl T.g__law_odd_spots T.F__law_odd_spots.kp (pa_cons (pv 0) (pa_cons (pv 2) pa_nil))) pa_nil))) (pg_tupK (K:=K) rfl rfl (pgs_cons (pg_name (i:=3) sc__law_asked_right.nd rfl (by first | exact Or.inl rfl | exact Or.inr rfl)) (pgs_cons (pg_name (i:=4) sc__law_asked_right.nd rfl (by first | exact Or.inl rfl | exact Or.inr rfl)) pgs_nil))))
    (pss_cons (ps_set (i:=5) sc__law_asked_right.nd rfl (by first | exact Or.inl rfl | exact Or.inr rfl) (pe_ifExp (pt_val (pe_fnS ((ok__law_is_int T).atS hg (hr.mono (by decide)) (b__law_is_int T) .nil (takes_of rfl rfl rfl rfl)) rfl T.g__law_is_int T.F__law_is_int.kp (pa_cons (pv 3) (pa_cons (pe_int) (pa_cons (pe_op op_sub (pv 2) (pe_int)) pa_nil))))) (pe_lst (pa_cons (pe_str) pa_nil)) (pe_lst (pa_cons (pe_str) (pa_cons (pv 3) pa_nil)))))
    (pss_cons (ps_if (pt_cmpR (kx_ne (K:=K) rfl hr) (pe_callB (kx_repr (K:=K) rfl hg hr) (by rfl) T.z_repr bt_repr (pa_cons (pe_lamT (k:=8) (q:=q__law_asked_right) ((ok__law_met T).mono (by decide)) T.F__law_met sc__law_met rfl (by first | exact Or.inl rfl | exact Or.inr (Or.inl rfl) | exact Or.inr (Or.inr rfl)) (b__law_met T) rfl T.g__law_met hg (hr.mono (by decide)) T.tb__law_asked_right rfl rfl (LamX.lamS_by (sc:=defScope st__law_asked_right) (by decide +kernel)) rfl (fun _ _ _ _ _=>rfl) (fun f c1 E A outer s H hg hr=>pe_mS ((ok_Board__is_up T).atS hg (hr.mono (by decide)) (b_Board__is_up T) .nil (takes_of rfl rfl rfl rfl)) T.cls_Board T.m_Board__is_up (pv 1) (pa_cons (pv 3) pa_nil))) pa_nil)) (pe_callB (kx_repr (K:=K) rfl hg hr) (by rfl) T.z_repr bt_repr (pa_cons (pv 5) pa_nil)) (nomark _)) (pss_one (ps_ret (pe_bl))) pss_nil)
    (pss_cons (ps_set (i:=5) sc__law_asked_right.nd rfl (by first | exact Or.inl rfl | exact Or.inr rfl) (pe_ifExp (pt_val (pe_fnS ((ok__law_are_spots T).atS hg (hr.mono (by decide)) (b__law_are_spots T) .nil (takes_of rfl rfl rfl rfl)) rfl T.g__law_are_spots T.F__law_are_spots.kp (pa_cons (pv 4) (pa_cons (pe_int) (pa_cons (pv 2) pa_nil))))) (pe_lst (pa_cons (pe_str) pa_nil)) (pe_lst (pa_cons (pe_str) (pa_cons (pv 4) pa_nil)))))
    (pss_cons (ps_if (pt_cmpR (kx_ne (K:=K) rfl hr) (pe_callB (kx_repr (K:=K) rfl hg hr) (by rfl) T.z_repr bt_repr (pa_cons (pe_lamT (k:=8) (q:=q__law_asked_right) ((ok__law_met T).mono (by decide)) T.F__law_met sc__law_met rfl (by first | exact Or.inl rfl | exact Or.inr (Or.inl rfl) | exact Or.inr (Or.inr rfl)) (b__law_met T) rfl T.g__law_met hg (hr.mono (by decide)) T.tb__law_asked_right rfl rfl (LamX.lamS_by (sc:=defScope st__law_asked_right) (by decide +kernel)) rfl (fun _ _ _ _ _=>rfl) (fun f c1 E A outer s H hg hr=>pe_mS ((ok_Board__parity T).atS hg (hr.mono (by decide)) (b_Board__parity T) .nil (takes_of rfl rfl rfl rfl)) T.cls_Board T.m_Board__parity (pv 1) (pa_cons (pv 4) pa_nil))) pa_nil)) (pe_callB (kx_repr (K:=K) rfl hg hr) (by rfl) T.z_repr bt_repr (pa_cons (pv 5) pa_nil)) (nomark _)) (pss_one (ps_ret (pe_bl))) pss_nil)
    (pss_cons (ps_set (i:=5) sc__law_asked_right.nd rfl (by first | exact Or.inl rfl | exact Or.inr rfl) (pe_ifExp (pt_val (pe_fnS ((ok__law_are_spots T).atS hg (hr.mono (by decide)) (b__law_are_spots T) .nil (takes_of rfl rfl rfl rfl)) rfl T.g__law_are_spots T.F__law_are_spots.kp (pa_cons (pv 4) (pa_cons (pe_int) (pa_cons (pv 2) pa_nil))))) (pe_lst (pa_cons (pe_str) pa_nil)) (pe_lst (pa_cons (pe_str) (pa_cons (pv 4) pa_nil)))))
    (pss_one (ps_ret (pe_cmpR (kx_eq (K:=K) rfl hr) (pe_callB (kx_repr (K:=K) rfl hg hr) (by rfl) T.z_repr bt_repr (pa_cons (pe_lamT (k:=8) (q:=q__law_asked_right) ((ok__law_met T).mono (by decide)) T.F__law_met sc__law_met rfl (by first | exact Or.inl rfl | exact Or.inr (Or.inl rfl) | exact Or.inr (Or.inr rfl)) (b__law_met T) rfl T.g__law_met hg (hr.mono (by decide)) T.tb__law_asked_right rfl rfl (LamX.lamS_by (sc:=defScope st__law_asked_right) (by decide +kernel)) rfl (fun _ _ _ _ _=>rfl) (fun f c1 E A outer s H hg hr=>pe_mS ((ok_Board__toggled T).atS hg (hr.mono (by decide)) (b_Board__toggled T) .nil (takes_of rfl rfl rfl rfl)) T.cls_Board T.m_Board__toggled (pv 1) (pa_cons (pv 4) pa_nil))) pa_nil)) (pe_callB (kx_repr (K:=K) rfl hg hr) (by rfl) T.z_repr bt_repr (pa_cons (pv 5) pa_nil)) (nomark _))))))))),?_⟩
    exact⟨_,fun x=>(simS_seq (simS_asg (simG_pair simG_name simG_name) le_none (sim_pair (simA_cons (sim_op os_ixL (sim_lstK (r:=kPy) (fun y1:PyData×PyData×PyData×Unit=>([y1.1,y1.2.1,y1.2.2.1]:List PyData)) (fun _=>rfl) (fun _=>(by decide:3≤50000)) (simA_cons (sim_call (cal_lift (w:=w__law_any_thing K cl)) (simA_cons (sim_var (i:=0) (r:=kRef) (x:=x.1) rfl) simA_nil)) (simA_cons (sim_co (sim_var (i:=2) (r:=kI) (x:=x.2.2.1) rfl) co_I) (simA_cons (sim_co (sim_op os_I0 (sim_var (i:=2) (r:=kI) (x:=x.2.2.1) rfl) sim_i) co_I) simA_nil)))) (sim_call (cal_lift (w:=w__law_draw K cl)) (simA_cons (sim_var (i:=0) (r:=kRef) (x:=x.1) rfl) (simA_cons sim_i simA_nil)))) (simA_cons (sim_call (cal_lift (w:=w__law_odd_spots K cl)) (simA_cons (sim_var (i:=0) (r:=kRef) (x:=x.1) rfl) (simA_cons (sim_var (i:=2) (r:=kI) (x:=x.2.2.1) rfl) simA_nil))) simA_nil))) (fun (y39:(PyData×PyData))=>(show SimS _ _ ([some (kRef x.1),some ((k_Board K cl) x.2.1),some (kI x.2.2.1),some (kPy y39.1),some (kPy y39.2),none]:Gm K) _ _ _ _ from (simS_seq (simS_asg simG_name le_none (sim_if (simB_B (sim_call (cal_lift (w:=w__law_is_int K cl)) (simA_cons (sim_var (i:=3) (r:=kPy) (x:=y39.1) rfl) (simA_cons sim_i (simA_cons (sim_op os_I0 (sim_var (i:=2) (r:=kI) (x:=x.2.2.1) rfl) sim_i) simA_nil))))) (sim_lstK (r:=kPy) (fun y51:PyData×Unit=>([y51.1]:List PyData)) (fun _=>rfl) (fun _=>(by decide:1≤50000)) (simA_cons (sim_co sim_s co_S) simA_nil)) (sim_lstK (r:=kPy) (fun y55:PyData×PyData×Unit=>([y55.1,y55.2.1]:List PyData)) (fun _=>rfl) (fun _=>(by decide:2≤50000)) (simA_cons (sim_co sim_s co_S) (simA_cons (sim_var (i:=3) (r:=kPy) (x:=y39.1) rfl) simA_nil)))) (fun (due_62:List PyData)=>(show SimS _ _ ([some (kRef x.1),some ((k_Board K cl) x.2.1),some (kI x.2.2.1),some (kPy y39.1),some (kPy y39.2),some ((kL kPy) due_62)]:Gm K) _ _ _ _ from (simS_seq (simS_if le_none (simB_test (sim_op os_neS (sim_callB cb_repr (simA_cons (sim_co (sim_lam (r3:=(kL kPy)) (wt:=fun α r m=>w__law_met K cl r m ((),())) (fun E=>(sim_ms (cal_lift (w:=w_Board__is_up K cl)) (rc_Board_is_up (cl:=cl)) (sim_var (i:=1) (r:=(k_Board K cl)) (x:=x.2.1) rfl) (simA_cons (sim_var (i:=3) (r:=kPy) (x:=y39.1) rfl) simA_nil)))) (co_LP co_id)) simA_nil)) (sim_callB cb_repr (simA_cons (sim_co (sim_var (i:=5) (r:=(kL kPy)) (x:=due_62) rfl) (co_LP co_id)) simA_nil)))) (simS_ret le_none sim_b) (simS_next (simS_seq (simS_asg simG_name le_none (sim_if (simB_B (sim_call (cal_lift (w:=w__law_are_spots K cl)) (simA_cons (sim_var (i:=4) (r:=kPy) (x:=y39.2) rfl) (simA_cons sim_i (simA_cons (sim_co (sim_var (i:=2) (r:=kI) (x:=x.2.2.1) rfl) co_I) simA_nil))))) (sim_lstK (r:=kPy) (fun y89:PyData×Unit=>([y89.1]:List PyData)) (fun _=>rfl) (fun _=>(by decide:1≤50000)) (simA_cons (sim_co sim_s co_S) simA_nil)) (sim_lstK (r:=kPy) (fun y93:PyData×PyData×Unit=>([y93.1,y93.2.1]:List PyData)) (fun _=>rfl) (fun _=>(by decide:2≤50000)) (simA_cons (sim_co sim_s co_S) (simA_cons (sim_var (i:=4) (r:=kPy) (x:=y39.2) rfl) simA_nil)))) (fun (due_100:List PyData)=>(show SimS _ _ ([some (kRef x.1),some ((k_Board K cl) x.2.1),some (kI x.2.2.1),some (kPy y39.1),some (kPy y39.2),some ((kL kPy) due_100)]:Gm K) _ _ _ _ from (simS_seq (simS_if le_none (simB_test (sim_op os_neS (sim_callB cb_repr (simA_cons (sim_co (sim_lam (r3:=(kL kPy)) (wt:=fun α r m=>w__law_met K cl r m ((),())) (fun E=>(sim_ms (cal_lift (w:=w_Board__parity K cl)) (rc_Board_parity (cl:=cl)) (sim_var (i:=1) (r:=(k_Board K cl)) (x:=x.2.1) rfl) (simA_cons (sim_var (i:=4) (r:=kPy) (x:=y39.2) rfl) simA_nil)))) (co_LP co_id)) simA_nil)) (sim_callB cb_repr (simA_cons (sim_co (sim_var (i:=5) (r:=(kL kPy)) (x:=due_100) rfl) (co_LP co_id)) simA_nil)))) (simS_ret le_none sim_b) (simS_next (simS_seq (simS_asg simG_name le_none (sim_if (simB_B (sim_call (cal_lift (w:=w__law_are_spots K cl)) (simA_cons (sim_var (i:=4) (r:=kPy) (x:=y39.2) rfl) (simA_cons sim_i (simA_cons (sim_co (sim_var (i:=2) (r:=kI) (x:=x.2.2.1) rfl) co_I) simA_nil))))) (sim_lstK (r:=kPy) (fun y127:PyData×Unit=>([y127.1]:List PyData)) (fun _=>rfl) (fun _=>(by decide:1≤50000)) (simA_cons (sim_co sim_s co_S) simA_nil)) (sim_lstK (r:=kPy) (fun y131:PyData×PyData×Unit=>([y131.1,y131.2.1]:List PyData)) (fun _=>rfl) (fun _=>(by decide:2≤50000)) (simA_cons (sim_co sim_s co_S) (simA_cons (sim_var (i:=4) (r:=kPy) (x:=y39.2) rfl) simA_nil)))) (fun (due_138:List PyData)=>(show SimS _ _ ([some (kRef x.1),some ((k_Board K cl) x.2.1),some (kI x.2.2.1),some (kPy y39.1),some (kPy y39.2),some ((kL kPy) due_138)]:Gm K) _ _ _ _ from (simS_ret le_none (sim_op os_eqS (sim_callB cb_repr (simA_cons (sim_co (sim_lam (r3:=(kL kPy)) (wt:=fun α r m=>w__law_met K cl r m ((),())) (fun E=>(sim_ms (cal_lift (w:=w_Board__toggled K cl)) (rc_Board_toggled (cl:=cl)) (sim_var (i:=1) (r:=(k_Board K cl)) (x:=x.2.1) rfl) (simA_cons (sim_var (i:=4) (r:=kPy) (x:=y39.2) rfl) simA_nil)))) (co_LP co_id)) simA_nil)) (sim_callB cb_repr (simA_cons (sim_co (sim_var (i:=5) (r:=(kL kPy)) (x:=due_138) rfl) (co_LP co_id)) simA_nil)))))))))))))))))))))))))),fun _ _ _ _ h=>h⟩)
def w__law_made_right (K:PySem.W.Frag) (cl:Cl):PyData×PyData×Unit→W K Bool:=fun x=>outW (bnd (bnd (bnd (bnd (ret ("returned" :Str)) fun v2=>(ret (PyData.str v2))) fun p3=>(bnd (ret ()) fun p4=>(ret (p3,p4)))) fun y1=>(ret ([y1.1]:List PyData))) fun (due_5:List PyData)=>(bnd (bnd (bnd (bnd (ret x.1) fun p13=>(bnd (bnd (ret (1:Int)) fun p11=>(bnd (bnd (ret (40:Int)) fun p9=>(bnd (ret ()) fun p10=>(ret (p9,p10)))) fun p12=>(ret (p11,p12)))) fun p14=>(ret (p13,p14)))) fun p6=>(w__law_is_int K cl p6)) fun v15=>(ret (!v15))) fun v95=>(wIf v95 (bnd (bnd (bnd (bnd (ret ("size" :Str)) fun v17=>(ret (PyData.str v17))) fun p20=>(bnd (bnd (ret x.1) fun p18=>(bnd (ret ()) fun p19=>(ret (p18,p19)))) fun p21=>(ret (p20,p21)))) fun y16=>(ret ([y16.1,y16.2.1]:List PyData))) fun (due_22:List PyData)=>(bnd (bnd (bnd (bnd (bnd (wLam cl.tb__law_made_right q__law_made_right (w__law_met K cl (k_Board K cl) (bnd (bnd (bnd (ret x.1) fun p26=>(bnd (ret ()) fun p27=>(ret (p26,p27)))) fun p23=>(bnd (bnd (ret x.2.1) fun p28=>(bnd (ret ()) fun p29=>(ret (p28,p29)))) fun p24=>(wMk cl.Board (w_Board____init__ K cl) ((fun (x:PyData×Unit) (y:PyData×Unit)=>(x.1,y.1,())) p23 p24)))) (wFrz cl.Board (fs_Board K cl))) ((),()))) fun v30=>(ret ((fun xs=>PyData.list (xs.map id)) v30))) fun p32=>(bnd (ret ()) fun p33=>(ret (p32,p33)))) fun y31=>(wAss (Tame y31.1 40 50000) (ret y31.1.shown))) fun v38=>(bnd (bnd (bnd (bnd (ret due_22) fun v34=>(ret ((fun xs=>PyData.list (xs.map id)) v34))) fun p36=>(bnd (ret ()) fun p37=>(ret (p36,p37)))) fun y35=>(wAss (Tame y35.1 40 50000) (ret y35.1.shown))) fun v39=>(ret (decide (v38=v39))))) fun v40=>(ret (Flow.rt v40)))) (bnd (bnd (bnd (bnd (ret x.2.1) fun p48=>(bnd (bnd (ret (0:Int)) fun p46=>(bnd (bnd (ret x.1) fun p44=>(bnd (ret ()) fun p45=>(ret (p44,p45)))) fun p47=>(ret (p46,p47)))) fun p49=>(ret (p48,p49)))) fun p41=>(w__law_are_spots K cl p41)) fun v50=>(ret (!v50))) fun v94=>(wIf v94 (bnd (bnd (bnd (bnd (ret ("cells" :Str)) fun v52=>(ret (PyData.str v52))) fun p55=>(bnd (bnd (ret x.2.1) fun p53=>(bnd (ret ()) fun p54=>(ret (p53,p54)))) fun p56=>(ret (p55,p56)))) fun y51=>(ret ([y51.1,y51.2.1]:List PyData))) fun (due_57:List PyData)=>(bnd (bnd (bnd (bnd (bnd (wLam cl.tb__law_made_right q__law_made_right (w__law_met K cl (k_Board K cl) (bnd (bnd (bnd (ret x.1) fun p61=>(bnd (ret ()) fun p62=>(ret (p61,p62)))) fun p58=>(bnd (bnd (ret x.2.1) fun p63=>(bnd (ret ()) fun p64=>(ret (p63,p64)))) fun p59=>(wMk cl.Board (w_Board____init__ K cl) ((fun (x:PyData×Unit) (y:PyData×Unit)=>(x.1,y.1,())) p58 p59)))) (wFrz cl.Board (fs_Board K cl))) ((),()))) fun v65=>(ret ((fun xs=>PyData.list (xs.map id)) v65))) fun p67=>(bnd (ret ()) fun p68=>(ret (p67,p68)))) fun y66=>(wAss (Tame y66.1 40 50000) (ret y66.1.shown))) fun v73=>(bnd (bnd (bnd (bnd (ret due_57) fun v69=>(ret ((fun xs=>PyData.list (xs.map id)) v69))) fun p71=>(bnd (ret ()) fun p72=>(ret (p71,p72)))) fun y70=>(wAss (Tame y70.1 40 50000) (ret y70.1.shown))) fun v74=>(ret (decide (v73=v74))))) fun v75=>(ret (Flow.rt v75)))) (bnd (bnd (bnd (bnd (bnd (wLam cl.tb__law_made_right q__law_made_right (w__law_met K cl (k_Board K cl) (bnd (bnd (bnd (ret x.1) fun p79=>(bnd (ret ()) fun p80=>(ret (p79,p80)))) fun p76=>(bnd (bnd (ret x.2.1) fun p81=>(bnd (ret ()) fun p82=>(ret (p81,p82)))) fun p77=>(wMk cl.Board (w_Board____init__ K cl) ((fun (x:PyData×Unit) (y:PyData×Unit)=>(x.1,y.1,())) p76 p77)))) (wFrz cl.Board (fs_Board K cl))) ((),()))) fun v83=>(ret ((fun xs=>PyData.list (xs.map id)) v83))) fun p85=>(bnd (ret ()) fun p86=>(ret (p85,p86)))) fun y84=>(wAss (Tame y84.1 40 50000) (ret y84.1.shown))) fun v91=>(bnd (bnd (bnd (bnd (ret due_5) fun v87=>(ret ((fun xs=>PyData.list (xs.map id)) v87))) fun p89=>(bnd (ret ()) fun p90=>(ret (p89,p90)))) fun y88=>(wAss (Tame y88.1 40 50000) (ret y88.1.shown))) fun v92=>(ret (decide (v91=v92))))) fun v93=>(ret (Flow.rt v93)))))))) none
abbrev sp__law_made_right (K:PySem.W.Frag) (cl:Cl):Sp:=lift K (fun x:PyData×PyData×Unit=> [kPy x.1,kPy x.2.1]) kB (w__law_made_right K cl)
theorem ok__law_made_right (T:Tx K mg cl):FnG P w K mg T.lb 9 T.a__law_made_right T.fd__law_made_right ["_law_thing","_law_spots_here"] (sp__law_made_right K cl):=
  okLC T.F__law_made_right T.lk__law_made_right sc__law_made_right (fun _=>rfl) none (fun y e=>nomatch e) (fun A outer s H E hg hr=>by
    refine⟨_,pss_cons (ps_set (i:=2) sc__law_made_right.nd rfl (by first | exact Or.inl rfl | exact Or.inr rfl) (pe_lst (pa_cons (pe_str) pa_nil)))
    (pss_cons (ps_if (pt_not (pt_val (pe_fnS ((ok__law_is_int T).atS hg (hr.mono (by decide)) (b__law_is_int T) .nil (takes_of rfl rfl rfl rfl)) rfl T.g__law_is_int T.F__law_is_int.kp (pa_cons (pv 0) (pa_cons (pe_int) (pa_cons (pe_int) pa_nil)))))) (pss_one (ps_set (i:=2) sc__law_made_right.nd rfl (by first | exact Or.inl rfl | exact Or.inr rfl) (pe_lst (pa_cons (pe_str) (pa_cons (pv 0) pa_nil))))) (pss_one (ps_if (pt_not (pt_val (pe_fnS ((ok__law_are_spots T).atS hg (hr.mono (by decide)) (b__law_are_spots T) .nil (takes_of rfl rfl rfl rfl)) rfl T.g__law_are_spots T.F__law_are_spots.kp (pa_cons (pv 1) (pa_cons (pe_int) (pa_cons (pv 0) pa_nil)))))) (pss_one (ps_set (i:=2) sc__law_made_right.nd rfl (by first | exact Or.inl rfl | exact Or.inr rfl) (pe_lst (pa_cons (pe_str) (pa_cons (pv 1) pa_nil))))) pss_nil)))
    (pss_one (ps_ret (pe_cmpR (kx_eq (K:=K) rfl hr) (pe_callB (kx_repr (K:=K) rfl hg hr) (by rfl) T.z_repr bt_repr (pa_cons (pe_lamT (k:=6) (q:=q__law_made_right) ((ok__law_met T).mono (by decide)) T.F__law_met sc__law_met rfl (by first | exact Or.inl rfl | exact Or.inr (Or.inl rfl) | exact Or.inr (Or.inr rfl)) (b__law_met T) rfl T.g__law_met hg (hr.mono (by decide)) T.tb__law_made_right rfl rfl (LamX.lamS_by (sc:=defScope st__law_made_right) (by decide +kernel)) rfl (fun _ _ _ _ _=>rfl) (fun f c1 E A outer s H hg hr=>pe_fnKS ((ok_Board____init__ T).makeK T.mk_Board hg (hr.mono (by decide)) (kb_Board____init____2_up T) (takes_of rfl rfl rfl rfl)) rfl T.gc_Board T.mk_Board.kp (pa_cons (pv 0) pa_nil) (pk_cons (pv 1) pk_nil))) pa_nil)) (pe_callB (kx_repr (K:=K) rfl hg hr) (by rfl) T.z_repr bt_repr (pa_cons (pv 2) pa_nil)) (nomark _))))),?_⟩
    exact⟨_,fun x=>(simS_seq (simS_asg simG_name le_none (sim_lstK (r:=kPy) (fun y1:PyData×Unit=>([y1.1]:List PyData)) (fun _=>rfl) (fun _=>(by decide:1≤50000)) (simA_cons (sim_co sim_s co_S) simA_nil)) (fun (due_5:List PyData)=>(show SimS _ _ ([some (kPy x.1),some (kPy x.2.1),some ((kL kPy) due_5)]:Gm K) _ _ _ _ from (simS_seq (simS_if le_none (simB_not (simB_B (sim_call (cal_lift (w:=w__law_is_int K cl)) (simA_cons (sim_var (i:=0) (r:=kPy) (x:=x.1) rfl) (simA_cons sim_i (simA_cons sim_i simA_nil)))))) (simS_asg simG_name le_none (sim_lstK (r:=kPy) (fun y16:PyData×PyData×Unit=>([y16.1,y16.2.1]:List PyData)) (fun _=>rfl) (fun _=>(by decide:2≤50000)) (simA_cons (sim_co sim_s co_S) (simA_cons (sim_var (i:=0) (r:=kPy) (x:=x.1) rfl) simA_nil))) (fun (due_22:List PyData)=>(show SimS _ _ ([some (kPy x.1),some (kPy x.2.1),some ((kL kPy) due_22)]:Gm K) _ _ _ _ from (simS_ret le_none (sim_op os_eqS (sim_callB cb_repr (simA_cons (sim_co (sim_lam (r3:=(kL kPy)) (wt:=fun α r m=>w__law_met K cl r m ((),())) (fun E=>(sim_frz (fs:=fs_Board K cl) (r:=(k_Board K cl)) (fun _=>rfl) (sim_callK (cal_mkK (δ':=fun x:PyData×PyData×Unit=> [kPy x.1,kPy x.2.1]) (w:=w_Board____init__ K cl) (fun (x:PyData×Unit) (y:PyData×Unit)=>(x.1,y.1,())) (by rintro Z H x y vs zs v ⟨_,_,rfl,a0,rfl⟩ ⟨_,_,rfl,a1,rfl⟩;exact⟨_,rfl,_,_,rfl,a0,_,_,rfl,a1,rfl⟩)) (simA_cons (sim_var (i:=0) (r:=kPy) (x:=x.1) rfl) simA_nil) (simA_cons (sim_var (i:=1) (r:=kPy) (x:=x.2.1) rfl) simA_nil))))) (co_LP co_id)) simA_nil)) (sim_callB cb_repr (simA_cons (sim_co (sim_var (i:=2) (r:=(kL kPy)) (x:=due_22) rfl) (co_LP co_id)) simA_nil))))))) (simS_if le_none (simB_not (simB_B (sim_call (cal_lift (w:=w__law_are_spots K cl)) (simA_cons (sim_var (i:=1) (r:=kPy) (x:=x.2.1) rfl) (simA_cons sim_i (simA_cons (sim_var (i:=0) (r:=kPy) (x:=x.1) rfl) simA_nil)))))) (simS_asg simG_name le_none (sim_lstK (r:=kPy) (fun y51:PyData×PyData×Unit=>([y51.1,y51.2.1]:List PyData)) (fun _=>rfl) (fun _=>(by decide:2≤50000)) (simA_cons (sim_co sim_s co_S) (simA_cons (sim_var (i:=1) (r:=kPy) (x:=x.2.1) rfl) simA_nil))) (fun (due_57:List PyData)=>(show SimS _ _ ([some (kPy x.1),some (kPy x.2.1),some ((kL kPy) due_57)]:Gm K) _ _ _ _ from (simS_ret le_none (sim_op os_eqS (sim_callB cb_repr (simA_cons (sim_co (sim_lam (r3:=(kL kPy)) (wt:=fun α r m=>w__law_met K cl r m ((),())) (fun E=>(sim_frz (fs:=fs_Board K cl) (r:=(k_Board K cl)) (fun _=>rfl) (sim_callK (cal_mkK (δ':=fun x:PyData×PyData×Unit=> [kPy x.1,kPy x.2.1]) (w:=w_Board____init__ K cl) (fun (x:PyData×Unit) (y:PyData×Unit)=>(x.1,y.1,())) (by rintro Z H x y vs zs v ⟨_,_,rfl,a0,rfl⟩ ⟨_,_,rfl,a1,rfl⟩;exact⟨_,rfl,_,_,rfl,a0,_,_,rfl,a1,rfl⟩)) (simA_cons (sim_var (i:=0) (r:=kPy) (x:=x.1) rfl) simA_nil) (simA_cons (sim_var (i:=1) (r:=kPy) (x:=x.2.1) rfl) simA_nil))))) (co_LP co_id)) simA_nil)) (sim_callB cb_repr (simA_cons (sim_co (sim_var (i:=2) (r:=(kL kPy)) (x:=due_57) rfl) (co_LP co_id)) simA_nil))))))) (simS_next (simS_ret le_none (sim_op os_eqS (sim_callB cb_repr (simA_cons (sim_co (sim_lam (r3:=(kL kPy)) (wt:=fun α r m=>w__law_met K cl r m ((),())) (fun E=>(sim_frz (fs:=fs_Board K cl) (r:=(k_Board K cl)) (fun _=>rfl) (sim_callK (cal_mkK (δ':=fun x:PyData×PyData×Unit=> [kPy x.1,kPy x.2.1]) (w:=w_Board____init__ K cl) (fun (x:PyData×Unit) (y:PyData×Unit)=>(x.1,y.1,())) (by rintro Z H x y vs zs v ⟨_,_,rfl,a0,rfl⟩ ⟨_,_,rfl,a1,rfl⟩;exact⟨_,rfl,_,_,rfl,a0,_,_,rfl,a1,rfl⟩)) (simA_cons (sim_var (i:=0) (r:=kPy) (x:=x.1) rfl) simA_nil) (simA_cons (sim_var (i:=1) (r:=kPy) (x:=x.2.1) rfl) simA_nil))))) (co_LP co_id)) simA_nil)) (sim_callB cb_repr (simA_cons (sim_co (sim_var (i:=2) (r:=(kL kPy)) (x:=due_5) rfl) (co_LP co_id)) simA_nil)))))))))))),fun _ _ _ _ h=>h⟩)
def w_Board__size (K:PySem.W.Frag) (cl:Cl):(Nat×Nat)×Unit→W K Int:=fun x=>outW (bnd (bnd (ret x.1) fun x=>ret (x.1:Int)) fun v1=>(ret (Flow.rt v1))) none
abbrev sp_Board__size (K:PySem.W.Frag) (cl:Cl):Sp:=lift K (fun x:(Nat×Nat)×Unit=> [(k_Board K cl) x.1]) kI (w_Board__size K cl)
theorem ok_Board__size (T:Tx K mg cl):FnG P w K mg base 1 T.a_Board__size T.fd_Board__size ["self"] (sp_Board__size K cl):=
  okL T.F_Board__size sc_Board__size (fun _=>rfl) none (fun y e=>nomatch e) (fun cdv A outer s H E hg hr=>by
    refine⟨_,pss_one (ps_ret (pe_fldK (K:=K) rfl (pv 0))),?_⟩
    exact⟨_,fun x=>(simS_ret le_none (sim_fld (fs:=fs_Board K cl) (s:=kI) (fun x=>(x.1:Int)) (fun _=>rfl) (fun _=>fl_Board_own_size) T.cls_Board T.no_Board_own_size (sim_var (i:=0) (r:=(k_Board K cl)) (x:=x.1) rfl))),fun _ _ _ _ h=>h⟩)
def w_Board__up (K:PySem.W.Frag) (cl:Cl):(Nat×Nat)×Unit→W K (List Int):=fun x=>outW (bnd (bnd (bnd (bnd (ret x.1) fun x=>ret (x.2:Int)) fun p4=>(bnd (ret ()) fun p5=>(ret (p4,p5)))) fun p1=>(w_cells_in K cl p1)) fun v6=>(ret (Flow.rt v6))) none
abbrev sp_Board__up (K:PySem.W.Frag) (cl:Cl):Sp:=lift K (fun x:(Nat×Nat)×Unit=> [(k_Board K cl) x.1]) (kX kI) (w_Board__up K cl)
theorem ok_Board__up (T:Tx K mg cl):FnG P w K mg base 2 T.a_Board__up T.fd_Board__up ["self"] (sp_Board__up K cl):=
  okL T.F_Board__up sc_Board__up (fun _=>rfl) none (fun y e=>nomatch e) (fun cdv A outer s H E hg hr=>by
    refine⟨_,pss_one (ps_ret (pe_fnS ((ok_cells_in T).atS hg (hr.mono (by decide)) (b_cells_in T) .nil (takes_of rfl rfl rfl rfl)) rfl T.g_cells_in T.F_cells_in.kp (pa_cons (pe_fldK (K:=K) rfl (pv 0)) pa_nil))),?_⟩
    exact⟨_,fun x=>(simS_ret le_none (sim_call (cal_lift (w:=w_cells_in K cl)) (simA_cons (sim_fld (fs:=fs_Board K cl) (s:=kI) (fun x=>(x.2:Int)) (fun _=>rfl) (fun _=>fl_Board_up_mask) T.cls_Board T.no_Board_up_mask (sim_var (i:=0) (r:=(k_Board K cl)) (x:=x.1) rfl)) simA_nil))),fun _ _ _ _ h=>h⟩)
def w__law_is_so (K:PySem.W.Frag) (cl:Cl):(Nat×Nat)×(List Int)×Unit→W K Bool:=fun x=>outW (bnd (bnd (bnd (bnd (ret x.1) fun p4=>(bnd (bnd (ret cl.Board) fun p2=>(bnd (ret ()) fun p3=>(ret (p2,p3)))) fun p5=>(ret (p4,p5)))) fun y1=>(wAss (y1.2.1=cl.Board) (ret true))) fun v31=>(wIf v31 (bnd (bnd (bnd (bnd (bnd (bnd (bnd (ret x.1) fun p8=>(wRcv (fun _=>True) (bnd (ret ()) fun p6=>(w_Board__up K cl (p8,p6))))) fun v9=>(ret v9)) fun p11=>(bnd (ret ()) fun p12=>(ret (p11,p12)))) fun y10=>(ret (isort y10.1))) fun v18=>(ret ((fun xs=>PyData.list (xs.map PyData.int)) v18))) fun v20=>(bnd (bnd (bnd (bnd (ret x.2.1) fun p16=>(bnd (ret ()) fun p17=>(ret (p16,p17)))) fun p13=>(w__law_up K cl p13)) fun v19=>(ret ((fun xs=>PyData.list (xs.map PyData.int)) v19))) fun v21=>(wAss (SeqAt.shaped v20=true∧SeqAt.shaped v21=true) (ret (PyData.eqv v20 v21))))) fun v30=>(wIf v30 (bnd (bnd (ret x.1) fun p24=>(wRcv (fun _=>True) (bnd (ret ()) fun p22=>(w_Board__size K cl (p24,p22))))) fun v28=>(bnd (bnd (bnd (ret x.2.1) fun p26=>(bnd (ret ()) fun p27=>(ret (p26,p27)))) fun y25=>(ret (y25.1.length:Int))) fun v29=>(ret (decide (v28=v29))))) (ret false))) (ret false))) fun v32=>(ret (Flow.rt v32))) none
abbrev sp__law_is_so (K:PySem.W.Frag) (cl:Cl):Sp:=lift K (fun x:(Nat×Nat)×(List Int)×Unit=> [(k_Board K cl) x.1,(kL kI) x.2.1]) kB (w__law_is_so K cl)
theorem ok__law_is_so (T:Tx K mg cl):FnG P w K mg base 3 T.a__law_is_so T.fd__law_is_so ["_law_found","_law_bits_here"] (sp__law_is_so K cl):=
  okL T.F__law_is_so sc__law_is_so (fun _=>rfl) none (fun y e=>nomatch e) (fun cdv A outer s H E hg hr=>by
    refine⟨_,pss_one (ps_ret (pe_and (pe_callB (kx_isi (K:=K) rfl) (by rfl) T.z_isinstance bt_isinstance (pa_cons (pv 0) (pa_cons (pe_glob (v:= .ref cl.Board) rfl T.gc_Board rfl) pa_nil))) (pe_and (pe_cmpR (kx_eq (K:=K) rfl hr) (pe_callB (kx_sorted (K:=K) rfl) (by rfl) T.z_sorted bt_sorted (pa_cons (pe_mS0 ((ok_Board__up T).atS hg (hr.mono (by decide)) (b_Board__up T) .nil (takes_of rfl rfl rfl rfl)) T.cls_Board T.m_Board__up (pv 0)) pa_nil)) (pe_fnS ((ok__law_up T).atS hg (hr.mono (by decide)) (b__law_up T) .nil (takes_of rfl rfl rfl rfl)) rfl T.g__law_up T.F__law_up.kp (pa_cons (pv 1) pa_nil)) (nomark _)) (pe_one (pe_cmpR (kx_eq (K:=K) rfl hr) (pe_mS0 ((ok_Board__size T).atS hg (hr.mono (by decide)) (b_Board__size T) .nil (takes_of rfl rfl rfl rfl)) T.cls_Board T.m_Board__size (pv 0)) (pe_callB (kx_len (K:=K) rfl) (by rfl) T.z_len bt_len (pa_cons (pv 1) pa_nil)) (nomark _)))))),?_⟩
    exact⟨_,fun x=>(simS_ret le_none (sim_andV (sim_callB (cb_isC (fs:=fs_Board K cl) (r:=(k_Board K cl)) (fun _=>rfl) T.cls_Board T.ty_Board T.cq) (simA_cons (sim_var (i:=0) (r:=(k_Board K cl)) (x:=x.1) rfl) (simA_cons (sim_cls (C:=cl.Board)) simA_nil))) (sim_andV (sim_op os_eqP (sim_co (sim_callB cb_sortedT (simA_cons (sim_co (sim_ms (cal_lift (w:=w_Board__up K cl)) (rc_Board_up (cl:=cl)) (sim_var (i:=0) (r:=(k_Board K cl)) (x:=x.1) rfl) simA_nil) co_XT) simA_nil)) (co_LP co_I)) (sim_co (sim_call (cal_lift (w:=w__law_up K cl)) (simA_cons (sim_var (i:=1) (r:=(kL kI)) (x:=x.2.1) rfl) simA_nil)) (co_LP co_I))) (sim_op os_eqI (sim_ms (cal_lift (w:=w_Board__size K cl)) (rc_Board_size (cl:=cl)) (sim_var (i:=0) (r:=(k_Board K cl)) (x:=x.1) rfl) simA_nil) (sim_callB cb_lenL (simA_cons (sim_var (i:=1) (r:=(kL kI)) (x:=x.2.1) rfl) simA_nil)))))),fun _ _ _ _ h=>h⟩)
def w_law (K:PySem.W.Frag) (cl:Cl):(List Int)×Unit→W K Bool:=fun x=>outW (bnd (bnd (bnd (bnd (bnd (ret (1:Int)) fun p15=>(bnd (bnd (bnd (bnd (ret (6:Int)) fun p10=>(bnd (bnd (bnd (bnd (ret x.1) fun p5=>(bnd (ret ()) fun p6=>(ret (p5,p6)))) fun y4=>(ret (y4.1.length:Int))) fun p8=>(bnd (ret ()) fun p9=>(ret (p8,p9)))) fun p11=>(ret (p10,p11)))) fun y7=>(ret (min y7.1 y7.2.1))) fun p13=>(bnd (ret ()) fun p14=>(ret (p13,p14)))) fun p16=>(ret (p15,p16)))) fun y12=>(ret (max y12.1 y12.2.1))) fun p17=>(bnd (ret ()) fun p18=>(ret (p17,p18)))) fun y3=>(wAss (-(2 ^ 62)≤y3.1∧y3.1<2 ^ 62) (ret (rng 0 y3.1,nI)))) fun y20=>(bnd (forW y20.2 (fun (x19:Int) (s1:Unit)=>(bnd (bnd (bnd (ret x.1) fun p26=>(bnd (bnd (ret x19) fun p24=>(bnd (ret ()) fun p25=>(ret (p24,p25)))) fun p27=>(ret (p26,p27)))) fun p21=>(w__law_pot K cl p21)) fun (pot_here_28:Addr)=>(bnd (bnd (bnd (ret pot_here_28) fun p34=>(bnd (bnd (ret (40:Int)) fun p32=>(bnd (ret ()) fun p33=>(ret (p32,p33)))) fun p35=>(ret (p34,p35)))) fun p29=>(w__law_width K cl p29)) fun (width_here_36:Int)=>(bnd (bnd (bnd (ret pot_here_28) fun p42=>(bnd (bnd (ret width_here_36) fun p40=>(bnd (ret ()) fun p41=>(ret (p40,p41)))) fun p43=>(ret (p42,p43)))) fun p37=>(w__law_bits K cl p37)) fun (bits_here_44:List Int)=>(bnd (bnd (bnd (ret bits_here_44) fun p48=>(bnd (ret ()) fun p49=>(ret (p48,p49)))) fun p45=>(w__law_made K cl p45)) fun (board_50:(Nat×Nat))=>(bnd (bnd (bnd (ret (6:Int)) fun p53=>(bnd (ret ()) fun p54=>(ret (p53,p54)))) fun y52=>(wAss (-(2 ^ 62)≤y52.1∧y52.1<2 ^ 62) (ret (rng 0 y52.1,nI)))) fun y56=>(bnd (forW y56.2 (fun (x55:Int) (s51:Unit)=>(bnd (bnd (bnd (bnd (bnd (bnd (ret pot_here_28) fun p61=>(bnd (ret ()) fun p62=>(ret (p61,p62)))) fun p58=>(w__law_any_thing K cl p58)) fun p66=>(bnd (bnd (bnd (ret width_here_36) fun v63=>(ret (PyData.int v63))) fun p64=>(bnd (ret ()) fun p65=>(ret (p64,p65)))) fun p67=>(ret (p66,p67)))) fun y57=>(ret ([y57.1,y57.2.1]:List PyData))) fun v76=>(bnd (bnd (bnd (ret pot_here_28) fun p74=>(bnd (bnd (ret (2:Int)) fun p72=>(bnd (ret ()) fun p73=>(ret (p72,p73)))) fun p75=>(ret (p74,p75)))) fun p69=>(w__law_draw K cl p69)) fun v77=>(wIx v76 v77))) fun (thing_78:PyData)=>(bnd (bnd (bnd (bnd (bnd (ret thing_78) fun p91=>(bnd (bnd (bnd (bnd (ret pot_here_28) fun p84=>(bnd (bnd (ret width_here_36) fun p82=>(bnd (ret ()) fun p83=>(ret (p82,p83)))) fun p85=>(ret (p84,p85)))) fun p79=>(w__law_odd_spots K cl p79)) fun p89=>(bnd (ret ()) fun p90=>(ret (p89,p90)))) fun p92=>(ret (p91,p92)))) fun p86=>(w__law_made_right K cl p86)) fun v93=>(ret (!v93))) fun v104=>(wIf v104 (ret true) (bnd (bnd (bnd (ret pot_here_28) fun p101=>(bnd (bnd (ret board_50) fun p99=>(bnd (bnd (ret width_here_36) fun p97=>(bnd (ret ()) fun p98=>(ret (p97,p98)))) fun p100=>(ret (p99,p100)))) fun p102=>(ret (p101,p102)))) fun p94=>(w__law_asked_right K cl p94)) fun v103=>(ret (!v103))))) fun v116=>(wIf v116 (bnd (ret false) fun v105=>(ret (Flow.rt v105))) (bnd (bnd (bnd (bnd (ret board_50) fun p111=>(bnd (bnd (ret bits_here_44) fun p109=>(bnd (ret ()) fun p110=>(ret (p109,p110)))) fun p112=>(ret (p111,p112)))) fun p106=>(w__law_is_so K cl p106)) fun v113=>(ret (!v113))) fun v115=>(wIf v115 (bnd (ret false) fun v114=>(ret (Flow.rt v114))) (ret (Flow.nx ())))))))) y56.1 ()) (aft fun (s51:Unit)=>(ret (Flow.nx ())))))))))) y20.1 ()) (aft fun (s1:Unit)=>(bnd (ret true) fun v2=>(ret (Flow.rt v2)))))) none
abbrev sp_law (K:PySem.W.Frag) (cl:Cl):Sp:=lift K (fun x:(List Int)×Unit=> [kSc x.1]) kB (w_law K cl)
theorem ok_law (T:Tx K mg cl):FnG P w K mg T.lb 12 T.a_law T.fd_law ["_law_script"] (sp_law K cl):=
  okL T.F_law sc_law (fun _=>rfl) none (fun y e=>nomatch e) (fun cdv A outer s H E hg hr=>by
    refine⟨_,pss_cons (ps_for (passes_of rfl) rfl (pi_range1 rfl T.z_range (pa_cons (pe_callB (call_max2 rfl) (by rfl) T.z_max bt_max (pa_cons (pe_int) (pa_cons (pe_callB (call_min2 rfl) (by rfl) T.z_min bt_min (pa_cons (pe_int) (pa_cons (pe_callB (kx_len (K:=K) rfl) (by rfl) T.z_len bt_len (pa_cons (pv 0) pa_nil)) pa_nil))) pa_nil))) pa_nil)) (pg_name (i:=1) sc_law.nd rfl (by first | exact Or.inl rfl | exact Or.inr rfl))
      (pss_cons (ps_set (i:=2) sc_law.nd rfl (by first | exact Or.inl rfl | exact Or.inr rfl) (pe_fnS ((ok__law_pot T).atS hg (hr.mono (by decide)) (b__law_pot T) .nil (takes_of rfl rfl rfl rfl)) rfl T.g__law_pot T.F__law_pot.kp (pa_cons (pv 0) (pa_cons (pv 1) pa_nil))))
    (pss_cons (ps_set (i:=3) sc_law.nd rfl (by first | exact Or.inl rfl | exact Or.inr rfl) (pe_fnS ((ok__law_width T).atS hg (hr.mono (by decide)) (b__law_width T) .nil (takes_of rfl rfl rfl rfl)) rfl T.g__law_width T.F__law_width.kp (pa_cons (pv 2) (pa_cons (pe_int) pa_nil))))
    (pss_cons (ps_set (i:=4) sc_law.nd rfl (by first | exact Or.inl rfl | exact Or.inr rfl) (pe_fnS ((ok__law_bits T).atS hg (hr.mono (by decide)) (b__law_bits T) .nil (takes_of rfl rfl rfl rfl)) rfl T.g__law_bits T.F__law_bits.kp (pa_cons (pv 2) (pa_cons (pv 3) pa_nil))))
    (pss_cons (ps_set (i:=5) sc_law.nd rfl (by first | exact Or.inl rfl | exact Or.inr rfl) (pe_fnS ((ok__law_made T).atS hg (hr.mono (by decide)) (b__law_made T) .nil (takes_of rfl rfl rfl rfl)) rfl T.g__law_made T.F__law_made.kp (pa_cons (pv 4) pa_nil)))
    (pss_one (ps_for (passes_of rfl) rfl (pi_range1 rfl T.z_range (pa_cons (pe_int) pa_nil)) (pg_name (i:=6) sc_law.nd rfl (by first | exact Or.inl rfl | exact Or.inr rfl))
      (pss_cons (ps_set (i:=7) sc_law.nd rfl (by first | exact Or.inl rfl | exact Or.inr rfl) (pe_ix (kx_ix (K:=K) rfl) (pe_lst (pa_cons (pe_fnS ((ok__law_any_thing T).atS hg (hr.mono (by decide)) (b__law_any_thing T) .nil (takes_of rfl rfl rfl rfl)) rfl T.g__law_any_thing T.F__law_any_thing.kp (pa_cons (pv 2) pa_nil)) (pa_cons (pv 3) pa_nil))) (pe_fnS ((ok__law_draw T).atS hg (hr.mono (by decide)) (b__law_draw T) .nil (takes_of rfl rfl rfl rfl)) rfl T.g__law_draw T.F__law_draw.kp (pa_cons (pv 2) (pa_cons (pe_int) pa_nil))) (fun _ _=>rfl)))
    (pss_cons (ps_if (PW.pt (pw_or (pt_not (pt_val (pe_fnS ((ok__law_made_right T).atS hg (hr.mono (by decide)) (b__law_made_right T) .nil (takes_of rfl rfl rfl rfl)) rfl T.g__law_made_right T.F__law_made_right.kp (pa_cons (pv 7) (pa_cons (pe_fnS ((ok__law_odd_spots T).atS hg (hr.mono (by decide)) (b__law_odd_spots T) .nil (takes_of rfl rfl rfl rfl)) rfl T.g__law_odd_spots T.F__law_odd_spots.kp (pa_cons (pv 2) (pa_cons (pv 3) pa_nil))) pa_nil))))) (pw_or1 (pt_not (pt_val (pe_fnS ((ok__law_asked_right T).atS hg (hr.mono (by decide)) (b__law_asked_right T) .nil (takes_of rfl rfl rfl rfl)) rfl T.g__law_asked_right T.F__law_asked_right.kp (pa_cons (pv 2) (pa_cons (pv 5) (pa_cons (pv 3) pa_nil))))))))) (pss_one (ps_ret (pe_bl))) pss_nil)
    (pss_one (ps_if (pt_not (pt_val (pe_fnS ((ok__law_is_so T).atS hg (hr.mono (by decide)) (b__law_is_so T) .nil (takes_of rfl rfl rfl rfl)) rfl T.g__law_is_so T.F__law_is_so.kp (pa_cons (pv 5) (pa_cons (pv 4) pa_nil))))) (pss_one (ps_ret (pe_bl))) pss_nil)))))))))))
    (pss_one (ps_ret (pe_bl))),?_⟩
    exact⟨_,fun x=>(simS_seq (simS_for (Gl:=(fun s1:Unit=>([some (kSc x.1),none,none,none,none,none,none,none]:Gm K))) (s0:=()) le_none (simI_r1 (simA_cons (sim_callB cb_max2 (simA_cons sim_i (simA_cons (sim_callB cb_min2 (simA_cons sim_i (simA_cons (sim_callB cb_lenSc (simA_cons (sim_var (i:=0) (r:=kSc) (x:=x.1) rfl) simA_nil)) simA_nil))) simA_nil))) simA_nil)) simG_name (.so (.no (.no (.no (.no (.no (.no (.no .nil)))))))) (fun (x19:Int) (s1:Unit)=>(show SimS _ _ ([some (kSc x.1),some (kI x19),none,none,none,none,none,none]:Gm K) _ _ _ _ from (simS_seq (simS_asg simG_name le_none (sim_call (cal_lift (w:=w__law_pot K cl)) (simA_cons (sim_var (i:=0) (r:=kSc) (x:=x.1) rfl) (simA_cons (sim_var (i:=1) (r:=kI) (x:=x19) rfl) simA_nil))) (fun (pot_here_28:Addr)=>(show SimS _ _ ([some (kSc x.1),some (kI x19),some (kRef pot_here_28),none,none,none,none,none]:Gm K) _ _ _ _ from (simS_seq (simS_asg simG_name le_none (sim_call (cal_lift (w:=w__law_width K cl)) (simA_cons (sim_var (i:=2) (r:=kRef) (x:=pot_here_28) rfl) (simA_cons sim_i simA_nil))) (fun (width_here_36:Int)=>(show SimS _ _ ([some (kSc x.1),some (kI x19),some (kRef pot_here_28),some (kI width_here_36),none,none,none,none]:Gm K) _ _ _ _ from (simS_seq (simS_asg simG_name le_none (sim_call (cal_lift (w:=w__law_bits K cl)) (simA_cons (sim_var (i:=2) (r:=kRef) (x:=pot_here_28) rfl) (simA_cons (sim_var (i:=3) (r:=kI) (x:=width_here_36) rfl) simA_nil))) (fun (bits_here_44:List Int)=>(show SimS _ _ ([some (kSc x.1),some (kI x19),some (kRef pot_here_28),some (kI width_here_36),some ((kL kI) bits_here_44),none,none,none]:Gm K) _ _ _ _ from (simS_seq (simS_asg simG_name le_none (sim_call (cal_lift (w:=w__law_made K cl)) (simA_cons (sim_var (i:=4) (r:=(kL kI)) (x:=bits_here_44) rfl) simA_nil)) (fun (board_50:(Nat×Nat))=>(show SimS _ _ ([some (kSc x.1),some (kI x19),some (kRef pot_here_28),some (kI width_here_36),some ((kL kI) bits_here_44),some ((k_Board K cl) board_50),none,none]:Gm K) _ _ _ _ from (simS_for (Gl:=(fun s51:Unit=>([some (kSc x.1),some (kI x19),some (kRef pot_here_28),some (kI width_here_36),some ((kL kI) bits_here_44),some ((k_Board K cl) board_50),none,none]:Gm K))) (s0:=()) le_none (simI_r1 (simA_cons sim_i simA_nil)) simG_name (.so (.so (.so (.so (.so (.so (.no (.no .nil)))))))) (fun (x55:Int) (s51:Unit)=>(show SimS _ _ ([some (kSc x.1),some (kI x19),some (kRef pot_here_28),some (kI width_here_36),some ((kL kI) bits_here_44),some ((k_Board K cl) board_50),some (kI x55),none]:Gm K) _ _ _ _ from (simS_seq (simS_asg simG_name le_none (sim_op os_ixL (sim_lstK (r:=kPy) (fun y57:PyData×PyData×Unit=>([y57.1,y57.2.1]:List PyData)) (fun _=>rfl) (fun _=>(by decide:2≤50000)) (simA_cons (sim_call (cal_lift (w:=w__law_any_thing K cl)) (simA_cons (sim_var (i:=2) (r:=kRef) (x:=pot_here_28) rfl) simA_nil)) (simA_cons (sim_co (sim_var (i:=3) (r:=kI) (x:=width_here_36) rfl) co_I) simA_nil))) (sim_call (cal_lift (w:=w__law_draw K cl)) (simA_cons (sim_var (i:=2) (r:=kRef) (x:=pot_here_28) rfl) (simA_cons sim_i simA_nil)))) (fun (thing_78:PyData)=>(show SimS _ _ ([some (kSc x.1),some (kI x19),some (kRef pot_here_28),some (kI width_here_36),some ((kL kI) bits_here_44),some ((k_Board K cl) board_50),some (kI x55),some (kPy thing_78)]:Gm K) _ _ _ _ from (simS_seq (simS_if le_none (simB_or (simB_not (simB_B (sim_call (cal_lift (w:=w__law_made_right K cl)) (simA_cons (sim_var (i:=7) (r:=kPy) (x:=thing_78) rfl) (simA_cons (sim_call (cal_lift (w:=w__law_odd_spots K cl)) (simA_cons (sim_var (i:=2) (r:=kRef) (x:=pot_here_28) rfl) (simA_cons (sim_var (i:=3) (r:=kI) (x:=width_here_36) rfl) simA_nil))) simA_nil))))) (simB_not (simB_B (sim_call (cal_lift (w:=w__law_asked_right K cl)) (simA_cons (sim_var (i:=2) (r:=kRef) (x:=pot_here_28) rfl) (simA_cons (sim_var (i:=5) (r:=(k_Board K cl)) (x:=board_50) rfl) (simA_cons (sim_var (i:=3) (r:=kI) (x:=width_here_36) rfl) simA_nil))))))) (simS_ret le_none sim_b) (simS_next (simS_if le_none (simB_not (simB_B (sim_call (cal_lift (w:=w__law_is_so K cl)) (simA_cons (sim_var (i:=5) (r:=(k_Board K cl)) (x:=board_50) rfl) (simA_cons (sim_var (i:=4) (r:=(kL kI)) (x:=bits_here_44) rfl) simA_nil))))) (simS_ret le_none sim_b) (simS_next (simS_end (s:=(():Unit)) (.so (.so (.so (.so (.so (.so (.no (.no .nil)))))))))))))))))))) (fun (s51:Unit)=>(show SimS _ _ ([some (kSc x.1),some (kI x19),some (kRef pot_here_28),some (kI width_here_36),some ((kL kI) bits_here_44),some ((k_Board K cl) board_50),none,none]:Gm K) _ _ _ _ from (simS_end (s:=(():Unit)) (.so (.no (.no (.no (.no (.no (.no (.no .nil)))))))))))))))))))))))))))))) (fun (s1:Unit)=>(show SimS _ _ ([some (kSc x.1),none,none,none,none,none,none,none]:Gm K) _ _ _ _ from (simS_ret le_none sim_b))))),fun _ _ _ _ h=>h⟩)
theorem v_is_integer_in (d:PyData) (lo hi:Int):w_is_integer_in K cl (d,lo,hi,())=ret (intIn d lo hi):=by
  unfold w_is_integer_in
  wtm_at "m"
  rw[ass_t (show IsTy "int" from .inl rfl),ass_t (show IsTy "bool" from .inr (.inl rfl))]
  cases d with
  | int i=>
    simp only[show isD (.int i) "int" =true from rfl,show isD (.int i) "bool" =false from rfl]
    wtm_at "m"
    simp only[intIn]
    by_cases h:lo≤i <;> by_cases h2:i≤hi <;> simp[h,h2]
  | bool b=>simp only[show isD (.bool b) "int" =true from rfl,show isD (.bool b) "bool" =true from rfl];wtm_at "m";rfl
  | _=>rfl
theorem v_is_cell (d:PyData) (s:Int):w_is_cell K cl (d,s,())=ret (intIn d 0 (s - 1)):=by
  unfold w_is_cell
  wtm_at "m"
  simp only[v_is_integer_in]
theorem v_require_size (d:PyData):w_require_size K cl (d,())=wIf (intIn d 1 40) (ret ()) (wRaise (cl.NoSize,[("value",kPy d)])):=by
  unfold w_require_size
  wtm_at "m"
  simp only[v_is_integer_in]
  wtm_at "m"
theorem v_require_cell (d:PyData) (lo s:Int):w_require_cell K cl (d,lo,s,())=wIf (intIn d lo (s - 1)) (ret ()) (wRaise (cl.NoCell,[("cell",kPy d)])):=by
  unfold w_require_cell
  wtm_at "m"
  simp only[v_is_integer_in]
  wtm_at "m"
theorem v_mask_of {ns:List Int} (h: ∀n∈ns,0≤n∧n<64) (hl:ns.length≤50000):w_mask_of K cl (ns,())=ret (maskI ns):=by
  unfold w_mask_of
  wtm_at "m"
  rw[ass_t hl,fmap_all (f':=fun n=>(1:Int) * 2 ^ n.toNat)]
  · wtm_at "m";rfl
  · intro n hn
    exact ass_t (cpow (h n hn).1 (by have:=h n hn;omega) (by decide))
theorem v_cells_in {m:Nat} (h:m<2 ^ 64):w_cells_in K cl ((m:Int),())=ret (bitsL m):=by
  have hf:=bits_fit h
  unfold w_cells_in
  wtm_at "m"
  rw[ass_t (by omega),rng_0,ass_t (by simp[intsTo];omega),fmap_filt (c':=fun i=>m.testBit i.toNat)]
  · wtm_at "m"
    simp only[bitsL,intsTo,List.filter_map]
    rw[filter_bits bits_over hf]
    rfl
  · intro i hi
    obtain⟨h0,_⟩:=mem_intsTo.mp hi
    show wAss _ _=_
    rw[ass_t h0,bit_at]
theorem v_is_odd {m:Nat} {S:Store K}:Spec (w_is_odd K cl ((m:Int),())) S (· =oddN m):=by
  intro Q E q
  unfold w_is_odd
  wtm_at "m"
  refine while_eq (fun s=> ∃r:Nat,s.1=(r:Int)∧(s.2.1 !=oddN r)=oddN m) (fun s=>s.1.toNat) (g:=fun s=>(Builtin.bitAnd s.1 (s.1 - 1),!s.2.1,())) ?_ ⟨m,rfl,by simp⟩ ?_
  · rintro ⟨s,f,⟨⟩⟩ ⟨r,hr,hf⟩ hb
    simp only at hr hf hb
    subst hr
    have r0:0<r:=by simpa using hb
    have hp:=pop_less r r0
    have e:((r:Int) - 1)=((r - 1:Nat):Int):=by omega
    refine⟨rfl,⟨r &&& (r - 1),by simp only[e,and_nn],?_⟩,?_⟩
    · rw[← hf]
      have:oddN (r &&& (r - 1))= !oddN r:=by
        unfold oddN
        rw[← hp]
        by_cases h:pop (r &&& (r - 1)) % 2=1
        · simp[h];omega
        · simp[h];omega
      rw[this]
      cases f <;> cases oddN r <;> rfl
    · simp only[e,and_nn,Int.toNat_natCast]
      have:=Nat.and_le_right (n:=r) (m:=r - 1)
      omega
  · rintro ⟨s,f,⟨⟩⟩ ⟨r,hr,hf⟩ hb
    simp only at hr hf hb
    subst hr
    have r0:r=0:=by
      have: ¬ 0<r:=by simpa using hb
      omega
    subst r0
    refine q _ ?_
    rw[← hf]
    show f=(f !=oddN 0)
    rw[show oddN 0=false by decide +kernel]
    cases f <;> rfl
theorem v_cell_tuple {d:PyData} {s:Int} (hl: ∀ds,seqD d=some ds→ds.length≤50000):w_cell_tuple K cl (d,s,())=(match cellsD d s with | some ts=>ret ts | none=>wRaise (cl.NoCells,[("cells",kPy d)])):=by
  unfold w_cell_tuple
  wtm_at "m"
  cases hs:(isD d "list" || isD d "tuple") with
  | false=>rw[cellsD_no hs];wtm_at "m"
  | true=>
    obtain⟨ds,hd⟩:=seq_yes hs
    wtm_at "m"
    rw[cellsD_seq hd,seq_of hd]
    wtm_at "m"
    rw[ass_t (hl _ hd),fmap_all (f':=fun x=>intIn x 0 (s - 1)) (fun x _=>v_is_cell x s)]
    wtm_at "m"
    simp only[List.all_map,Function.comp_def,id]
    cases ha:ds.all (fun x=>intIn x 0 (s - 1)) with
    | false=>
      wtm_at "m"
      simp only[areCells,ha,Bool.false_and]
      rfl
    | true=>
      wtm_at "m"
      have e:=intsOf ha
      rw[sortPy_of (ns:=intsD ds) (by rw[hd];exact congrArg some e)]
      wtm_at "m"
      have hl2:(isort (intsD ds)).length≤50000:=by
        have h1:=(isort_perm (intsD ds)).length_eq
        have h2:ds.length=(intsD ds).length:=by conv=>lhs;rw[e];rw[List.length_map]
        have:=hl _ hd
        omega
      have es:sli (isort (intsD ds)) (some 1) none=(isort (intsD ds)).drop 1:=sli_one _
      rw[es,ass_t (by rw[List.length_zip];omega),fmap_ret]
      wtm_at "m"
      simp only[List.all_map,Function.comp_def,id]
      have hn:=asc_nodup (isort_le (intsD ds))
      simp only[areCells,ha,Bool.true_and]
      by_cases nd:(intsD ds).Nodup
      · rw[hn.mpr ((isort_perm _).nodup_iff.mpr nd)]
        simp only[nd,decide_true]
        wtm_at "m"
      · rw[Bool.eq_false_iff.mpr fun h=>nd ((isort_perm _).nodup_iff.mp (hn.mp h))]
        simp only[nd,decide_false]
        wtm_at "m"
        rfl
theorem v_cell_mask {d:PyData} {s:Int} (hs:s≤64) (hl: ∀ds,seqD d=some ds→ds.length≤50000):w_cell_mask K cl (d,s,())=(match cellsD d s with | some ts=>ret (maskI ts) | none=>wRaise (cl.NoCells,[("cells",kPy d)])):=by
  unfold w_cell_mask
  wtm_at "m"
  rw[v_cell_tuple hl]
  cases e:cellsD d s with
  | none=>rfl
  | some ts=>
    wtm_at "m"
    rw[v_mask_of (fun n hn=>by have:=(cells_range e).1 n hn;omega) (cells_len e hl)]
theorem v_Board {d u:PyData} {n:Nat} {ts:List Int} {S:Store K} (hd:d= .int n) (h1:1≤n) (h2:n≤40) (hu:cellsD u n=some ts) (hl: ∀ds,seqD u=some ds→ds.length≤50000):
    Spec (bnd (wMk cl.Board (w_Board____init__ K cl) (d,u,())) (wFrz cl.Board (fs_Board K cl))) S (· =(n,(maskI ts).toNat ||| 1)):=by
  subst hd
  intro Q E q
  refine mkfrz fun a ha=> ?_
  unfold w_Board____init__
  wtm_at "m"
  rw[v_require_size,show intIn (.int n) 1 40=true by simp[intIn];omega]
  wtm_at "m"
  refine setF_ap set_same (by show (0:Nat)<1000;omega) ?_
  rw[v_cell_mask (by omega) hl,hu]
  wtm_at "m"
  refine setF_ap set_same (by show (1:Nat)<1000;omega) ?_
  rw[set_set,set_set]
  refine⟨(n,(maskI ts).toNat ||| 1),?_,?_⟩
  · rw[set_same,← Int.toNat_of_nonneg (maskI_nn ts)]
    exact congrArg (fun z=>some (Cell.ins cl.Board [(("own_size" :Str),kI (n:Int)),(("up_mask" :Str),kI z)])) (or_nn (maskI ts).toNat 1)
  · rw[set_del,del_none ha];exact q _ rfl
theorem v_Board__size (n m:Nat):w_Board__size K cl ((n,m),())=ret (n:Int):=by
  unfold w_Board__size
  wtm_at "m"
theorem v_Board__up {n m:Nat} (h:m<2 ^ 64):w_Board__up K cl ((n,m),())=ret (bitsL m):=by
  unfold w_Board__up
  wtm_at "m"
  rw[v_cells_in h]
  wtm_at "m"
theorem v_Board__is_up {n m i:Nat} (h:i<n):w_Board__is_up K cl ((n,m),.int i,())=ret (m.testBit i):=by
  unfold w_Board__is_up
  wtm_at "m"
  rw[v_require_cell,show intIn (.int i) 0 ((n:Int) - 1)=true by simp[intIn];omega]
  wtm_at "m"
  rw[ass_t (by omega),Int.toNat_natCast]
  wtm_at "m"
  rw[bit_at]
theorem v_Board__parity {n m:Nat} {u:PyData} {ts:List Int} {S:Store K} (n40:n≤64) (hu:cellsD u n=some ts) (hl: ∀ds,seqD u=some ds→ds.length≤50000):
    Spec (w_Board__parity K cl ((n,m),u,())) S (· =if oddN (m &&& (maskI ts).toNat)=true then 1 else 0):=by
  unfold w_Board__parity
  wtm_at "m"
  rw[v_cell_mask (by omega) hl,hu]
  wtm_at "m"
  rw[← Int.toNat_of_nonneg (maskI_nn ts),and_nn]
  refine v_is_odd.bnd fun y e=>Spec.ret ?_
  rw[e,Nat.and_comm];rfl
theorem v_board_of {n m:Nat} {S:Store K} (n1:1≤n) (n40:n≤40) (hm:m<2 ^ n) (od:m.testBit 0=true):Spec (w_board_of K cl ((n:Int),(m:Int),())) S (· =(n,m)):=by
  have m64:m<2 ^ 64:=Nat.lt_of_lt_of_le hm (Nat.pow_le_pow_right (by decide) (by omega))
  unfold w_board_of
  wtm_at "m"
  rw[v_cells_in m64]
  wtm_at "m"
  refine (v_Board (ts:=bitsL m) rfl n1 n40 (cells_asc (fun k hk=>bits_below hm hk) (bits_asc m)).1 (fun ds e=>by cases e;rw[List.length_map];have:=bits_len m;omega)).imp fun y hy=> ?_
  rw[hy,maskN (ns:=bitsL m),mask_bits m64,Int.toNat_natCast,or_one od]
theorem v_Board__toggled {n m:Nat} {u:PyData} {ts:List Int} {S:Store K} (n1:1≤n) (n40:n≤40) (hm:m<2 ^ n) (od:m.testBit 0=true) (hu:cellsD u n=some ts) (hl: ∀ds,seqD u=some ds→ds.length≤50000)
    (lt:(maskI ts).toNat<2 ^ n) (ev:(maskI ts).toNat.testBit 0=false):Spec (w_Board__toggled K cl ((n,m),u,())) S (· =(n,m ^^^ (maskI ts).toNat)):=by
  unfold w_Board__toggled
  wtm_at "m"
  rw[v_cell_mask (by omega) hl,hu]
  wtm_at "m"
  rw[← Int.toNat_of_nonneg (maskI_nn ts),bit_and1,ev,if_f,xor_nn]
  exact v_board_of n1 n40 (Nat.xor_lt_two_pow hm lt) (by rw[Nat.testBit_xor,od,ev];rfl)
theorem v_law_draw {p:Addr} {n:Int} {S:Store K} (hp:S p=some .pot) (h0:0<n) (h1:n<2 ^ 200):Spec (w__law_draw K cl (p,n,())) S (fun d=>0≤d∧d<n):=
  fun Q E q=>⟨hp,h0,h1,fun d a b=>q d ⟨a,b⟩⟩
theorem v_law_width {p:Addr} {n:Int} {S:Store K} (hp:S p=some .pot) (h0:1≤n) (h1:n≤1000):Spec (w__law_width K cl (p,n,())) S (fun d=>1≤d∧d≤n):=by
  unfold w__law_width
  wtm_at "m"
  refine (v_law_draw hp (by omega) (by omega)).bnd fun d hd=> ?_
  refine (v_law_draw hp (by omega) (by omega)).bnd fun i hi=> ?_
  refine (Spec.ix hi.1 (by show i<3;omega)).imp fun y hy=> ?_
  simp only[List.mem_cons,List.not_mem_nil,or_false] at hy
  omega
theorem v_law_spots {p:Addr} {lo w:Int} {S:Store K} (hp:S p=some .pot) (h0:0≤lo) (h1:w≤1000):
    Spec (w__law_spots K cl (p,lo,w,())) S (fun ns=>(∀n∈ns,lo≤n∧n<w)∧ns.Pairwise (· < ·)):=by
  unfold w__law_spots
  wtm_at "m"
  refine (v_law_draw hp (by omega) (by omega)).bnd fun way hw=> ?_
  refine Spec.ite (fun _=>Spec.ret ⟨by simp,.nil⟩) (fun _=> ?_)
  refine Spec.ite (fun _=>Spec.ret ⟨by simp,.nil⟩) (fun h0=> ?_)
  have hl:lo<w:=by have:=of_decide_eq_false h0;omega
  refine Spec.ite (fun _=> ?_) (fun _=> ?_)
  · refine Spec.bnd (v_law_draw (n:=w - lo) hp (by omega) (by omega)) fun i hi=> ?_
    refine Spec.ret ⟨fun n hn=> ?_,List.pairwise_singleton _ _⟩
    rw[List.mem_singleton] at hn
    omega
  · have hr: ∀n∈rng lo w,lo≤n∧n<w:=fun n hn=>rg_mem hn
    have ha:(rng lo w).Pairwise (· < ·):=rg_lt
    refine Spec.ite (fun _=> ?_) (fun _=> ?_)
    · exact Spec.ass (RgOk.of_le (by omega) (by omega) (by omega) (by omega)) (Spec.ret ⟨hr,ha⟩)
    refine Spec.ass (by omega) (Spec.ass (by rw[rng_len];omega) ?_)
    refine (Spec.filt fun x _=> ?_).calm.imp fun ys hy=>⟨fun n hn=>hr n (hy.subset hn),ha.sublist hy⟩
    refine (v_law_draw hp (by omega) (by omega)).bnd fun _ _=>Spec.ret trivial
theorem v_law_bits {p:Addr} {n:Nat} {S:Store K} (hp:S p=some .pot) (h0:1≤n) (h1:n≤1000):
    Spec (w__law_bits K cl (p,(n:Int),())) S (fun bs=> ∃m,m<2 ^ n∧m.testBit 0=true∧bs=bitsOf n m):=by
  unfold w__law_bits
  wtm_at "m"
  rw[ass_t (by omega),ass_t (by rw[rng_len];omega)]
  refine (Spec.fmap fun _ _=>v_law_draw hp (by omega) (by omega)).bndc fun xs hx=> ?_
  have hl:xs.length=n - 1:=by rw[hx.len,rng_len];omega
  refine Spec.ass (by rw[hl];show 1+(n - 1)≤50000;omega) (Spec.ret ?_)
  obtain⟨m,hm,e⟩:=exists_mask ([1]++xs) (fun b hb=>by
    rcases List.mem_append.mp hb with hb | hb
    · rw[List.mem_singleton] at hb;exact .inr hb
    · obtain⟨_,_,h⟩:=hx.mem hb;omega)
  have hl2:([1]++xs:List Int).length=n:=by simp;omega
  rw[hl2] at hm e
  exact⟨m,hm,(bitsOf_odd e.symm).mp rfl,e⟩
theorem v_law_up {n m:Nat} (h:m<2 ^ n) (hn:n≤64):w__law_up K cl (bitsOf n m,())=ret (bitsL m):=by
  unfold w__law_up
  wtm_at "m"
  rw[enum_bits,ass_t (by simp;omega),fmap_eq (c':=fun x:Int×Int=>decide (x.2=1)) (f':=fun x:Int×Int=>x.1) (fun _ _=>rfl) fun _ _ _=>rfl]
  wtm_at "m"
  refine congrArg TL.ret ?_
  rw[bits_lt h hn,List.filter_map,List.map_map]
  refine congrArg _ (List.filter_congr fun i _=> ?_)
  simp only[Function.comp_def,bitI]
  cases m.testBit i <;> rfl
theorem v_law_made {n m:Nat} {S:Store K} (h:m<2 ^ n) (h1:1≤n) (hn:n≤40) (od:m.testBit 0=true):Spec (w__law_made K cl (bitsOf n m,())) S (· =(n,m)):=by
  unfold w__law_made
  wtm_at "m"
  rw[v_law_up h (by omega)]
  wtm_at "m"
  rw[bitsOf_len]
  have hb: ∀k∈bitsL m,0≤k∧k<n:=fun k hk=>bits_below h hk
  have m64:m<2 ^ 64:=Nat.lt_of_lt_of_le h (Nat.pow_le_pow_right (by decide) (by omega))
  refine (v_Board rfl h1 hn (cells_asc hb (bits_asc m)).2 (fun ds e=> ?_)).imp fun y hy=> ?_
  · cases e;rw[List.length_map];have:=bits_len m;omega
  · rw[hy,mask_bits m64,or_one od]
theorem isort_asc {ns:List Int} (h:ns.Pairwise (· < ·)):isort ns=ns:=(isort_is (List.Perm.refl _) (h.imp fun h=>by omega)).symm
theorem v_law_is_so {n m:Nat} {S:Store K} (h:m<2 ^ n) (h1:1≤n) (hn:n≤40) (od:m.testBit 0=true):Spec (w__law_is_so K cl ((n,m),bitsOf n m,())) S (· =true):=by
  have m64:m<2 ^ 64:=Nat.lt_of_lt_of_le h (Nat.pow_le_pow_right (by decide) (by omega))
  unfold w__law_is_so
  wtm_at "m"
  rw[v_Board__size]
  wtm_at "m"
  rw[bitsOf_len,decide_eq_true rfl]
  wtm_at "m"
  rw[v_Board__up m64,v_law_up h (by omega)]
  wtm_at "m"
  rw[isort_asc (bits_asc m),eqv_same (shp_ints (bitsL m))]
  exact Spec.ass ⟨(shp_ints _).shaped (by decide),(shp_ints _).shaped (by decide)⟩ (Spec.ret rfl)
theorem num20:(10:Int) ^ Int.toNat 20=100000000000000000000:=by decide
theorem num9:(10:Int) ^ Int.toNat 9=1000000000:=by decide
theorem v_law_any_thing {p:Addr} {S:Store K} (hp:S p=some .pot):Spec (w__law_any_thing K cl (p,())) S (fun d=>Tame d 5 1000):=by
  unfold w__law_any_thing
  wtm_at "m"
  rw[num20,num9]
  refine Spec.ass (cpow (by decide) (by decide) (by decide)) (Spec.ass (cpow (by decide) (by decide) (by decide)) ?_)
  refine (v_law_draw hp (by omega) (by omega)).bnd fun x hx=> ?_
  refine (v_law_draw hp (by simp) (by simp)).bnd fun i hi=> ?_
  refine (Spec.ix hi.1 hi.2).imp fun d hd=> ?_
  have big: ∀y:Int,y.natAbs≤200000000000000000000→Tame (PyData.int y) 5 1000:=fun y hy=>(tame_int (Nat.lt_of_le_of_lt hy (by decide))).mono (by decide) (by decide)
  simp only[List.mem_cons,List.not_mem_nil,or_false] at hd
  rcases hd with rfl | rfl | rfl | rfl | rfl | rfl | rfl | rfl | rfl | rfl | rfl | rfl | rfl | rfl | rfl | rfl | rfl | rfl | rfl | rfl | rfl
  all_goals first
    | exact big _ (by omega)
    | exact⟨by decide +kernel,by decide +kernel,by decide +kernel,by decide +kernel,by decide +kernel⟩
theorem v_law_is_int (d:PyData) (lo hi:Int):w__law_is_int K cl (d,lo,hi,())=ret (intIn d lo hi):=by
  unfold w__law_is_int
  wtm_at "m"
  rw[ass_t (show IsTy "int" from .inl rfl),ass_t (show IsTy "bool" from .inr (.inl rfl))]
  cases d with
  | int i=>
    simp only[show isD (.int i) "int" =true from rfl,show isD (.int i) "bool" =false from rfl]
    wtm_at "m"
    simp only[intIn]
    by_cases h:lo≤i <;> by_cases h2:i≤hi <;> simp[h,h2]
  | bool b=>simp only[show isD (.bool b) "int" =true from rfl,show isD (.bool b) "bool" =true from rfl];wtm_at "m";rfl
  | _=>rfl
theorem int_of {d:PyData} {lo hi:Int} (h:intIn d lo hi=true): ∃i,d= .int i∧lo≤i∧i≤hi:=by
  cases d with
  | int i=>
    simp only[intIn,Bool.and_eq_true,decide_eq_true_eq] at h
    exact⟨i,rfl,h.1,h.2⟩
  | _=>cases h
def Raises {α:Type} (m:W K α) (S:Store K) (e:Err K):Prop:= ∀(Q:α→Store K→Prop) (E:Err K→Store K→Prop),(∀S',TL.Ext S S'→E e S')→m Q E S
theorem lamX {α:Type} {P:Addr} {q:Str} {m:W K α} {S:Store K} {R:α→Prop} (hS:S P=some (.tab q)) (h:SpecX m S R):SpecX (wLam P q m) S R:=fun Q E g=>⟨hS,h _ _ g⟩
def areD (lo n:Int) (d:PyData):Bool:=match seqD d with
  | none=>false
  | some ds=>areCells lo (n - 1) ds
theorem no_twice (ns:List Int):((enumI (ns.map PyData.int)).map fun x:Int×PyData=> !((sli (ns.map PyData.int) none (some x.1)).any fun e=>PyData.eqv e x.2)).all id=decide ns.Nodup:=by
  have len:(enumI (ns.map PyData.int)).length=ns.length:=by rw[enumI_len,List.length_map]
  have key: ∀i (h:i<ns.length),(!((sli (ns.map PyData.int) none (some (i:Int))).any fun e=>PyData.eqv e (.int ns[i])))= !decide (ns[i]∈ns.take i):=fun i h=>by
    rw[sli_take _ (by omega),Int.toNat_natCast,← List.map_take,List.any_map]
    refine congrArg (!·) ?_
    rw[Bool.eq_iff_iff,List.any_eq_true,decide_eq_true_iff]
    constructor
    · rintro ⟨x,hx,e⟩
      have:=of_decide_eq_true ((eqc_int x ns[i]).symm.trans e)
      exact this ▸ hx
    · exact fun hx=>⟨_,hx,(eqc_int _ _).trans (decide_eq_true rfl)⟩
  rw[Bool.eq_iff_iff,List.all_eq_true,decide_eq_true_iff]
  constructor
  · intro h
    refine List.pairwise_iff_getElem.mpr fun i j hi hj hij e=> ?_
    obtain⟨z,hz⟩: ∃z,(enumI (ns.map PyData.int))[j]?=some z:=⟨_,List.getElem?_eq_getElem (by omega)⟩
    obtain⟨z1,z2⟩:=enumI_get hz
    have:=h _ (List.mem_map.mpr ⟨z,List.mem_of_getElem? hz,rfl⟩)
    rw[List.getElem?_map,List.getElem?_eq_getElem hj] at z2
    have z2:z.2= .int ns[j]:=(Option.some.inj z2).symm
    rw[z1,z2,id_eq,key j hj] at this
    have m:ns[j]∈ns.take j:=by
      rw[← e]
      exact List.mem_take_iff_getElem.mpr ⟨i,by omega,rfl⟩
    rw[decide_eq_true m] at this
    cases this
  · intro h b hb
    obtain⟨z,hz,rfl⟩:=List.mem_map.mp hb
    obtain⟨j,hj,ej⟩:=List.getElem_of_mem hz
    have hz:(enumI (ns.map PyData.int))[j]?=some z:=by rw[List.getElem?_eq_getElem hj,ej]
    have hj:j<ns.length:=by omega
    obtain⟨z1,z2⟩:=enumI_get hz
    rw[List.getElem?_map,List.getElem?_eq_getElem hj] at z2
    have z2:z.2= .int ns[j]:=(Option.some.inj z2).symm
    rw[z1,z2,id_eq,key j hj]
    refine (Bool.not_eq_true' _).mpr (decide_eq_false fun m=> ?_)
    obtain⟨i,hi,e⟩:=List.mem_take_iff_getElem.mp m
    exact (List.pairwise_iff_getElem.mp h) i j (by omega) hj (by omega) e
theorem slp {d:PyData} {ds:List PyData} (h:seqD d=some ds) (lo hi:Option Int): ∃e,seqD e=some (sli ds lo hi)∧(SeqAt.shaped (.list (sli ds lo hi))=true→SeqAt.shaped e=true)∧(wSlP d lo hi:W K PyData)=ret e:=by
  cases d with
  | list l=>cases h;exact⟨_,rfl,id,rfl⟩
  | tuple l=>cases h;exact⟨_,rfl,fun h=>by simpa [SeqAt.shaped,PyData.canLay0,PyData.depth] using h,rfl⟩
  | _=>cases h
theorem v_law_are_spots {d:PyData} {lo n:Int} (hl: ∀ds,seqD d=some ds→ds.length≤50000):w__law_are_spots K cl (d,lo,.int n,())=ret (areD lo n d):=by
  unfold w__law_are_spots
  wtm_at "m"
  cases hs:seqD d with
  | none=>
    have:(isD d "list" || isD d "tuple")=false:=by cases d <;> first | rfl | cases hs
    rw[this,if_f]
    unfold areD
    rw[hs]
  | some ds=>
    have hl:=hl ds hs
    rw[seqD_is hs]
    wtm_at "m"
    simp only[seq_of hs]
    wtm_at "m"
    rw[ass_t hl,fmap_all (f':=fun x=>intIn x lo (n - 1)) fun x _=>v_law_is_int x lo (n - 1)]
    wtm_at "m"
    have ea:areD lo n d=((ds.map fun x=>intIn x lo (n - 1)).all id && decide (intsD ds).Nodup):=by
      unfold areD
      rw[hs,List.all_map]
      rfl
    rw[ea]
    cases hb:(ds.map fun x=>intIn x lo (n - 1)).all id with
    | false=>rw[if_f];rfl
    | true=>
      rw[if_t,Bool.true_and]
      have hi:=intsOf (lo:=lo) (hi:=n - 1) (ds:=ds) (by rw[List.all_map] at hb;exact hb)
      generalize intsD ds=ns at hi
      subst hi
      rw[ass_t (by rw[enumI_len];exact hl)]
      have each: ∀x∈enumI (ns.map PyData.int),(bnd (wSlP d none (some x.1)) fun v=>wInP true x.2 v:W K Bool)=ret (!((sli (ns.map PyData.int) none (some x.1)).any fun e=>PyData.eqv e x.2)):=fun x hx=>by
        obtain⟨j,hj,ej⟩:=List.getElem_of_mem hx
        have hz:(enumI (ns.map PyData.int))[j]?=some x:=by rw[List.getElem?_eq_getElem hj,ej]
        obtain⟨z1,z2⟩:=enumI_get hz
        rw[List.getElem?_map] at z2
        obtain⟨k,_,z2⟩:=Option.map_eq_some_iff.mp z2
        obtain⟨e,he,hsh,hw⟩:=slp (K:=K) hs none (some x.1)
        rw[hw,ret_bnd]
        funext Q E S
        have sx:SeqAt.shaped x.2=true:=by rw[← z2];exact (shp_int (n:=1)).shaped (by decide)
        have se:SeqAt.shaped e=true:=hsh ((by
          rw[sli_take _ (by omega),← List.map_take]
          exact (shp_ints _).shaped (by decide)))
        refine propext ⟨fun⟨ds,e1,_,_,q⟩=> ?_,fun q=>⟨_,he,sx,se,by rw[Bool.true_bne];exact q⟩⟩
        rw[he] at e1
        cases e1
        rw[Bool.true_bne] at q
        exact q
      rw[fmap_all (f':=fun x:Int×PyData=> !((sli (ns.map PyData.int) none (some x.1)).any fun e=>PyData.eqv e x.2)) each]
      wtm_at "m"
      rw[no_twice]
theorem pop_perm {α:Type}: ∀ {xs:List α} {i:Nat} (h:i<xs.length),([xs[i]]++xs.eraseIdx i).Perm xs
  | x::r,0,_=>List.Perm.refl _
  | x::r,i+1,h=>(List.Perm.swap x (r[i]'(by simpa using h)) _).trans ((pop_perm (xs:=r) (i:=i) (by simpa using h)).cons x)
theorem mixed_ap {p:Addr} {xs:List Int} {S:Store K} {Q:Addr→Store K→Prop} {E:Err K→Store K→Prop} (hp:S p=some .pot) (hl:xs.length≤1000)
    (q: ∀a S' (ns:List Int),TL.Ext S S'→S a=none→S' a=some (.lst ((ns.map PyData.int).map kPy))→ns.Perm xs→Q a S'):w__law_mixed K cl (p,xs,()) Q E S:=by
  unfold w__law_mixed
  wtm_at "m"
  refine thaw_ap fun l hn=> ?_
  refine⟨by omega,by rw[rng_len];omega,?_⟩
  refine fmap_ap (fun i ys S'=> ∃ns ds:List Int,S' l=some (.lst (ds.map kI))∧ys=ns.map PyData.int∧(ns++ds).Perm xs∧ds.length+i=xs.length∧ ∀p,p≠l→S' p=S p) ?_ ?_ ⟨[],xs,set_same,rfl,List.Perm.refl _,rfl,fun p hp=>set_ne hp⟩
  · rintro i x ys S' N hx ⟨ns,ds,h1,rfl,h2,h3,h4⟩ hN
    have hi:i<xs.length:=by
      have:=(List.getElem?_eq_some_iff.mp hx).1
      rw[rng_len] at this;omega
    refine⟨trivial,?_⟩
    rw[ret_bnd,if_t]
    wtm_at "m"
    refine⟨⟨_,h1⟩,_,h1,?_⟩
    rw[List.length_map]
    have hp':S' p=some .pot:=(h4 p fun z=>by rw[z,hn] at hp;cases hp).trans hp
    refine (v_law_draw hp' (by omega) (by omega)).ap fun d hd=> ?_
    have hd':d.toNat<ds.length:=by omega
    refine pop_ap h1 hd.1 (by omega) (List.getElem?_eq_getElem hd') (hN _ _ ⟨ns++ [ds[d.toNat]],_,set_same,by simp,?_,?_,fun p hp=>(set_ne hp).trans (h4 p hp)⟩)
    · rw[List.append_assoc]
      exact ((pop_perm hd').append_left ns).trans h2
    · rw[List.length_eraseIdx,if_pos hd'];omega
  · rintro ys S' ⟨ns,ds,h1,rfl,h2,h3,h4⟩
    rw[rng_len] at h3
    have:ds= []:=List.eq_nil_of_length_eq_zero (by omega)
    subst this
    rw[List.append_nil] at h2
    have x1:TL.Ext S S':=fun p c e=>(h4 p fun z=>by rw[z,hn] at e;cases e).trans e
    refine⟨trivial,?_⟩
    refine fun a ha=>q a _ ns (x1.trans (Ext.set ha)) ?_ set_same h2
    by_cases z:S a=none
    · exact z
    · obtain⟨c,hc⟩:=Option.ne_none_iff_exists'.mp z
      have:=x1 _ _ hc
      rw[ha] at this;cases this
structure Odd (ds:List PyData):Prop where
  len:ds.length≤45
  tame: ∀d∈ds,Tame d 2 1
theorem Odd.add {ds:List PyData} {d:PyData} (h:Odd ds) (hl:ds.length≤44) (t:Tame d 2 1):Odd (ds++ [d]):=
  ⟨by simp;omega,fun x hx=>(List.mem_append.mp hx).elim (h.tame x) fun m=>by rw[List.mem_singleton] at m;exact m ▸ t⟩
theorem Odd.lst {ds:List PyData} (h:Odd ds):Tame (.list ds) 6 1000:=(tame_lst (tameL_of h.tame)).mono (by decide) (by have:=h.len;omega)
theorem Odd.tup {ds:List PyData} (h:Odd ds):Tame (.tuple ds) 6 1000:=(tame_tup (tameL_of h.tame)).mono (by decide) (by have:=h.len;omega)
theorem v_odd {p:Addr} {n:Nat} {S:Store K} (hp:S p=some .pot) (n1:1≤n) (n40:n≤40):SpecX (w__law_odd_spots K cl (p,(n:Int),())) S (fun d=>Tame d 6 1000):=by
  intro Q E q
  unfold w__law_odd_spots
  wtm_at "m"
  refine (v_law_spots hp (by omega) (by omega)).ap fun xs hx=> ?_
  have hxl:xs.length≤40:=by have:=asc_len hx.1 hx.2 (by omega);omega
  refine mixed_ap hp (by omega) fun a S1 ns x1 ha e1 pm=> ?_
  have od:Odd (ns.map .int):=⟨by rw[List.length_map,pm.length_eq];omega,fun d hd=>by
    obtain⟨k,hk,rfl⟩:=List.mem_map.mp hd
    have:=hx.1 k (pm.subset hk)
    exact (tame_int (Nat.lt_of_le_of_lt (show k.natAbs≤40 by omega) (by decide))).mono (by decide) (by decide)⟩
  have nl:(ns.map PyData.int).length≤40:=by rw[List.length_map,pm.length_eq];omega
  generalize ns.map PyData.int=ds at od e1 nl
  clear pm
  refine (v_law_draw (x1 _ _ hp) (by omega) (by omega)).ap fun way hw=> ?_
  have hw:way=0∨way=1∨way=2∨way=3∨way=4∨way=5:=by omega
  rcases hw with rfl | rfl | rfl | rfl | rfl | rfl
  all_goals simp only[Int.reduceEq]
  all_goals wtm_at "m"
  all_goals have fin: ∀ {S':Store K} {ds':List PyData},TL.Ext S S'→S' a=some (.lst (ds'.map kPy))→Odd ds'→(bnd (wFrzL kPy a) fun x=>TL.ret (PyData.list (x.map id)):W K PyData) Q E S':=fun {S' ds'} x e o=>⟨ds',e,q _ _ (x.del ha) (by rw[List.map_id];exact o.lst)⟩
  · exact (v_law_any_thing (x1 _ _ hp)).imp (fun d t=>t.mono (by decide) (by decide)) |>.x _ _ fun y S' x t=>q y S' (x1.trans x) t
  · refine⟨_,e1,?_⟩
    rw[List.length_map]
    show (wIf (decide ((ds.length:Int)=0)) _ _:W K _) Q E S1
    by_cases z:ds.length=0
    · rw[decide_eq_true (by omega),if_t]
      exact fin x1 e1 od
    · rw[decide_eq_false (by omega),if_f]
      refine⟨⟨_,e1⟩,_,e1,?_⟩
      rw[List.length_map]
      refine (v_law_draw (x1 _ _ hp) (by omega) (by omega)).ap fun i hi=> ?_
      refine pk_ap e1 ?_
      refine (Spec.ix hi.1 hi.2).ap fun d hd=> ?_
      exact app_ap e1 (by omega) (fin (x1.over ha) set_same (od.add (by omega) (od.tame d hd)))
  · refine⟨⟨_,e1⟩,_,e1,?_⟩
    rw[List.length_map]
    refine (v_law_draw (x1 _ _ hp) (by omega) (by omega)).ap fun i hi=> ?_
    refine (v_law_draw (x1 _ _ hp) (by decide) (by decide)).ap fun j hj=> ?_
    refine (Spec.ix hj.1 (by show j<8;omega)).ap fun d hd=> ?_
    have td:Tame d 2 1:=by
      simp only[List.mem_cons,List.not_mem_nil,or_false] at hd
      rcases hd with rfl | rfl | rfl | rfl | rfl | rfl | rfl | rfl
      all_goals first
        | exact⟨by decide +kernel,by decide +kernel,by decide +kernel,by decide +kernel,by decide +kernel⟩
        | exact (tame_int (Nat.lt_of_le_of_lt (show ((n:Int)).natAbs≤40 by omega) (by decide))).mono (by decide) (by decide)
    refine⟨_,e1,by rw[List.length_map];omega,hi.1,by omega,?_⟩
    have o2:Odd (ds.take i.toNat++ [d]++ds.drop i.toNat):=⟨by simp;omega,fun x hx=>by
      rcases List.mem_append.mp hx with h | h
      · rcases List.mem_append.mp h with h | h
        · exact od.tame x (List.mem_of_mem_take h)
        · rw[List.mem_singleton] at h;exact h ▸ td
      · exact od.tame x (List.mem_of_mem_drop h)⟩
    exact fin (x1.over ha) (by rw[set_same,List.map_append,List.map_append,List.map_take,List.map_drop];rfl) o2
  · refine pk_ap e1 (q _ _ x1 ?_)
    rw[List.map_id]
    exact od.tup
  · refine⟨⟨_,e1⟩,?_⟩
    refine (v_law_draw (x1 _ _ hp) (by decide) (by decide)).ap fun j hj=> ?_
    exact app_ap e1 (by omega) (fin (x1.over ha) set_same (od.add (by omega) ((tame_int (Nat.lt_of_le_of_lt (show ((n:Int)+j).natAbs≤43 by omega) (by decide))).mono (by decide) (by decide))))
  · exact fin x1 e1 od
theorem kind_size (T:Tx K mg cl) (fs:List (Str×Dm K)):w__law_kind K cl ((cl.NoSize,fs),())=ret ("size" :Str):=by
  unfold w__law_kind
  wtm_at "m"
  wtm_at "e"
  wtm_at "m"
  rw[decide_eq_true (by decide),if_t,ass_t (by decide)]
  exact ix_eq (by decide) rfl
theorem kind_cell (T:Tx K mg cl) (fs:List (Str×Dm K)):w__law_kind K cl ((cl.NoCell,fs),())=ret ("cell" :Str):=by
  unfold w__law_kind
  wtm_at "m"
  wtm_at "e"
  wtm_at "m"
  rw[decide_eq_true (by decide),if_t,ass_t (by decide)]
  exact ix_eq (by decide) rfl
theorem kind_cells (T:Tx K mg cl) (fs:List (Str×Dm K)):w__law_kind K cl ((cl.NoCells,fs),())=ret ("cells" :Str):=by
  unfold w__law_kind
  wtm_at "m"
  wtm_at "e"
  wtm_at "m"
  rw[decide_eq_true (by decide),if_t,ass_t (by decide)]
  exact ix_eq (by decide) rfl
theorem met_ret {α:Type} {r:α→Dm K} {m:W K α} {S:Store K} {P:α→Prop} (h:SpecX m S P):SpecX (w__law_met K cl r m ((),())) S (· = [.str "returned"]):=by
  intro Q E q
  unfold w__law_met
  wtm_at "m"
  exact h _ _ fun y S' x _=>q _ S' x rfl
theorem met_size (T:Tx K mg cl) {α:Type} {r:α→Dm K} {m:W K α} {S:Store K} {d:PyData} (h:Raises m S (cl.NoSize,[("value",kPy d)])):SpecX (w__law_met K cl r m ((),())) S (· = [.str "size",d]):=by
  intro Q E q
  unfold w__law_met
  wtm_at "m"
  refine h _ _ fun S' x=> ?_
  wtm_at "e"
  wtm_at "m"
  rw[kind_size T]
  wtm_at "m"
  exact xf_of rfl (q _ S' x rfl)
theorem met_cell (T:Tx K mg cl) {α:Type} {r:α→Dm K} {m:W K α} {S:Store K} {d:PyData} (h:Raises m S (cl.NoCell,[("cell",kPy d)])):SpecX (w__law_met K cl r m ((),())) S (· = [.str "cell",d]):=by
  intro Q E q
  unfold w__law_met
  wtm_at "m"
  refine h _ _ fun S' x=> ?_
  wtm_at "e"
  wtm_at "m"
  rw[kind_cell T]
  wtm_at "m"
  exact xf_of rfl (q _ S' x rfl)
theorem met_cells (T:Tx K mg cl) {α:Type} {r:α→Dm K} {m:W K α} {S:Store K} {d:PyData} (h:Raises m S (cl.NoCells,[("cells",kPy d)])):SpecX (w__law_met K cl r m ((),())) S (· = [.str "cells",d]):=by
  intro Q E q
  unfold w__law_met
  wtm_at "m"
  refine h _ _ fun S' x=> ?_
  wtm_at "e"
  wtm_at "m"
  rw[kind_cells T]
  wtm_at "m"
  exact xf_of rfl (q _ S' x rfl)
theorem areD_iff {lo n:Int} {d:PyData}:areD lo n d=true↔ ∃ns:List Int,seqD d=some (ns.map .int)∧ns.Nodup∧ ∀k∈ns,lo≤k∧k<n:=by
  unfold areD
  constructor
  · intro h
    cases e:seqD d with
    | none=>rw[e] at h;cases h
    | some ds=>
      rw[e] at h
      have h2:=Bool.and_eq_true_iff.mp h
      refine⟨intsD ds,by rw[← intsOf h2.1],of_decide_eq_true h2.2,fun k hk=>by have:=ints_in h k hk;omega⟩
  · rintro ⟨ns,e,nd,hr⟩
    rw[e]
    show areCells lo (n - 1) (ns.map .int)=true
    rw[areCells,Bool.and_eq_true,intsD_map,decide_eq_true_eq]
    refine⟨List.all_eq_true.mpr fun d hd=> ?_,nd⟩
    obtain⟨k,hk,rfl⟩:=List.mem_map.mp hd
    have:=hr k hk
    simp[intIn]
    omega
theorem cells_yes {n:Nat} {d:PyData} (h:areD 0 n d=true): ∃ts,cellsD d n=some ts:=by
  unfold areD at h
  cases e:seqD d with
  | none=>rw[e] at h;cases h
  | some ds=>
    rw[e] at h
    exact⟨_,by rw[cellsD_seq e,if_pos h]⟩
theorem cells_no {n:Nat} {d:PyData} (h:areD 0 n d=false):cellsD d n=none:=by
  unfold areD at h
  cases e:seqD d with
  | none=>unfold cellsD;rw[e]
  | some ds=>
    rw[e] at h
    have h:areCells 0 ((n:Int) - 1) ds=false:=h
    rw[cellsD_seq e,if_neg (by rw[h];decide)]
theorem ask_up (T:Tx K mg cl) {r:Bool→Dm K} {n m:Nat} {d:PyData} {S:Store K}:SpecX (w__law_met K cl r (w_Board__is_up K cl ((n,m),d,())) ((),())) S (· =if intIn d 0 ((n:Int) - 1)=true then [.str "returned"] else [.str "cell",d]):=by
  cases h:intIn d 0 ((n:Int) - 1) with
  | true=>
    rw[if_pos rfl]
    obtain⟨i,rfl,i0,i1⟩:=int_of h
    obtain⟨i,rfl⟩:=Int.eq_ofNat_of_zero_le i0
    rw[v_Board__is_up (by omega)]
    exact met_ret (P:=fun _=>True) (SpecX.ret trivial)
  | false=>
    rw[if_neg (by decide)]
    refine met_cell T fun Q E q=> ?_
    unfold w_Board__is_up
    wtm_at "m"
    rw[v_require_cell,h,if_f]
    exact q _ TL.Ext.refl
theorem ask_parity (T:Tx K mg cl) {r:Int→Dm K} {n m:Nat} {d:PyData} {S:Store K} (n40:n≤40) (hl: ∀ds,seqD d=some ds→ds.length≤50000):SpecX (w__law_met K cl r (w_Board__parity K cl ((n,m),d,())) ((),())) S (· =if areD 0 n d=true then [.str "returned"] else [.str "cells",d]):=by
  cases h:areD 0 n d with
  | true=>
    rw[if_pos rfl]
    obtain⟨ts,hu⟩:=cells_yes h
    exact met_ret (v_Board__parity (by omega) hu hl).x
  | false=>
    rw[if_neg (by decide)]
    refine met_cells T fun Q E q=> ?_
    unfold w_Board__parity
    wtm_at "m"
    rw[v_cell_mask (by omega) hl,cells_no h]
    exact q _ TL.Ext.refl
theorem ask_toggled (T:Tx K mg cl) {r:Nat×Nat→Dm K} {n m:Nat} {d:PyData} {S:Store K} (n1:1≤n) (n40:n≤40) (hm:m<2 ^ n) (od:m.testBit 0=true) (hl: ∀ds,seqD d=some ds→ds.length≤50000):
    SpecX (w__law_met K cl r (w_Board__toggled K cl ((n,m),d,())) ((),())) S (· =if areD 1 n d=true then [.str "returned"] else [.str "cells",d]):=by
  cases h:areD 1 n d with
  | true=>
    rw[if_pos rfl]
    obtain⟨ns,e,nd,hr⟩:=areD_iff.mp h
    obtain⟨ts,hu⟩:=cells_yes (n:=n) (areD_iff.mpr ⟨ns,e,nd,fun k hk=>by have:=hr k hk;omega⟩)
    obtain⟨ns',e',_,_,es⟩:=cells_ns hu
    rw[e] at e'
    obtain rfl:ns=ns':=by
      have:=congrArg intsD (Option.some.inj e')
      rwa [intsD_map,intsD_map] at this
    obtain⟨tr,ta⟩:=cells_range hu
    have tn:ts.Nodup:=ta.imp fun h=>by omega
    refine met_ret (v_Board__toggled n1 n40 hm od hu hl (mask_lt tr tn) ?_).x
    rw[mask_bit 0 (fun k hk=>(tr k hk).1) tn]
    refine decide_eq_false fun m0=> ?_
    rw[← es] at m0
    have:=hr _ ((isort_perm ns).subset m0)
    omega
  | false=>
    rw[if_neg (by decide)]
    refine met_cells T fun Q E q=> ?_
    unfold w_Board__toggled
    wtm_at "m"
    rw[v_cell_mask (by omega) hl]
    cases h0:areD 0 n d with
    | false=>rw[cells_no h0];exact q _ TL.Ext.refl
    | true=>
      obtain⟨ts,hu⟩:=cells_yes h0
      obtain⟨tr,ta⟩:=cells_range hu
      have tn:ts.Nodup:=ta.imp fun h=>by omega
      obtain⟨ns,e,nd,hr,es⟩:=cells_ns hu
      rw[hu]
      wtm_at "m"
      have m0:(0:Int)∈ts:=Classical.byContradiction fun no=>by
        rw[areD_iff.mpr ⟨ns,e,nd,fun k hk=>by
          have:=hr k hk
          have:k≠0:=fun z=>no (by rw[← es,← z];exact (isort_perm ns).symm.subset hk)
          omega⟩] at h
        cases h
      rw[← Int.toNat_of_nonneg (maskI_nn ts),bit_and1,mask_bit 0 (fun k hk=>(tr k hk).1) tn,decide_eq_true (show ((0:Nat):Int)∈ts from m0),if_t]
      exact q _ TL.Ext.refl
def madeD (d u:PyData):Bool:=match d with
  | .int n=>areD 0 n u
  | _=>false
theorem ask_made (T:Tx K mg cl) {r:Nat×Nat→Dm K} {d u:PyData} {S:Store K} (hl: ∀ds,seqD u=some ds→ds.length≤50000):
    SpecX (w__law_met K cl r (bnd (wMk cl.Board (w_Board____init__ K cl) (d,u,())) (wFrz cl.Board (fs_Board K cl))) ((),())) S (· =if intIn d 1 40=true then (if madeD d u=true then [.str "returned"] else [.str "cells",u]) else [.str "size",d]):=by
  cases h:intIn d 1 40 with
  | true=>
    rw[if_pos rfl]
    obtain⟨n,rfl,n0,n1⟩:=int_of h
    obtain⟨n,rfl⟩:=Int.eq_ofNat_of_zero_le (show 0≤n by omega)
    cases ha:areD 0 n u with
    | true=>
      rw[if_pos (show madeD (.int (n:Int)) u=true from ha)]
      obtain⟨ts,hu⟩:=cells_yes ha
      exact met_ret (v_Board rfl (by omega) (by omega) hu hl).x
    | false=>
      rw[if_neg (show ¬ madeD (.int (n:Int)) u=true from fun z=>by rw[show areD 0 n u=true from z] at ha;cases ha)]
      refine met_cells T fun Q E q=> ?_
      refine mkfrz fun a hn=> ?_
      unfold w_Board____init__
      wtm_at "m"
      rw[v_require_size,h]
      wtm_at "m"
      refine setF_ap set_same (by show (0:Nat)<1000;omega) ?_
      rw[v_cell_mask (by omega) hl,cells_no ha]
      show E _ (((S.set a _).set a _).del a)
      rw[set_set,set_del,del_none hn]
      exact q _ TL.Ext.refl
  | false=>
    rw[if_neg (by decide)]
    refine met_size T fun Q E q=> ?_
    refine mkfrz fun a hn=> ?_
    unfold w_Board____init__
    wtm_at "m"
    rw[v_require_size,h,if_f,raise_bnd]
    show E _ ((S.set a _).del a)
    rw[set_del,del_none hn]
    exact q _ TL.Ext.refl
theorem told_tame {k:Str} {d:PyData} (hk:k.length≤10) (ok:PyData.strOk k=true) (t:Tame d 6 1000):Tame (PyData.list (List.map id [.str k,d])) 40 50000:=by
  rw[List.map_id]
  refine (tame_lst (tameL_of (k:=6) (m:=1000) fun x hx=> ?_)).mono (by decide) (by show 2 * 1001≤50000;decide)
  rcases List.mem_cons.mp hx with rfl | hx
  · exact (tame_str hk ok).mono (by decide) (by decide)
  · rw[List.mem_singleton] at hx;exact hx ▸ t
theorem told_one {k:Str} (hk:k.length≤10) (ok:PyData.strOk k=true):Tame (PyData.list (List.map id [.str k])) 40 50000:=by
  rw[List.map_id]
  refine (tame_lst (tameL_of (k:=6) (m:=1000) fun x hx=> ?_)).mono (by decide) (by show 1 * 1001≤50000;decide)
  rw[List.mem_singleton] at hx
  exact hx ▸ (tame_str hk ok).mono (by decide) (by decide)
theorem t_ret:Tame (PyData.list (List.map id [.str "returned"])) 40 50000:=told_one (by decide +kernel) (by decide +kernel)
theorem tame_seq {d:PyData} {k n:Nat} (t:Tame d k n) (hn:n≤50000): ∀ds,seqD d=some ds→ds.length≤50000:=fun ds e=>by have:=tame_len t e;omega
theorem v_made (T:Tx K mg cl) {d u:PyData} {S:Store K} (td:Tame d 6 1000) (tu:Tame u 6 1000) (hS:S cl.tb__law_made_right=some (.tab q__law_made_right)):SpecX (w__law_made_right K cl (d,u,())) S (· =true):=by
  have hl:=tame_seq tu (by decide)
  intro Q E q
  unfold w__law_made_right
  wtm_at "m"
  rw[v_law_is_int]
  wtm_at "m"
  have ask:=ask_made T (r:=k_Board K cl) (d:=d) (S:=S) hl
  cases h:intIn d 1 40 with
  | false=>
    rw[h,if_neg (by decide)] at ask
    rw[if_f]
    refine (lamX hS ask).ap fun y S2 x2 hy=> ?_
    subst hy
    have t:=told_tame (k:= "size") (by decide +kernel) (by decide +kernel) td
    refine⟨t,t,?_⟩
    exact q _ _ x2 (decide_eq_true rfl)
  | true=>
    obtain⟨n,rfl,n0,n1⟩:=int_of h
    rw[h,if_pos rfl] at ask
    rw[if_t,v_law_are_spots hl,ret_bnd]
    cases ha:areD 0 n u with
    | true=>
      rw[if_pos (show madeD (.int n) u=true from ha)] at ask
      rw[if_t]
      refine (lamX hS ask).ap fun y S2 x2 hy=> ?_
      subst hy
      refine⟨t_ret,t_ret,?_⟩
      exact q _ _ x2 (decide_eq_true rfl)
    | false=>
      rw[if_neg (show ¬ madeD (.int n) u=true from fun z=>by rw[show areD 0 n u=true from z] at ha;cases ha)] at ask
      rw[if_f]
      refine (lamX hS ask).ap fun y S2 x2 hy=> ?_
      subst hy
      have t:=told_tame (k:= "cells") (by decide +kernel) (by decide +kernel) tu
      refine⟨t,t,?_⟩
      exact q _ _ x2 (decide_eq_true rfl)
theorem pick {α β:Type} {b:Bool} {x y:α} {k:α→W K β}:(bnd (wIf b (ret x) (ret y)) k)=k (if b=true then x else y):=by cases b <;> exact id rfl
theorem v_asked (T:Tx K mg cl) {p:Addr} {n m:Nat} {S:Store K} (hp:S p=some .pot) (n1:1≤n) (n40:n≤40) (hm:m<2 ^ n) (od:m.testBit 0=true) (hS:S cl.tb__law_asked_right=some (.tab q__law_asked_right)):SpecX (w__law_asked_right K cl (p,(n,m),(n:Int),())) S (· =true):=by
  intro Q E q
  unfold w__law_asked_right
  wtm_at "n"
  refine (v_law_any_thing hp).ap fun d0 t0=> ?_
  refine (v_law_draw hp (by decide) (by decide)).ap fun i hi=> ?_
  refine (Spec.ix hi.1 (by show i<3;omega)).ap fun d hd=> ?_
  have td:Tame d 6 1000:=by
    have big: ∀y:Int,y.natAbs≤200→Tame (PyData.int y) 6 1000:=fun y hy=>(tame_int (Nat.lt_of_le_of_lt hy (by decide))).mono (by decide) (by decide)
    simp only[List.mem_cons,List.not_mem_nil,or_false] at hd
    rcases hd with rfl | rfl | rfl
    · exact t0.mono (by decide) (by decide)
    · exact big _ (by omega)
    · exact big _ (by omega)
  refine (v_odd hp n1 n40).ap fun u S1 x1 tu=> ?_
  have hl:=tame_seq tu (by decide)
  have tc:=told_tame (k:= "cells") (by decide +kernel) (by decide +kernel) tu
  have tl:=told_tame (k:= "cell") (by decide +kernel) (by decide +kernel) td
  rw[v_law_is_int,ret_bnd,pick]
  refine (lamX (x1 _ _ hS) (ask_up T)).ap fun y S2 x2 hy=> ?_
  subst hy
  have t1:Tame (PyData.list (List.map id (if intIn d 0 ((n:Int) - 1)=true then [.str "returned"] else [.str "cell",d]))) 40 50000:=by
    split
    · exact t_ret
    · exact tl
  refine⟨t1,t1,?_⟩
  rw[decide_eq_true rfl,if_t]
  wtm_at "n"
  rw[v_law_are_spots hl,ret_bnd,pick]
  refine (lamX (x2 _ _ (x1 _ _ hS)) (ask_parity T n40 hl)).ap fun y S3 x3 hy=> ?_
  subst hy
  have t2:Tame (PyData.list (List.map id (if areD 0 n u=true then [.str "returned"] else [.str "cells",u]))) 40 50000:=by
    split
    · exact t_ret
    · exact tc
  refine⟨t2,t2,?_⟩
  rw[decide_eq_true rfl,if_t]
  wtm_at "n"
  rw[v_law_are_spots hl,ret_bnd,pick]
  refine (lamX (x3 _ _ (x2 _ _ (x1 _ _ hS))) (ask_toggled T n1 n40 hm od hl)).ap fun y S4 x4 hy=> ?_
  subst hy
  have t3:Tame (PyData.list (List.map id (if areD 1 n u=true then [.str "returned"] else [.str "cells",u]))) 40 50000:=by
    split
    · exact t_ret
    · exact tc
  refine⟨t3,t3,?_⟩
  exact q _ _ (((x1.trans x2).trans x3).trans x4) (decide_eq_true rfl)
theorem law_holds (T:Tx K mg cl) (ns:List Int) (h:ns.length≤63):w_law K cl (ns,()) (fun b _=>b=true) (fun _ _=>False) (tabsS (tabs cl)):=by
  have t1:tabsS (K:=K) (tabs cl) cl.tb__law_made_right=some (.tab q__law_made_right):=tabsS_at (p:=(cl.tb__law_made_right,q__law_made_right)) T.tnd (by simp)
  have t2:tabsS (K:=K) (tabs cl) cl.tb__law_asked_right=some (.tab q__law_asked_right):=tabsS_at (p:=(cl.tb__law_asked_right,q__law_asked_right)) T.tnd (by simp)
  unfold w_law
  wtm_at "m"
  refine⟨by omega,?_⟩
  refine for_ap (fun _ _ S=>S cl.tb__law_made_right=some (.tab q__law_made_right)∧S cl.tb__law_asked_right=some (.tab q__law_asked_right)) ?_ ?_ ⟨t1,t2⟩
  · rintro i k s S N hk ⟨h1,h2⟩ hN
    have hk':=rg_mem (List.mem_of_getElem? hk)
    refine⟨trivial,(show (0:Int)≤k by omega),(show k<100 by omega),fun p hp=> ?_⟩
    have hp':(S.set p .pot) p=some (Cell.pot (K:=K)):=set_same
    have h1':=(set_ne (c:=Cell.pot (K:=K)) (show cl.tb__law_made_right≠p from fun z=>by rw[z,hp] at h1;cases h1)).trans h1
    have h2':=(set_ne (c:=Cell.pot (K:=K)) (show cl.tb__law_asked_right≠p from fun z=>by rw[z,hp] at h2;cases h2)).trans h2
    generalize S.set p .pot=S1 at hp' h1' h2'
    refine (v_law_width hp' (by decide) (by decide)).ap fun n hn=> ?_
    obtain⟨n,rfl⟩:=Int.eq_ofNat_of_zero_le (show 0≤n by omega)
    refine (v_law_bits hp' (by omega) (by omega)).ap fun bs hb=> ?_
    obtain⟨m,hm,od,rfl⟩:=hb
    refine (v_law_made hm (by omega) (by omega) od).ap fun bd hbd=> ?_
    subst hbd
    refine⟨by decide,?_⟩
    refine for_ap (fun _ _ S=>S p=some .pot∧S cl.tb__law_made_right=some (.tab q__law_made_right)∧S cl.tb__law_asked_right=some (.tab q__law_asked_right)) ?_ ?_ ⟨hp',h1',h2'⟩
    · rintro i t s S2 N2 ht ⟨hp2,h1,h2⟩ hN2
      refine⟨trivial,?_⟩
      refine (v_law_any_thing hp2).ap fun d0 t0=> ?_
      refine (v_law_draw hp2 (by decide) (by decide)).ap fun i hi=> ?_
      refine (Spec.ix hi.1 (by show i<2;omega)).ap fun d hd=> ?_
      have td:Tame d 6 1000:=by
        simp only[List.mem_cons,List.not_mem_nil,or_false] at hd
        rcases hd with rfl | rfl
        · exact t0.mono (by decide) (by decide)
        · exact (tame_int (Nat.lt_of_le_of_lt (show ((n:Int)).natAbs≤200 by omega) (by decide))).mono (by decide) (by decide)
      refine (v_odd hp2 (by omega) (by omega)).ap fun u S3 x3 tu=> ?_
      refine (v_made T td tu (x3 _ _ h1)).ap fun y S4 x4 hy=> ?_
      subst hy
      rw[if_t]
      have x34:=x3.trans x4
      refine (v_asked T (x34 _ _ hp2) (by omega) (by omega) hm od (x34 _ _ h2)).ap fun y S5 x5 hy=> ?_
      subst hy
      rw[if_t]
      have x35:=x34.trans x5
      refine (v_law_is_so hm (by omega) (by omega) od).ap fun y hy=> ?_
      subst hy
      rw[if_t]
      exact hN2 _ _ ⟨x35 _ _ hp2,x35 _ _ h1,x35 _ _ h2⟩
    · rintro s S3 ⟨_,h1,h2⟩
      exact⟨trivial,hN _ _ ⟨h1,h2⟩⟩
  · rintro s S _
    exact⟨trivial,rfl⟩
end
noncomputable section
open PySem PySem.W PySem.Calls
abbrev kh:=PyData.keyHash
abbrev nd:=BT.node
abbrev nl:=BT.nil
abbrev lf (o:Obj):BT:=BT.node o .nil .nil
abbrev fo0 (n q:Str) (s:Stmt):Obj:=⟨.none,none,.func { name:=n,qualname:=q,params:=defArgs s,body:= .stmts (defBody s),scope:=defScope s,globals:=0,closure:= [],defaults:= .none,kwdefaults:= .none,doc:= .none,pyModule:= .none,annotations:=none,code:= .none,closureTuple:= .none,builtins:=0 },#[]⟩
abbrev fo1 (n q:Str) (s:Stmt) (a b c d e f:Value):Obj:=⟨(.type "function"),none,.func (fnOf n q (defArgs s) (defBody s) (defScope s) a b c d none e f),#[]⟩
abbrev fo2 (n:Str) (n1:Tok) (q:Str) (q1 t:Tok) (i1:Int) (u1:Tok) (i2:Int) (u2:Tok) (i3:Int) (u3:Tok) (i4:Int) (u4:Tok) (i5:Int) (u5:Tok) (a:Value) (b:Bool) (c d e f:Value) (i6:Int) (u6:Tok) (i7:Int) (u7 t2:Tok):Obj:= .mk (.type "code") none (.fields #[.str n n1,.str q q1,.str "/claim/cut.py" t,.int i1 u1,.int i2 u2,.int i3 u3,.int i4 u4,.int i5 u5,a,.bool b,.int 181 0,c,.none,d,e,f,.int i6 u6,.int i7 u7,.str "/claim/cut.py" t2]) #[]
abbrev fo3 (P:Params) (k:Str) (t:Tok) (v:Value):DictEntry:= .mk (kh P k) (.str k t) v
def o0 (P:Params):Obj:=(.mk (.type "tuple") none (.seq #[] 0) #[])
def o1 (P:Params):Obj:=(.mk .none none (.fields #[]) #[])
def o2 (P:Params):Obj:=fo2 "<module>" 182 "<module>" 183 184 1 0 0 0 0 0 0 0 0 0 (.ref 11) false (.ref 12) .none .none .none 185 0 1 0 186
def o3 (P:Params):Obj:=(.mk (.type "frame") none .plain #[(some (.ref 13)),(some (.ref 3)),(some (.ref 3)),none,(some (.str "__main__" 164)),none,(some (.ref 0))])
def o4 (P:Params):Obj:=(.mk (.type "dict") none (.dict #[(fo3 P "__name__" 165 (.str "paritycells.boards" 381)),(fo3 P "__doc__" 166 .none),(fo3 P "__package__" 167 .none),(fo3 P "__loader__" 168 (.builtin "__main__.__loader__#opaque")),(fo3 P "__spec__" 169 .none),(fo3 P "__annotations__" 170 (.ref 6)),(fo3 P "__builtins__" 171 (.ref 4)),(fo3 P "__file__" 173 (.str "/claim/cut.py" 172)),(fo3 P "__cached__" 174 .none),(fo3 P "CellError" 206 (.ref 24)),(fo3 P "NoSize" 231 (.ref 44)),(fo3 P "NoCell" 256 (.ref 63)),(fo3 P "NoCells" 281 (.ref 82)),(fo3 P "NoFlip" 306 (.ref 101)),(fo3 P "MOST_CELLS" 310 (.int 40 309)),(fo3 P "is_integer_in" 319 (.ref 110)),(fo3 P "is_cell" 328 (.ref 118)),(fo3 P "require_size" 335 (.ref 125)),(fo3 P "require_cell" 344 (.ref 132)),(fo3 P "mask_of" 350 (.ref 137)),(fo3 P "cells_in" 356 (.ref 142)),(fo3 P "is_odd" 365 (.ref 149)),(fo3 P "cell_tuple" 372 (.ref 155)),(fo3 P "cell_mask" 380 (.ref 162))] 24) #[])
def o5 (P:Params):Obj:=(.mk .none none (.fields #[(.int 2 0),(.int 0 0),(.ref 20),(.int 4 0),(.int 0 0),(.ref 33),(.int 9 0),(.int 0 0),(.ref 52),(.int 14 0),(.int 0 0),(.ref 71),(.int 19 0),(.int 0 0),(.ref 90),(.int 26 0),(.int 0 0),(.ref 109),(.int 28 0),(.int 0 0),(.ref 117),(.int 30 0),(.int 0 0),(.ref 124),(.int 33 0),(.int 0 0),(.ref 131),(.int 36 0),(.int 0 0),(.ref 136),(.int 38 0),(.int 0 0),(.ref 141),(.int 40 0),(.int 0 0),(.ref 148),(.int 46 0),(.int 0 0),(.ref 154),(.int 53 0),(.int 0 0),(.ref 161)]) #[])
def o6 (P:Params):Obj:=(.mk (.type "tuple") none (.seq #[(.type "ValueError")] 0) #[])
def o7 (P:Params):Obj:=(.mk (.type "builtin_function_or_method") none (.fields #[(.builtin "type.__prepare__"),(.type "type")]) #[])
def o8 (P:Params):Obj:=(.mk (.type "dict") none (.dict #[(fo3 P "__module__" 196 (.str "paritycells.errors" 187)),(fo3 P "__qualname__" 198 (.str "CellError" 197)),(fo3 P "__firstlineno__" 200 (.int 2 199)),(fo3 P "__static_attributes__" 201 (.ref 22))] 4) #[])
def o9 (P:Params):Obj:=fo2 "CellError" 191 "CellError" 192 193 2 0 0 0 0 0 0 0 0 0 (.ref 18) false (.ref 19) .none .none .none 194 0 2 0 195
def o10 (P:Params):Obj:=(.mk (.type "frame") none .plain #[(some (.ref 20)),(some (.ref 3)),(some (.ref 17)),none,(some (.str "paritycells.errors" 187)),none,(some (.ref 0))])
def o11 (P:Params):Obj:=(.mk (.type "dict") none (.dict #[(fo3 P "__module__" 196 (.str "paritycells.errors" 187)),(fo3 P "__firstlineno__" 200 (.int 2 199)),(fo3 P "__static_attributes__" 201 (.ref 22)),(fo3 P "__weakref__" 203 (.ref 25)),(fo3 P "__doc__" 204 .none)] 3) #[])
def o12 (P:Params):Obj:=(.mk (.type "type") none (.cls (.mk "CellError" [(.type "ValueError")] [(.ref 24),(.type "ValueError"),(.type "Exception"),(.type "BaseException"),(.type "object")] 23 "CellError" true [] [(.ref 44),(.ref 63),(.ref 82),(.ref 101)] false none false)) #[(some (.ref 15)),none,(some (.str "CellError" 189)),(some (.str "CellError" 197)),(some (.builtin "ValueError.__new__")),(some (.bool true))])
def o13 (P:Params):Obj:=(.mk (.type "getset_descriptor") none (.fields #[(.str "__weakref__" 202),(.ref 24),(.builtin "ExceptionGroup.__weakref__"),.none]) #[])
def o14 (P:Params):Obj:=(.mk (.type "super") none (.fields #[(.ref 24),(.ref 24),(.ref 24)]) #[])
def o15 (P:Params):Obj:=(.mk (.type "builtin_function_or_method") none (.fields #[(.builtin "object.__init_subclass__"),(.ref 24)]) #[])
def o16 (P:Params):Obj:=(.mk (.type "tuple") none (.seq #[(.ref 24)] 0) #[])
def o17 (P:Params):Obj:=(.mk (.type "dict") none (.dict #[(fo3 P "__module__" 214 (.str "paritycells.errors" 187)),(fo3 P "__qualname__" 216 (.str "NoSize" 215)),(fo3 P "__firstlineno__" 218 (.int 4 217)),(fo3 P "__init__" 226 (.ref 41)),(fo3 P "__static_attributes__" 228 (.ref 42))] 5) #[])
def o18 (P:Params):Obj:=(.mk .none none (.fields #[(.int 6 0),(.int 4 0),(.ref 40)]) #[])
def o19 (P:Params):Obj:=fo2 "NoSize" 209 "NoSize" 210 211 4 0 0 0 0 0 0 0 0 0 (.ref 31) false (.ref 32) .none .none .none 212 0 4 0 213
def o20 (P:Params):Obj:=(.mk (.type "frame") none .plain #[(some (.ref 33)),(some (.ref 3)),(some (.ref 30)),none,(some (.str "paritycells.errors" 187)),none,(some (.ref 0))])
def o21 (P:Params):Obj:=(.mk (.type "tuple") none (.seq #[(.str "self" 222),(.str "value" 223)] 0) #[])
def o22 (P:Params):Obj:=fo0 "__init__" "NoSize.__init__" (clsS 2 0)
def o23 (P:Params):Obj:=fo2 "__init__" 219 "NoSize.__init__" 220 221 6 0 2 0 0 0 0 0 3 0 (.ref 35) true (.ref 36) (.ref 37) (.ref 38) (.ref 39) 224 0 6 0 225
def o24 (P:Params):Obj:=fo1 "__init__" "NoSize.__init__" (clsS 2 0) .none .none .none (.str "paritycells.errors" 187) (.ref 40) .none
def o25 (P:Params):Obj:=(.mk (.type "tuple") none (.seq #[(.str "value" 227)] 0) #[])
def o26 (P:Params):Obj:=(.mk (.type "dict") none (.dict #[(fo3 P "__module__" 214 (.str "paritycells.errors" 187)),(fo3 P "__firstlineno__" 218 (.int 4 217)),(fo3 P "__init__" 226 (.ref 41)),(fo3 P "__static_attributes__" 228 (.ref 42)),(fo3 P "__doc__" 229 .none)] 2) #[])
def o27 (P:Params):Obj:=(.mk (.type "type") none (.cls (.mk "NoSize" [(.ref 24)] [(.ref 44),(.ref 24),(.type "ValueError"),(.type "Exception"),(.type "BaseException"),(.type "object")] 43 "NoSize" true [] [] false none false)) #[(some (.ref 28)),none,(some (.str "NoSize" 207)),(some (.str "NoSize" 215)),(some (.builtin "ValueError.__new__")),(some (.bool true))])
def o28 (P:Params):Obj:=(.mk (.type "super") none (.fields #[(.ref 44),(.ref 44),(.ref 44)]) #[])
def o29 (P:Params):Obj:=(.mk (.type "builtin_function_or_method") none (.fields #[(.builtin "object.__init_subclass__"),(.ref 44)]) #[])
def o30 (P:Params):Obj:=(.mk (.type "dict") none (.dict #[(fo3 P "__module__" 239 (.str "paritycells.errors" 187)),(fo3 P "__qualname__" 241 (.str "NoCell" 240)),(fo3 P "__firstlineno__" 243 (.int 9 242)),(fo3 P "__init__" 251 (.ref 60)),(fo3 P "__static_attributes__" 253 (.ref 61))] 5) #[])
def o31 (P:Params):Obj:=(.mk .none none (.fields #[(.int 11 0),(.int 4 0),(.ref 59)]) #[])
def o32 (P:Params):Obj:=fo2 "NoCell" 234 "NoCell" 235 236 9 0 0 0 0 0 0 0 0 0 (.ref 50) false (.ref 51) .none .none .none 237 0 9 0 238
def o33 (P:Params):Obj:=(.mk (.type "frame") none .plain #[(some (.ref 52)),(some (.ref 3)),(some (.ref 49)),none,(some (.str "paritycells.errors" 187)),none,(some (.ref 0))])
def o34 (P:Params):Obj:=(.mk (.type "tuple") none (.seq #[(.str "self" 247),(.str "cell" 248)] 0) #[])
def o35 (P:Params):Obj:=fo0 "__init__" "NoCell.__init__" (clsS 3 0)
def o36 (P:Params):Obj:=fo2 "__init__" 244 "NoCell.__init__" 245 246 11 0 2 0 0 0 0 0 3 0 (.ref 54) true (.ref 55) (.ref 56) (.ref 57) (.ref 58) 249 0 11 0 250
def o37 (P:Params):Obj:=fo1 "__init__" "NoCell.__init__" (clsS 3 0) .none .none .none (.str "paritycells.errors" 187) (.ref 59) .none
def o38 (P:Params):Obj:=(.mk (.type "tuple") none (.seq #[(.str "cell" 252)] 0) #[])
def o39 (P:Params):Obj:=(.mk (.type "dict") none (.dict #[(fo3 P "__module__" 239 (.str "paritycells.errors" 187)),(fo3 P "__firstlineno__" 243 (.int 9 242)),(fo3 P "__init__" 251 (.ref 60)),(fo3 P "__static_attributes__" 253 (.ref 61)),(fo3 P "__doc__" 254 .none)] 2) #[])
def o40 (P:Params):Obj:=(.mk (.type "type") none (.cls (.mk "NoCell" [(.ref 24)] [(.ref 63),(.ref 24),(.type "ValueError"),(.type "Exception"),(.type "BaseException"),(.type "object")] 62 "NoCell" true [] [] false none false)) #[(some (.ref 47)),none,(some (.str "NoCell" 232)),(some (.str "NoCell" 240)),(some (.builtin "ValueError.__new__")),(some (.bool true))])
def o41 (P:Params):Obj:=(.mk (.type "super") none (.fields #[(.ref 63),(.ref 63),(.ref 63)]) #[])
def o42 (P:Params):Obj:=(.mk (.type "builtin_function_or_method") none (.fields #[(.builtin "object.__init_subclass__"),(.ref 63)]) #[])
def o43 (P:Params):Obj:=(.mk (.type "dict") none (.dict #[(fo3 P "__module__" 264 (.str "paritycells.errors" 187)),(fo3 P "__qualname__" 266 (.str "NoCells" 265)),(fo3 P "__firstlineno__" 268 (.int 14 267)),(fo3 P "__init__" 276 (.ref 79)),(fo3 P "__static_attributes__" 278 (.ref 80))] 5) #[])
def o44 (P:Params):Obj:=(.mk .none none (.fields #[(.int 16 0),(.int 4 0),(.ref 78)]) #[])
def o45 (P:Params):Obj:=fo2 "NoCells" 259 "NoCells" 260 261 14 0 0 0 0 0 0 0 0 0 (.ref 69) false (.ref 70) .none .none .none 262 0 14 0 263
def o46 (P:Params):Obj:=(.mk (.type "frame") none .plain #[(some (.ref 71)),(some (.ref 3)),(some (.ref 68)),none,(some (.str "paritycells.errors" 187)),none,(some (.ref 0))])
def o47 (P:Params):Obj:=(.mk (.type "tuple") none (.seq #[(.str "self" 272),(.str "cells" 273)] 0) #[])
def o48 (P:Params):Obj:=fo0 "__init__" "NoCells.__init__" (clsS 4 0)
def o49 (P:Params):Obj:=fo2 "__init__" 269 "NoCells.__init__" 270 271 16 0 2 0 0 0 0 0 3 0 (.ref 73) true (.ref 74) (.ref 75) (.ref 76) (.ref 77) 274 0 16 0 275
def o50 (P:Params):Obj:=fo1 "__init__" "NoCells.__init__" (clsS 4 0) .none .none .none (.str "paritycells.errors" 187) (.ref 78) .none
def o51 (P:Params):Obj:=(.mk (.type "tuple") none (.seq #[(.str "cells" 277)] 0) #[])
def o52 (P:Params):Obj:=(.mk (.type "dict") none (.dict #[(fo3 P "__module__" 264 (.str "paritycells.errors" 187)),(fo3 P "__firstlineno__" 268 (.int 14 267)),(fo3 P "__init__" 276 (.ref 79)),(fo3 P "__static_attributes__" 278 (.ref 80)),(fo3 P "__doc__" 279 .none)] 2) #[])
def o53 (P:Params):Obj:=(.mk (.type "type") none (.cls (.mk "NoCells" [(.ref 24)] [(.ref 82),(.ref 24),(.type "ValueError"),(.type "Exception"),(.type "BaseException"),(.type "object")] 81 "NoCells" true [] [] false none false)) #[(some (.ref 66)),none,(some (.str "NoCells" 257)),(some (.str "NoCells" 265)),(some (.builtin "ValueError.__new__")),(some (.bool true))])
def o54 (P:Params):Obj:=(.mk (.type "super") none (.fields #[(.ref 82),(.ref 82),(.ref 82)]) #[])
def o55 (P:Params):Obj:=(.mk (.type "builtin_function_or_method") none (.fields #[(.builtin "object.__init_subclass__"),(.ref 82)]) #[])
def o56 (P:Params):Obj:=(.mk (.type "dict") none (.dict #[(fo3 P "__module__" 289 (.str "paritycells.errors" 187)),(fo3 P "__qualname__" 291 (.str "NoFlip" 290)),(fo3 P "__firstlineno__" 293 (.int 19 292)),(fo3 P "__init__" 301 (.ref 98)),(fo3 P "__static_attributes__" 303 (.ref 99))] 5) #[])
def o57 (P:Params):Obj:=(.mk .none none (.fields #[(.int 21 0),(.int 4 0),(.ref 97)]) #[])
def o58 (P:Params):Obj:=fo2 "NoFlip" 284 "NoFlip" 285 286 19 0 0 0 0 0 0 0 0 0 (.ref 88) false (.ref 89) .none .none .none 287 0 19 0 288
def o59 (P:Params):Obj:=(.mk (.type "frame") none .plain #[(some (.ref 90)),(some (.ref 3)),(some (.ref 87)),none,(some (.str "paritycells.errors" 187)),none,(some (.ref 0))])
def o60 (P:Params):Obj:=(.mk (.type "tuple") none (.seq #[(.str "self" 297),(.str "why" 298)] 0) #[])
def o61 (P:Params):Obj:=fo0 "__init__" "NoFlip.__init__" (clsS 5 0)
def o62 (P:Params):Obj:=fo2 "__init__" 294 "NoFlip.__init__" 295 296 21 0 2 0 0 0 0 0 3 0 (.ref 92) true (.ref 93) (.ref 94) (.ref 95) (.ref 96) 299 0 21 0 300
def o63 (P:Params):Obj:=fo1 "__init__" "NoFlip.__init__" (clsS 5 0) .none .none .none (.str "paritycells.errors" 187) (.ref 97) .none
def o64 (P:Params):Obj:=(.mk (.type "tuple") none (.seq #[(.str "why" 302)] 0) #[])
def o65 (P:Params):Obj:=(.mk (.type "dict") none (.dict #[(fo3 P "__module__" 289 (.str "paritycells.errors" 187)),(fo3 P "__firstlineno__" 293 (.int 19 292)),(fo3 P "__init__" 301 (.ref 98)),(fo3 P "__static_attributes__" 303 (.ref 99)),(fo3 P "__doc__" 304 .none)] 2) #[])
def o66 (P:Params):Obj:=(.mk (.type "type") none (.cls (.mk "NoFlip" [(.ref 24)] [(.ref 101),(.ref 24),(.type "ValueError"),(.type "Exception"),(.type "BaseException"),(.type "object")] 100 "NoFlip" true [] [] false none false)) #[(some (.ref 85)),none,(some (.str "NoFlip" 282)),(some (.str "NoFlip" 290)),(some (.builtin "ValueError.__new__")),(some (.bool true))])
def o67 (P:Params):Obj:=(.mk (.type "super") none (.fields #[(.ref 101),(.ref 101),(.ref 101)]) #[])
def o68 (P:Params):Obj:=(.mk (.type "builtin_function_or_method") none (.fields #[(.builtin "object.__init_subclass__"),(.ref 101)]) #[])
def o69 (P:Params):Obj:=(.mk (.type "tuple") none (.seq #[(.str "thing" 314),(.str "low" 315),(.str "high" 316)] 0) #[])
def o70 (P:Params):Obj:=fo0 "is_integer_in" "is_integer_in" (topS 8)
def o71 (P:Params):Obj:=fo2 "is_integer_in" 311 "is_integer_in" 312 313 26 0 3 0 0 0 0 0 3 0 (.ref 104) true (.ref 105) (.ref 106) (.ref 107) (.ref 108) 317 0 26 0 318
def o72 (P:Params):Obj:=fo1 "is_integer_in" "is_integer_in" (topS 8) .none .none .none (.str "paritycells.cells" 307) (.ref 109) .none
def o73 (P:Params):Obj:=(.mk (.type "dict") none (.dict #[(fo3 P "size" 320 (.int 40 309))] 1) #[])
def o74 (P:Params):Obj:=(.mk (.type "tuple") none (.seq #[(.str "thing" 324),(.str "size" 325)] 0) #[])
def o75 (P:Params):Obj:=fo0 "is_cell" "is_cell" (topS 9)
def o76 (P:Params):Obj:=fo2 "is_cell" 321 "is_cell" 322 323 28 0 1 0 0 0 1 0 3 0 (.ref 112) true (.ref 113) (.ref 114) (.ref 115) (.ref 116) 326 0 28 0 327
def o77 (P:Params):Obj:=fo1 "is_cell" "is_cell" (topS 9) .none (.ref 111) .none (.str "paritycells.cells" 307) (.ref 117) .none
def o78 (P:Params):Obj:=(.mk (.type "tuple") none (.seq #[(.str "size" 332)] 0) #[])
def o79 (P:Params):Obj:=fo0 "require_size" "require_size" (topS 10)
def o80 (P:Params):Obj:=fo2 "require_size" 329 "require_size" 330 331 30 0 1 0 0 0 0 0 3 0 (.ref 119) true (.ref 120) (.ref 121) (.ref 122) (.ref 123) 333 0 30 0 334
def o81 (P:Params):Obj:=fo1 "require_size" "require_size" (topS 10) .none .none .none (.str "paritycells.cells" 307) (.ref 124) .none
def o82 (P:Params):Obj:=(.mk (.type "tuple") none (.seq #[(.str "cell" 339),(.str "low" 340),(.str "size" 341)] 0) #[])
def o83 (P:Params):Obj:=fo0 "require_cell" "require_cell" (topS 11)
def o84 (P:Params):Obj:=fo2 "require_cell" 336 "require_cell" 337 338 33 0 3 0 0 0 0 0 3 0 (.ref 126) true (.ref 127) (.ref 128) (.ref 129) (.ref 130) 342 0 33 0 343
def o85 (P:Params):Obj:=fo1 "require_cell" "require_cell" (topS 11) .none .none .none (.str "paritycells.cells" 307) (.ref 131) .none
def o86 (P:Params):Obj:=fo0 "mask_of" "mask_of" (topS 12)
def o87 (P:Params):Obj:=fo2 "mask_of" 345 "mask_of" 346 347 36 0 1 0 0 0 0 0 3 0 (.ref 133) true (.ref 134) .none .none (.ref 135) 348 0 36 0 349
def o88 (P:Params):Obj:=fo1 "mask_of" "mask_of" (topS 12) .none .none .none (.str "paritycells.cells" 307) (.ref 136) .none
def o89 (P:Params):Obj:=fo0 "cells_in" "cells_in" (topS 13)
def o90 (P:Params):Obj:=fo2 "cells_in" 351 "cells_in" 352 353 38 0 1 0 0 0 0 0 3 0 (.ref 138) true (.ref 139) .none .none (.ref 140) 354 0 38 0 355
def o91 (P:Params):Obj:=fo1 "cells_in" "cells_in" (topS 13) .none .none .none (.str "paritycells.cells" 307) (.ref 141) .none
def o92 (P:Params):Obj:=(.mk (.type "tuple") none (.seq #[(.str "mask" 360),(.str "rest" 361),(.str "found" 362)] 0) #[])
def o93 (P:Params):Obj:=fo0 "is_odd" "is_odd" (topS 14)
def o94 (P:Params):Obj:=fo2 "is_odd" 357 "is_odd" 358 359 40 0 1 0 0 0 0 0 3 0 (.ref 143) true (.ref 144) (.ref 145) (.ref 146) (.ref 147) 363 0 40 0 364
def o95 (P:Params):Obj:=fo1 "is_odd" "is_odd" (topS 14) .none .none .none (.str "paritycells.cells" 307) (.ref 148) .none
def o96 (P:Params):Obj:=(.mk (.type "dict") none (.dict #[(fo3 P "size" 366 (.int 40 309))] 1) #[])
def o97 (P:Params):Obj:=fo0 "cell_tuple" "cell_tuple" (topS 15)
def o98 (P:Params):Obj:=fo2 "cell_tuple" 367 "cell_tuple" 368 369 46 0 1 0 0 0 1 0 3 0 (.ref 151) true (.ref 152) .none .none (.ref 153) 370 0 46 0 371
def o99 (P:Params):Obj:=fo1 "cell_tuple" "cell_tuple" (topS 15) .none (.ref 150) .none (.str "paritycells.cells" 307) (.ref 154) .none
def o100 (P:Params):Obj:=(.mk (.type "tuple") none (.seq #[(.str "things" 376),(.str "size" 377)] 0) #[])
def o101 (P:Params):Obj:=fo0 "cell_mask" "cell_mask" (topS 16)
def o102 (P:Params):Obj:=fo2 "cell_mask" 373 "cell_mask" 374 375 53 0 2 0 0 0 0 0 3 0 (.ref 156) true (.ref 157) (.ref 158) (.ref 159) (.ref 160) 378 0 53 0 379
def o103 (P:Params):Obj:=fo1 "cell_mask" "cell_mask" (topS 16) .none .none .none (.str "paritycells.cells" 307) (.ref 161) .none
def o104 (P:Params):Obj:=(.mk (.type "dict") none (.dict #[(fo3 P "__name__" 165 (.str "law_paritycells_k13_boards_refused" 491)),(fo3 P "__doc__" 166 .none),(fo3 P "__package__" 167 .none),(fo3 P "__loader__" 168 (.builtin "__main__.__loader__#opaque")),(fo3 P "__spec__" 169 .none),(fo3 P "__annotations__" 170 (.ref 6)),(fo3 P "__builtins__" 171 (.ref 4)),(fo3 P "__file__" 173 (.str "/claim/cut.py" 172)),(fo3 P "__cached__" 174 .none),(fo3 P "CellError" 206 (.ref 24)),(fo3 P "NoSize" 231 (.ref 44)),(fo3 P "NoCell" 256 (.ref 63)),(fo3 P "NoCells" 281 (.ref 82)),(fo3 P "NoFlip" 306 (.ref 101)),(fo3 P "MOST_CELLS" 310 (.int 40 309)),(fo3 P "is_integer_in" 319 (.ref 110)),(fo3 P "is_cell" 328 (.ref 118)),(fo3 P "require_size" 335 (.ref 125)),(fo3 P "require_cell" 344 (.ref 132)),(fo3 P "mask_of" 350 (.ref 137)),(fo3 P "cells_in" 356 (.ref 142)),(fo3 P "is_odd" 365 (.ref 149)),(fo3 P "cell_tuple" 372 (.ref 155)),(fo3 P "cell_mask" 380 (.ref 162)),(fo3 P "Board" 482 (.ref 242)),(fo3 P "board_of" 490 (.ref 253)),(fo3 P "_law_pot" 501 (.ref 260)),(fo3 P "_law_draw" 510 (.ref 267)),(fo3 P "_law_width" 518 (.ref 274)),(fo3 P "_law_spots" 524 (.ref 279)),(fo3 P "_law_bits" 530 (.ref 284)),(fo3 P "_law_up" 536 (.ref 289)),(fo3 P "_law_made" 543 (.ref 296)),(fo3 P "_law_is_so" 551 (.ref 303)),(fo3 P "_law_any_thing" 560 (.ref 310)),(fo3 P "_law_is_int" 569 (.ref 317)),(fo3 P "_law_mixed" 575 (.ref 322)),(fo3 P "_law_are_spots" 581 (.ref 327)),(fo3 P "_law_odd_spots" 591 (.ref 334)),(fo3 P "_law_kind" 599 (.ref 341)),(fo3 P "_law_met" 608 (.ref 348)),(fo3 P "_law_made_right" 619 (.ref 355)),(fo3 P "_law_asked_right" 632 (.ref 362)),(fo3 P "law" 646 (.ref 369))] 44) #[])
def o105 (P:Params):Obj:=(.mk .none none (.fields #[(.int 2 0),(.int 0 0),(.ref 20),(.int 4 0),(.int 0 0),(.ref 33),(.int 9 0),(.int 0 0),(.ref 52),(.int 14 0),(.int 0 0),(.ref 71),(.int 19 0),(.int 0 0),(.ref 90),(.int 26 0),(.int 0 0),(.ref 109),(.int 28 0),(.int 0 0),(.ref 117),(.int 30 0),(.int 0 0),(.ref 124),(.int 33 0),(.int 0 0),(.ref 131),(.int 36 0),(.int 0 0),(.ref 136),(.int 38 0),(.int 0 0),(.ref 141),(.int 40 0),(.int 0 0),(.ref 148),(.int 46 0),(.int 0 0),(.ref 154),(.int 53 0),(.int 0 0),(.ref 161),(.int 56 0),(.int 0 0),(.ref 168),(.int 95 0),(.int 0 0),(.ref 252),(.int 98 0),(.int 0 0),(.ref 259),(.int 101 0),(.int 0 0),(.ref 266),(.int 107 0),(.int 0 0),(.ref 273),(.int 109 0),(.int 0 0),(.ref 278),(.int 118 0),(.int 0 0),(.ref 283),(.int 120 0),(.int 0 0),(.ref 288),(.int 122 0),(.int 0 0),(.ref 295),(.int 124 0),(.int 0 0),(.ref 302),(.int 126 0),(.int 0 0),(.ref 309),(.int 130 0),(.int 0 0),(.ref 316),(.int 132 0),(.int 0 0),(.ref 321),(.int 135 0),(.int 0 0),(.ref 326),(.int 139 0),(.int 0 0),(.ref 333),(.int 153 0),(.int 0 0),(.ref 340),(.int 158 0),(.int 0 0),(.ref 347),(.int 169 0),(.int 0 0),(.ref 354),(.int 176 0),(.int 0 0),(.ref 361),(.int 186 0),(.int 0 0),(.ref 368)]) #[])
def o106 (P:Params):Obj:=(.mk (.type "dict") none (.dict #[(fo3 P "__module__" 390 (.str "paritycells.boards" 381)),(fo3 P "__qualname__" 392 (.str "Board" 391)),(fo3 P "__firstlineno__" 394 (.int 56 393)),(fo3 P "__init__" 404 (.ref 178)),(fo3 P "size" 411 (.ref 185)),(fo3 P "up" 418 (.ref 192)),(fo3 P "is_up" 426 (.ref 199)),(fo3 P "parity" 434 (.ref 206)),(fo3 P "toggled" 443 (.ref 213)),(fo3 P "__eq__" 451 (.ref 220)),(fo3 P "__len__" 458 (.ref 227)),(fo3 P "__repr__" 465 (.ref 234)),(fo3 P "__str__" 471 (.ref 239)),(fo3 P "__static_attributes__" 474 (.ref 240))] 14) #[])
def o107 (P:Params):Obj:=(.mk .none none (.fields #[(.int 58 0),(.int 4 0),(.ref 177),(.int 63 0),(.int 4 0),(.ref 184),(.int 66 0),(.int 4 0),(.ref 191),(.int 69 0),(.int 4 0),(.ref 198),(.int 73 0),(.int 4 0),(.ref 205),(.int 76 0),(.int 4 0),(.ref 212),(.int 82 0),(.int 4 0),(.ref 219),(.int 87 0),(.int 4 0),(.ref 226),(.int 90 0),(.int 4 0),(.ref 233),(.int 93 0),(.int 4 0),(.ref 238)]) #[])
def o108 (P:Params):Obj:=fo2 "Board" 385 "Board" 386 387 56 0 0 0 0 0 0 0 0 0 (.ref 166) false (.ref 167) .none .none .none 388 0 56 0 389
def o109 (P:Params):Obj:=(.mk (.type "frame") none .plain #[(some (.ref 168)),(some (.ref 3)),(some (.ref 165)),none,(some (.str "paritycells.boards" 381)),none,(some (.ref 0))])
def o110 (P:Params):Obj:=(.mk (.type "dict") none (.dict #[(fo3 P "up" 395 (.ref 170))] 1) #[])
def o111 (P:Params):Obj:=(.mk (.type "tuple") none (.seq #[(.str "self" 399),(.str "size" 400),(.str "up" 401)] 0) #[])
def o112 (P:Params):Obj:=fo0 "__init__" "Board.__init__" (clsS 18 0)
def o113 (P:Params):Obj:=fo2 "__init__" 396 "Board.__init__" 397 398 58 0 2 0 0 0 1 0 3 0 (.ref 172) true (.ref 173) (.ref 174) (.ref 175) (.ref 176) 402 0 58 0 403
def o114 (P:Params):Obj:=fo1 "__init__" "Board.__init__" (clsS 18 0) .none (.ref 171) .none (.str "paritycells.boards" 381) (.ref 177) .none
def o115 (P:Params):Obj:=(.mk (.type "tuple") none (.seq #[(.str "self" 408)] 0) #[])
def o116 (P:Params):Obj:=fo0 "size" "Board.size" (clsS 18 1)
def o117 (P:Params):Obj:=fo2 "size" 405 "Board.size" 406 407 63 0 1 0 0 0 0 0 3 0 (.ref 179) true (.ref 180) (.ref 181) (.ref 182) (.ref 183) 409 0 63 0 410
def o118 (P:Params):Obj:=fo1 "size" "Board.size" (clsS 18 1) .none .none .none (.str "paritycells.boards" 381) (.ref 184) .none
def o119 (P:Params):Obj:=(.mk (.type "tuple") none (.seq #[(.str "self" 415)] 0) #[])
def o120 (P:Params):Obj:=fo0 "up" "Board.up" (clsS 18 2)
def o121 (P:Params):Obj:=fo2 "up" 412 "Board.up" 413 414 66 0 1 0 0 0 0 0 3 0 (.ref 186) true (.ref 187) (.ref 188) (.ref 189) (.ref 190) 416 0 66 0 417
def o122 (P:Params):Obj:=fo1 "up" "Board.up" (clsS 18 2) .none .none .none (.str "paritycells.boards" 381) (.ref 191) .none
def o123 (P:Params):Obj:=(.mk (.type "tuple") none (.seq #[(.str "self" 422),(.str "cell" 423)] 0) #[])
def o124 (P:Params):Obj:=fo0 "is_up" "Board.is_up" (clsS 18 3)
def o125 (P:Params):Obj:=fo2 "is_up" 419 "Board.is_up" 420 421 69 0 2 0 0 0 0 0 3 0 (.ref 193) true (.ref 194) (.ref 195) (.ref 196) (.ref 197) 424 0 69 0 425
def o126 (P:Params):Obj:=fo1 "is_up" "Board.is_up" (clsS 18 3) .none .none .none (.str "paritycells.boards" 381) (.ref 198) .none
def o127 (P:Params):Obj:=(.mk (.type "tuple") none (.seq #[(.str "self" 430),(.str "cells" 431)] 0) #[])
def o128 (P:Params):Obj:=fo0 "parity" "Board.parity" (clsS 18 4)
def o129 (P:Params):Obj:=fo2 "parity" 427 "Board.parity" 428 429 73 0 2 0 0 0 0 0 3 0 (.ref 200) true (.ref 201) (.ref 202) (.ref 203) (.ref 204) 432 0 73 0 433
def o130 (P:Params):Obj:=fo1 "parity" "Board.parity" (clsS 18 4) .none .none .none (.str "paritycells.boards" 381) (.ref 205) .none
def o131 (P:Params):Obj:=(.mk (.type "tuple") none (.seq #[(.str "self" 438),(.str "cells" 439),(.str "changed" 440)] 0) #[])
def o132 (P:Params):Obj:=fo0 "toggled" "Board.toggled" (clsS 18 5)
def o133 (P:Params):Obj:=fo2 "toggled" 435 "Board.toggled" 436 437 76 0 2 0 0 0 0 0 3 0 (.ref 207) true (.ref 208) (.ref 209) (.ref 210) (.ref 211) 441 0 76 0 442
def o134 (P:Params):Obj:=fo1 "toggled" "Board.toggled" (clsS 18 5) .none .none .none (.str "paritycells.boards" 381) (.ref 212) .none
def o135 (P:Params):Obj:=(.mk (.type "tuple") none (.seq #[(.str "self" 447),(.str "other" 448)] 0) #[])
def o136 (P:Params):Obj:=fo0 "__eq__" "Board.__eq__" (clsS 18 6)
def o137 (P:Params):Obj:=fo2 "__eq__" 444 "Board.__eq__" 445 446 82 0 2 0 0 0 0 0 3 0 (.ref 214) true (.ref 215) (.ref 216) (.ref 217) (.ref 218) 449 0 82 0 450
def o138 (P:Params):Obj:=fo1 "__eq__" "Board.__eq__" (clsS 18 6) .none .none .none (.str "paritycells.boards" 381) (.ref 219) .none
def o139 (P:Params):Obj:=(.mk (.type "tuple") none (.seq #[(.str "self" 455)] 0) #[])
def o140 (P:Params):Obj:=fo0 "__len__" "Board.__len__" (clsS 18 7)
def o141 (P:Params):Obj:=fo2 "__len__" 452 "Board.__len__" 453 454 87 0 1 0 0 0 0 0 3 0 (.ref 221) true (.ref 222) (.ref 223) (.ref 224) (.ref 225) 456 0 87 0 457
def o142 (P:Params):Obj:=fo1 "__len__" "Board.__len__" (clsS 18 7) .none .none .none (.str "paritycells.boards" 381) (.ref 226) .none
def o143 (P:Params):Obj:=(.mk (.type "tuple") none (.seq #[(.str "self" 462)] 0) #[])
def o144 (P:Params):Obj:=fo0 "__repr__" "Board.__repr__" (clsS 18 8)
def o145 (P:Params):Obj:=fo2 "__repr__" 459 "Board.__repr__" 460 461 90 0 1 0 0 0 0 0 3 0 (.ref 228) true (.ref 229) (.ref 230) (.ref 231) (.ref 232) 463 0 90 0 464
def o146 (P:Params):Obj:=fo1 "__repr__" "Board.__repr__" (clsS 18 8) .none .none .none (.str "paritycells.boards" 381) (.ref 233) .none
def o147 (P:Params):Obj:=fo0 "__str__" "Board.__str__" (clsS 18 9)
def o148 (P:Params):Obj:=fo2 "__str__" 466 "Board.__str__" 467 468 93 0 1 0 0 0 0 0 3 0 (.ref 235) true (.ref 236) .none .none (.ref 237) 469 0 93 0 470
def o149 (P:Params):Obj:=fo1 "__str__" "Board.__str__" (clsS 18 9) .none .none .none (.str "paritycells.boards" 381) (.ref 238) .none
def o150 (P:Params):Obj:=(.mk (.type "tuple") none (.seq #[(.str "own_size" 472),(.str "up_mask" 473)] 0) #[])
def o151 (P:Params):Obj:=(.mk (.type "dict") none (.dict #[(fo3 P "__module__" 390 (.str "paritycells.boards" 381)),(fo3 P "__firstlineno__" 394 (.int 56 393)),(fo3 P "__init__" 404 (.ref 178)),(fo3 P "size" 411 (.ref 185)),(fo3 P "up" 418 (.ref 192)),(fo3 P "is_up" 426 (.ref 199)),(fo3 P "parity" 434 (.ref 206)),(fo3 P "toggled" 443 (.ref 213)),(fo3 P "__eq__" 451 (.ref 220)),(fo3 P "__len__" 458 (.ref 227)),(fo3 P "__repr__" 465 (.ref 234)),(fo3 P "__str__" 471 (.ref 239)),(fo3 P "__static_attributes__" 474 (.ref 240)),(fo3 P "__dict__" 476 (.ref 243)),(fo3 P "__weakref__" 478 (.ref 244)),(fo3 P "__doc__" 479 .none),(fo3 P "__hash__" 480 .none)] 5) #[])
def o152 (P:Params):Obj:=(.mk (.type "type") none (.cls (.mk "Board" [(.type "object")] [(.ref 242),(.type "object")] 241 "Board" true [] [] false none false)) #[none,none,(some (.str "Board" 383)),(some (.str "Board" 391)),(some (.builtin "object.__new__")),(some (.bool true))])
def o153 (P:Params):Obj:=(.mk (.type "getset_descriptor") none (.fields #[(.str "__dict__" 475),(.ref 242),(.builtin "function.__dict__"),(.builtin "function.__dict__#set")]) #[])
def o154 (P:Params):Obj:=(.mk (.type "getset_descriptor") none (.fields #[(.str "__weakref__" 477),(.ref 242),(.builtin "ExceptionGroup.__weakref__"),.none]) #[])
def o155 (P:Params):Obj:=(.mk (.type "super") none (.fields #[(.ref 242),(.ref 242),(.ref 242)]) #[])
def o156 (P:Params):Obj:=(.mk (.type "builtin_function_or_method") none (.fields #[(.builtin "object.__init_subclass__"),(.ref 242)]) #[])
def o157 (P:Params):Obj:=(.mk (.type "tuple") none (.seq #[(.str "size" 486),(.str "mask" 487)] 0) #[])
def o158 (P:Params):Obj:=fo0 "board_of" "board_of" (topS 19)
def o159 (P:Params):Obj:=fo2 "board_of" 483 "board_of" 484 485 95 0 2 0 0 0 0 0 3 0 (.ref 247) true (.ref 248) (.ref 249) (.ref 250) (.ref 251) 488 0 95 0 489
def o160 (P:Params):Obj:=fo1 "board_of" "board_of" (topS 19) .none .none .none (.str "paritycells.boards" 381) (.ref 252) .none
def o161 (P:Params):Obj:=(.mk (.type "tuple") none (.seq #[(.str "_law_script" 496),(.str "_law_k" 497),(.str "_law_digits" 498)] 0) #[])
def o162 (P:Params):Obj:=fo0 "_law_pot" "_law_pot" (topS 21)
def o163 (P:Params):Obj:=fo2 "_law_pot" 493 "_law_pot" 494 495 98 0 2 0 0 0 0 0 3 0 (.ref 254) true (.ref 255) (.ref 256) (.ref 257) (.ref 258) 499 0 98 0 500
def o164 (P:Params):Obj:=fo1 "_law_pot" "_law_pot" (topS 21) .none .none .none (.str "law_paritycells_k13_boards_refused" 491) (.ref 259) .none
def o165 (P:Params):Obj:=(.mk (.type "tuple") none (.seq #[(.str "_law_pot_here" 505),(.str "_law_many" 506),(.str "_law_digit" 507)] 0) #[])
def o166 (P:Params):Obj:=fo0 "_law_draw" "_law_draw" (topS 22)
def o167 (P:Params):Obj:=fo2 "_law_draw" 502 "_law_draw" 503 504 101 0 2 0 0 0 0 0 3 0 (.ref 261) true (.ref 262) (.ref 263) (.ref 264) (.ref 265) 508 0 101 0 509
def o168 (P:Params):Obj:=fo1 "_law_draw" "_law_draw" (topS 22) .none .none .none (.str "law_paritycells_k13_boards_refused" 491) (.ref 266) .none
def o169 (P:Params):Obj:=(.mk (.type "tuple") none (.seq #[(.str "_law_pot_here" 514),(.str "_law_most" 515)] 0) #[])
def o170 (P:Params):Obj:=fo0 "_law_width" "_law_width" (topS 23)
def o171 (P:Params):Obj:=fo2 "_law_width" 511 "_law_width" 512 513 107 0 2 0 0 0 0 0 3 0 (.ref 268) true (.ref 269) (.ref 270) (.ref 271) (.ref 272) 516 0 107 0 517
def o172 (P:Params):Obj:=fo1 "_law_width" "_law_width" (topS 23) .none .none .none (.str "law_paritycells_k13_boards_refused" 491) (.ref 273) .none
def o173 (P:Params):Obj:=fo0 "_law_spots" "_law_spots" (topS 24)
def o174 (P:Params):Obj:=fo2 "_law_spots" 519 "_law_spots" 520 521 109 0 3 0 0 0 0 0 3 0 (.ref 275) true (.ref 276) .none .none (.ref 277) 522 0 109 0 523
def o175 (P:Params):Obj:=fo1 "_law_spots" "_law_spots" (topS 24) .none .none .none (.str "law_paritycells_k13_boards_refused" 491) (.ref 278) .none
def o176 (P:Params):Obj:=fo0 "_law_bits" "_law_bits" (topS 25)
def o177 (P:Params):Obj:=fo2 "_law_bits" 525 "_law_bits" 526 527 118 0 2 0 0 0 0 0 3 0 (.ref 280) true (.ref 281) .none .none (.ref 282) 528 0 118 0 529
def o178 (P:Params):Obj:=fo1 "_law_bits" "_law_bits" (topS 25) .none .none .none (.str "law_paritycells_k13_boards_refused" 491) (.ref 283) .none
def o179 (P:Params):Obj:=fo0 "_law_up" "_law_up" (topS 26)
def o180 (P:Params):Obj:=fo2 "_law_up" 531 "_law_up" 532 533 120 0 1 0 0 0 0 0 3 0 (.ref 285) true (.ref 286) .none .none (.ref 287) 534 0 120 0 535
def o181 (P:Params):Obj:=fo1 "_law_up" "_law_up" (topS 26) .none .none .none (.str "law_paritycells_k13_boards_refused" 491) (.ref 288) .none
def o182 (P:Params):Obj:=(.mk (.type "tuple") none (.seq #[(.str "_law_bits_here" 540)] 0) #[])
def o183 (P:Params):Obj:=fo0 "_law_made" "_law_made" (topS 27)
def o184 (P:Params):Obj:=fo2 "_law_made" 537 "_law_made" 538 539 122 0 1 0 0 0 0 0 3 0 (.ref 290) true (.ref 291) (.ref 292) (.ref 293) (.ref 294) 541 0 122 0 542
def o185 (P:Params):Obj:=fo1 "_law_made" "_law_made" (topS 27) .none .none .none (.str "law_paritycells_k13_boards_refused" 491) (.ref 295) .none
def o186 (P:Params):Obj:=(.mk (.type "tuple") none (.seq #[(.str "_law_found" 547),(.str "_law_bits_here" 548)] 0) #[])
def o187 (P:Params):Obj:=fo0 "_law_is_so" "_law_is_so" (topS 28)
def o188 (P:Params):Obj:=fo2 "_law_is_so" 544 "_law_is_so" 545 546 124 0 2 0 0 0 0 0 3 0 (.ref 297) true (.ref 298) (.ref 299) (.ref 300) (.ref 301) 549 0 124 0 550
def o189 (P:Params):Obj:=fo1 "_law_is_so" "_law_is_so" (topS 28) .none .none .none (.str "law_paritycells_k13_boards_refused" 491) (.ref 302) .none
def o190 (P:Params):Obj:=(.mk (.type "tuple") none (.seq #[(.str "_law_pot_here" 555),(.str "_law_far" 556),(.str "_law_some" 557)] 0) #[])
def o191 (P:Params):Obj:=fo0 "_law_any_thing" "_law_any_thing" (topS 29)
def o192 (P:Params):Obj:=fo2 "_law_any_thing" 552 "_law_any_thing" 553 554 126 0 1 0 0 0 0 0 3 0 (.ref 304) true (.ref 305) (.ref 306) (.ref 307) (.ref 308) 558 0 126 0 559
def o193 (P:Params):Obj:=fo1 "_law_any_thing" "_law_any_thing" (topS 29) .none .none .none (.str "law_paritycells_k13_boards_refused" 491) (.ref 309) .none
def o194 (P:Params):Obj:=(.mk (.type "tuple") none (.seq #[(.str "_law_item" 564),(.str "_law_low" 565),(.str "_law_high" 566)] 0) #[])
def o195 (P:Params):Obj:=fo0 "_law_is_int" "_law_is_int" (topS 30)
def o196 (P:Params):Obj:=fo2 "_law_is_int" 561 "_law_is_int" 562 563 130 0 3 0 0 0 0 0 3 0 (.ref 311) true (.ref 312) (.ref 313) (.ref 314) (.ref 315) 567 0 130 0 568
def o197 (P:Params):Obj:=fo1 "_law_is_int" "_law_is_int" (topS 30) .none .none .none (.str "law_paritycells_k13_boards_refused" 491) (.ref 316) .none
def o198 (P:Params):Obj:=fo0 "_law_mixed" "_law_mixed" (topS 31)
def o199 (P:Params):Obj:=fo2 "_law_mixed" 570 "_law_mixed" 571 572 132 0 2 0 0 0 0 0 3 0 (.ref 318) true (.ref 319) .none .none (.ref 320) 573 0 132 0 574
def o200 (P:Params):Obj:=fo1 "_law_mixed" "_law_mixed" (topS 31) .none .none .none (.str "law_paritycells_k13_boards_refused" 491) (.ref 321) .none
def o201 (P:Params):Obj:=fo0 "_law_are_spots" "_law_are_spots" (topS 32)
def o202 (P:Params):Obj:=fo2 "_law_are_spots" 576 "_law_are_spots" 577 578 135 0 3 0 0 0 0 0 3 0 (.ref 323) true (.ref 324) .none .none (.ref 325) 579 0 135 0 580
def o203 (P:Params):Obj:=fo1 "_law_are_spots" "_law_are_spots" (topS 32) .none .none .none (.str "law_paritycells_k13_boards_refused" 491) (.ref 326) .none
def o204 (P:Params):Obj:=(.mk (.type "tuple") none (.seq #[(.str "_law_pot_here" 585),(.str "_law_width_here" 586),(.str "_law_spots_here" 587),(.str "_law_way" 588)] 0) #[])
def o205 (P:Params):Obj:=fo0 "_law_odd_spots" "_law_odd_spots" (topS 33)
def o206 (P:Params):Obj:=fo2 "_law_odd_spots" 582 "_law_odd_spots" 583 584 139 0 2 0 0 0 0 0 3 0 (.ref 328) true (.ref 329) (.ref 330) (.ref 331) (.ref 332) 589 0 139 0 590
def o207 (P:Params):Obj:=fo1 "_law_odd_spots" "_law_odd_spots" (topS 33) .none .none .none (.str "law_paritycells_k13_boards_refused" 491) (.ref 333) .none
def o208 (P:Params):Obj:=(.mk (.type "tuple") none (.seq #[(.str "_law_e" 595),(.str "_law_found" 596)] 0) #[])
def o209 (P:Params):Obj:=fo0 "_law_kind" "_law_kind" (topS 34)
def o210 (P:Params):Obj:=fo2 "_law_kind" 592 "_law_kind" 593 594 153 0 1 0 0 0 0 0 3 0 (.ref 335) true (.ref 336) (.ref 337) (.ref 338) (.ref 339) 597 0 153 0 598
def o211 (P:Params):Obj:=fo1 "_law_kind" "_law_kind" (topS 34) .none .none .none (.str "law_paritycells_k13_boards_refused" 491) (.ref 340) .none
def o212 (P:Params):Obj:=(.mk (.type "tuple") none (.seq #[(.str "_law_call" 603),(.str "_law_told" 604),(.str "_law_e" 605)] 0) #[])
def o213 (P:Params):Obj:=fo0 "_law_met" "_law_met" (topS 35)
def o214 (P:Params):Obj:=fo2 "_law_met" 600 "_law_met" 601 602 158 0 1 0 0 0 0 0 3 0 (.ref 342) true (.ref 343) (.ref 344) (.ref 345) (.ref 346) 606 0 158 0 607
def o215 (P:Params):Obj:=fo1 "_law_met" "_law_met" (topS 35) .none .none .none (.str "law_paritycells_k13_boards_refused" 491) (.ref 347) .none
def o216 (P:Params):Obj:=(.mk (.type "tuple") none (.seq #[(.str "_law_thing" 612),(.str "_law_spots_here" 613),(.str "_law_due" 614)] 0) #[])
def o217 (P:Params):Obj:=(.mk (.type "tuple") none (.seq #[(.str "_law_thing" 615),(.str "_law_spots_here" 616)] 0) #[])
def o218 (P:Params):Obj:=fo0 "_law_made_right" "_law_made_right" (topS 36)
def o219 (P:Params):Obj:=fo2 "_law_made_right" 609 "_law_made_right" 610 611 169 0 2 0 0 0 0 0 3 0 (.ref 349) true (.ref 350) (.ref 351) (.ref 352) (.ref 353) 617 0 169 0 618
def o220 (P:Params):Obj:=fo1 "_law_made_right" "_law_made_right" (topS 36) .none .none .none (.str "law_paritycells_k13_boards_refused" 491) (.ref 354) .none
def o221 (P:Params):Obj:=(.mk (.type "tuple") none (.seq #[(.str "_law_pot_here" 623),(.str "_law_board" 624),(.str "_law_width_here" 625),(.str "_law_due" 626)] 0) #[])
def o222 (P:Params):Obj:=(.mk (.type "tuple") none (.seq #[(.str "_law_board" 627),(.str "_law_spots_here" 628),(.str "_law_thing" 629)] 0) #[])
def o223 (P:Params):Obj:=fo0 "_law_asked_right" "_law_asked_right" (topS 37)
def o224 (P:Params):Obj:=fo2 "_law_asked_right" 620 "_law_asked_right" 621 622 176 0 3 0 0 0 0 0 3 0 (.ref 356) true (.ref 357) (.ref 358) (.ref 359) (.ref 360) 630 0 176 0 631
def o225 (P:Params):Obj:=fo1 "_law_asked_right" "_law_asked_right" (topS 37) .none .none .none (.str "law_paritycells_k13_boards_refused" 491) (.ref 361) .none
def o226 (P:Params):Obj:=(.mk (.type "tuple") none (.seq #[(.str "_law_script" 636),(.str "_law_k" 637),(.str "_law_pot_here" 638),(.str "_law_width_here" 639),(.str "_law_bits_here" 640),(.str "_law_board" 641),(.str "_law_turn" 642),(.str "_law_thing" 643)] 0) #[])
def o227 (P:Params):Obj:=fo0 "law" "law" (topS 38)
def o228 (P:Params):Obj:=fo2 "law" 633 "law" 634 635 186 0 1 0 0 0 0 0 3 0 (.ref 363) true (.ref 364) (.ref 365) (.ref 366) (.ref 367) 644 0 186 0 645
def o229 (P:Params):Obj:=fo1 "law" "law" (topS 38) .none .none .none (.str "law_paritycells_k13_boards_refused" 491) (.ref 368) .none
def hA (P:Params):Heap:=⟨⟨[PySem.W.boot_o_0 P,PySem.W.boot_o_1 P,PySem.W.boot_o_2 P,PySem.W.boot_o_3 P,PySem.W.boot_o_4 P,PySem.W.boot_o_5 P,PySem.W.boot_o_6 P,PySem.W.boot_o_7 P,PySem.W.boot_o_8 P,PySem.W.boot_o_9 P,PySem.W.boot_o_10 P,o0 P,o1 P,o2 P,o3 P]⟩,(.mk [] [] [] 0 [] [] false #[] [] 0 false false false 0 [2000,10,10] false 0 true [] [] 0 false)⟩
def sA (w:World) (os:OsState):Shared:=⟨hA w.params,⟨[]⟩,(.mk 0 0 0 0),187,os⟩
def t0 (P:Params):BT:=(nd (PySem.W.boot_o_0 P) (nd (PySem.W.boot_o_1 P) (nd (PySem.W.boot_o_3 P) (lf (PySem.W.boot_o_7 P)) (lf (o0 P))) (nd (PySem.W.boot_o_5 P) (lf (PySem.W.boot_o_9 P)) (lf (o2 P)))) (nd (PySem.W.boot_o_2 P) (nd (PySem.W.boot_o_4 P) (lf (PySem.W.boot_o_8 P)) (lf (o1 P))) (nd (PySem.W.boot_o_6 P) (lf (PySem.W.boot_o_10 P)) (lf (o3 P)))))
def s0 (w:World) (os:OsState):SharedT:=⟨t0 w.params,15,(.mk [] [] [] 0 [] [] false #[] [] 0 false false false 0 [2000,10,10] false 0 true [] [] 0 false),⟨[]⟩,(.mk 0 0 0 0),187,os⟩
def t1 (P:Params):BT:=(nd (PySem.W.boot_o_0 P) (nd (PySem.W.boot_o_1 P) (nd (o4 P) (nd (PySem.W.boot_o_7 P) (nd (o6 P) (nd (o0 P) (nd (o40 P) (lf (o1 P)) nl) (nd (o0 P) (lf (o0 P)) nl)) (nd (o16 P) (nd (o50 P) (lf (o0 P)) nl) (lf (o73 P)))) (nd (o11 P) (nd (o22 P) (nd (o45 P) (lf (o86 P)) nl) (lf (o68 P))) (nd (o1 P) (nd (o56 P) (lf (o0 P)) nl) (lf (o0 P))))) (nd (o0 P) (nd (o1 P) (nd (o0 P) (nd (o7 P) (lf (o84 P)) nl) (lf (o64 P))) (nd (o31 P) (nd (o54 P) (lf (o93 P)) nl) (lf (o0 P)))) (nd (o15 P) (nd (o26 P) (nd (o47 P) (lf (o1 P)) nl) (lf (o0 P))) (nd (o36 P) (nd (o59 P) (lf (o99 P)) nl) (lf (o79 P)))))) (nd (PySem.W.boot_o_5 P) (nd (PySem.W.boot_o_9 P) (nd (o8 P) (nd (o19 P) (nd (o42 P) (lf (o0 P)) nl) (nd (o62 P) (lf (o102 P)) nl)) (nd (o30 P) (nd (o52 P) (lf (o92 P)) nl) (lf (o1 P)))) (nd (o13 P) (nd (o24 P) (nd (o0 P) (lf (o88 P)) nl) (lf (o1 P))) (nd (o0 P) (nd (o57 P) (lf (o97 P)) nl) (lf (o78 P))))) (nd (o2 P) (nd (o10 P) (nd (o21 P) (nd (o0 P) (lf (o0 P)) nl) (lf (o66 P))) (nd (o33 P) (nd (o16 P) (lf (o95 P)) nl) (lf (o76 P)))) (nd (o7 P) (nd (o28 P) (nd (o48 P) (lf (o90 P)) nl) (lf (o71 P))) (nd (o38 P) (nd (o1 P) (lf (o1 P)) nl) (lf (o81 P))))))) (nd (PySem.W.boot_o_2 P) (nd (PySem.W.boot_o_4 P) (nd (PySem.W.boot_o_8 P) (nd (o7 P) (nd (o18 P) (nd (o41 P) (lf (o82 P)) nl) (nd (o61 P) (lf (o101 P)) nl)) (nd (o7 P) (nd (o51 P) (lf (o1 P)) nl) (lf (o0 P)))) (nd (o12 P) (nd (o23 P) (nd (o46 P) (lf (o87 P)) nl) (lf (o0 P))) (nd (o34 P) (nd (o0 P) (lf (o1 P)) nl) (lf (o1 P))))) (nd (o5 P) (nd (o9 P) (nd (o1 P) (nd (o43 P) (lf (o85 P)) nl) (lf (o65 P))) (nd (o32 P) (nd (o55 P) (lf (o94 P)) nl) (lf (o75 P)))) (nd (o16 P) (nd (o27 P) (nd (o0 P) (lf (o89 P)) nl) (lf (o70 P))) (nd (o37 P) (nd (o0 P) (lf (o0 P)) nl) (lf (o80 P)))))) (nd (PySem.W.boot_o_6 P) (nd (PySem.W.boot_o_10 P) (nd (o0 P) (nd (o20 P) (nd (o16 P) (lf (o83 P)) nl) (nd (o63 P) (lf (o103 P)) nl)) (nd (o0 P) (nd (o53 P) (lf (o0 P)) nl) (lf (o74 P)))) (nd (o14 P) (nd (o25 P) (nd (o1 P) (lf (o0 P)) nl) (lf (o69 P))) (nd (o35 P) (nd (o58 P) (lf (o98 P)) nl) (lf (o0 P))))) (nd (o3 P) (nd (o0 P) (nd (o0 P) (nd (o44 P) (lf (o1 P)) nl) (lf (o67 P))) (nd (o0 P) (nd (o7 P) (lf (o96 P)) nl) (lf (o77 P)))) (nd (o17 P) (nd (o29 P) (nd (o49 P) (lf (o91 P)) nl) (lf (o72 P))) (nd (o39 P) (nd (o60 P) (lf (o100 P)) nl) (lf (o0 P))))))))
def s1 (w:World) (os:OsState):SharedT:=⟨t1 w.params,163,(.mk [] [] [] 0 [] [] false #[] [] 0 false false false 0 [2000,10,10] false 0 true [] [] 0 false),⟨[]⟩,(.mk 0 0 0 0),383,os⟩
def t2 (P:Params):BT:=(nd (PySem.W.boot_o_0 P) (nd (PySem.W.boot_o_1 P) (nd (o104 P) (nd (PySem.W.boot_o_7 P) (nd (o6 P) (nd (o0 P) (nd (o40 P) (nd (o1 P) (lf (o1 P)) nl) (nd (o121 P) (lf (o1 P)) nl)) (nd (o0 P) (nd (o0 P) (lf (o179 P)) nl) (nd (o139 P) (lf (o216 P)) nl))) (nd (o16 P) (nd (o50 P) (nd (o0 P) (lf (o0 P)) nl) (nd (o0 P) (lf (o0 P)) nl)) (nd (o73 P) (nd (o0 P) (lf (o189 P)) nl) (nd (o149 P) (lf (o227 P)) nl)))) (nd (o11 P) (nd (o22 P) (nd (o45 P) (nd (o86 P) (lf (o165 P)) nl) (nd (o126 P) (lf (o203 P)) nl)) (nd (o68 P) (nd (o107 P) (lf (o184 P)) nl) (nd (o0 P) (lf (o222 P)) nl))) (nd (o1 P) (nd (o56 P) (nd (o0 P) (lf (o175 P)) nl) (nd (o1 P) (lf (o1 P)) nl)) (nd (o0 P) (nd (o116 P) (lf (o0 P)) nl) (lf (o0 P)))))) (nd (o0 P) (nd (o1 P) (nd (o0 P) (nd (o7 P) (nd (o84 P) (lf (o163 P)) nl) (nd (o123 P) (lf (o0 P)) nl)) (nd (o64 P) (nd (o0 P) (lf (o1 P)) nl) (nd (o142 P) (lf (o220 P)) nl))) (nd (o31 P) (nd (o54 P) (nd (o93 P) (lf (o0 P)) nl) (nd (o132 P) (lf (o209 P)) nl)) (nd (o0 P) (nd (o0 P) (lf (o0 P)) nl) (lf (o153 P))))) (nd (o15 P) (nd (o26 P) (nd (o47 P) (nd (o1 P) (lf (o168 P)) nl) (nd (o0 P) (lf (o0 P)) nl)) (nd (o0 P) (nd (o110 P) (lf (o186 P)) nl) (nd (o0 P) (lf (o0 P)) nl))) (nd (o36 P) (nd (o59 P) (nd (o99 P) (lf (o177 P)) nl) (nd (o137 P) (lf (o214 P)) nl)) (nd (o79 P) (nd (o1 P) (lf (o195 P)) nl) (lf (o158 P))))))) (nd (PySem.W.boot_o_5 P) (nd (PySem.W.boot_o_9 P) (nd (o8 P) (nd (o19 P) (nd (o42 P) (nd (o0 P) (lf (o0 P)) nl) (nd (o0 P) (lf (o199 P)) nl)) (nd (o62 P) (nd (o102 P) (lf (o181 P)) nl) (nd (o140 P) (lf (o218 P)) nl))) (nd (o30 P) (nd (o52 P) (nd (o92 P) (lf (o171 P)) nl) (nd (o131 P) (lf (o208 P)) nl)) (nd (o1 P) (nd (o113 P) (lf (o1 P)) nl) (nd (o151 P) (lf (o229 P)) nl)))) (nd (o13 P) (nd (o24 P) (nd (o0 P) (nd (o88 P) (lf (o166 P)) nl) (nd (o1 P) (lf (o1 P)) nl)) (nd (o1 P) (nd (o109 P) (lf (o0 P)) nl) (nd (o145 P) (lf (o224 P)) nl))) (nd (o0 P) (nd (o57 P) (nd (o97 P) (lf (o1 P)) nl) (nd (o0 P) (lf (o0 P)) nl)) (nd (o78 P) (nd (o118 P) (lf (o194 P)) nl) (lf (o157 P)))))) (nd (o2 P) (nd (o10 P) (nd (o21 P) (nd (o0 P) (nd (o0 P) (lf (o0 P)) nl) (nd (o124 P) (lf (o201 P)) nl)) (nd (o66 P) (nd (o106 P) (lf (o0 P)) nl) (nd (o1 P) (lf (o1 P)) nl))) (nd (o33 P) (nd (o16 P) (nd (o95 P) (lf (o173 P)) nl) (nd (o134 P) (lf (o211 P)) nl)) (nd (o76 P) (nd (o115 P) (lf (o192 P)) nl) (lf (o155 P))))) (nd (o7 P) (nd (o28 P) (nd (o48 P) (nd (o90 P) (lf (o1 P)) nl) (nd (o129 P) (lf (o206 P)) nl)) (nd (o71 P) (nd (o1 P) (lf (o187 P)) nl) (nd (o147 P) (lf (o226 P)) nl))) (nd (o38 P) (nd (o1 P) (nd (o1 P) (lf (o0 P)) nl) (nd (o0 P) (lf (o0 P)) nl)) (nd (o81 P) (nd (o0 P) (lf (o197 P)) nl) (lf (o160 P)))))))) (nd (PySem.W.boot_o_2 P) (nd (PySem.W.boot_o_4 P) (nd (PySem.W.boot_o_8 P) (nd (o7 P) (nd (o18 P) (nd (o41 P) (nd (o82 P) (lf (o161 P)) nl) (nd (o122 P) (lf (o198 P)) nl)) (nd (o61 P) (nd (o101 P) (lf (o180 P)) nl) (nd (o0 P) (lf (o217 P)) nl))) (nd (o7 P) (nd (o51 P) (nd (o1 P) (lf (o170 P)) nl) (nd (o1 P) (lf (o1 P)) nl)) (nd (o0 P) (nd (o112 P) (lf (o0 P)) nl) (nd (o150 P) (lf (o228 P)) nl)))) (nd (o12 P) (nd (o23 P) (nd (o46 P) (nd (o87 P) (lf (o0 P)) nl) (nd (o0 P) (lf (o0 P)) nl)) (nd (o0 P) (nd (o108 P) (lf (o185 P)) nl) (nd (o144 P) (lf (o223 P)) nl))) (nd (o34 P) (nd (o0 P) (nd (o1 P) (lf (o0 P)) nl) (nd (o135 P) (lf (o212 P)) nl)) (nd (o1 P) (nd (o117 P) (lf (o1 P)) nl) (lf (o1 P)))))) (nd (o105 P) (nd (o9 P) (nd (o1 P) (nd (o43 P) (nd (o85 P) (lf (o164 P)) nl) (nd (o0 P) (lf (o1 P)) nl)) (nd (o65 P) (nd (o7 P) (lf (o182 P)) nl) (nd (o0 P) (lf (o0 P)) nl))) (nd (o32 P) (nd (o55 P) (nd (o94 P) (lf (o1 P)) nl) (nd (o133 P) (lf (o210 P)) nl)) (nd (o75 P) (nd (o1 P) (lf (o191 P)) nl) (lf (o154 P))))) (nd (o16 P) (nd (o27 P) (nd (o0 P) (nd (o89 P) (lf (o0 P)) nl) (nd (o128 P) (lf (o205 P)) nl)) (nd (o70 P) (nd (o0 P) (lf (o0 P)) nl) (nd (o1 P) (lf (o1 P)) nl))) (nd (o37 P) (nd (o0 P) (nd (o0 P) (lf (o178 P)) nl) (nd (o138 P) (lf (o215 P)) nl)) (nd (o80 P) (nd (o119 P) (lf (o196 P)) nl) (lf (o159 P))))))) (nd (PySem.W.boot_o_6 P) (nd (PySem.W.boot_o_10 P) (nd (o0 P) (nd (o20 P) (nd (o16 P) (nd (o83 P) (lf (o162 P)) nl) (nd (o1 P) (lf (o200 P)) nl)) (nd (o63 P) (nd (o103 P) (lf (o0 P)) nl) (nd (o141 P) (lf (o219 P)) nl))) (nd (o0 P) (nd (o53 P) (nd (o0 P) (lf (o172 P)) nl) (nd (o0 P) (lf (o0 P)) nl)) (nd (o74 P) (nd (o114 P) (lf (o190 P)) nl) (lf (o152 P))))) (nd (o14 P) (nd (o25 P) (nd (o1 P) (nd (o0 P) (lf (o167 P)) nl) (nd (o127 P) (lf (o204 P)) nl)) (nd (o69 P) (nd (o0 P) (lf (o1 P)) nl) (nd (o146 P) (lf (o225 P)) nl))) (nd (o35 P) (nd (o58 P) (nd (o98 P) (lf (o176 P)) nl) (nd (o136 P) (lf (o213 P)) nl)) (nd (o0 P) (nd (o0 P) (lf (o0 P)) nl) (lf (o0 P)))))) (nd (o3 P) (nd (o0 P) (nd (o0 P) (nd (o44 P) (nd (o1 P) (lf (o1 P)) nl) (nd (o125 P) (lf (o202 P)) nl)) (nd (o67 P) (nd (o0 P) (lf (o183 P)) nl) (nd (o143 P) (lf (o221 P)) nl))) (nd (o0 P) (nd (o7 P) (nd (o96 P) (lf (o174 P)) nl) (nd (o0 P) (lf (o0 P)) nl)) (nd (o77 P) (nd (o0 P) (lf (o193 P)) nl) (lf (o156 P))))) (nd (o17 P) (nd (o29 P) (nd (o49 P) (nd (o91 P) (lf (o169 P)) nl) (nd (o130 P) (lf (o207 P)) nl)) (nd (o72 P) (nd (o111 P) (lf (o188 P)) nl) (nd (o148 P) (lf (o0 P)) nl))) (nd (o39 P) (nd (o60 P) (nd (o100 P) (lf (o1 P)) nl) (nd (o1 P) (lf (o1 P)) nl)) (nd (o0 P) (nd (o120 P) (lf (o0 P)) nl) (lf (o0 P)))))))))
def s2 (w:World) (os:OsState):SharedT:=⟨t2 w.params,370,(.mk [] [] [] 0 [] [] false #[] [] 0 false false false 0 [2000,10,10] false 0 true [] [] 0 false),⟨[]⟩,(.mk 0 0 0 0),647,os⟩
def hF (P:Params):Heap:=⟨⟨[PySem.W.boot_o_0 P,PySem.W.boot_o_1 P,PySem.W.boot_o_2 P,o104 P,PySem.W.boot_o_4 P,PySem.W.boot_o_5 P,PySem.W.boot_o_6 P,PySem.W.boot_o_7 P,PySem.W.boot_o_8 P,PySem.W.boot_o_9 P,PySem.W.boot_o_10 P,o0 P,o105 P,o2 P,o3 P,o6 P,o7 P,o8 P,o0 P,o1 P,o9 P,o10 P,o0 P,o11 P,o12 P,o13 P,o14 P,o15 P,o16 P,o7 P,o17 P,o0 P,o18 P,o19 P,o20 P,o0 P,o1 P,o21 P,o0 P,o22 P,o23 P,o24 P,o25 P,o26 P,o27 P,o28 P,o29 P,o16 P,o7 P,o30 P,o0 P,o31 P,o32 P,o33 P,o0 P,o1 P,o34 P,o0 P,o35 P,o36 P,o37 P,o38 P,o39 P,o40 P,o41 P,o42 P,o16 P,o7 P,o43 P,o0 P,o44 P,o45 P,o46 P,o0 P,o1 P,o47 P,o0 P,o48 P,o49 P,o50 P,o51 P,o52 P,o53 P,o54 P,o55 P,o16 P,o7 P,o56 P,o0 P,o57 P,o58 P,o59 P,o0 P,o1 P,o60 P,o0 P,o61 P,o62 P,o63 P,o64 P,o65 P,o66 P,o67 P,o68 P,o0 P,o1 P,o69 P,o0 P,o70 P,o71 P,o72 P,o73 P,o0 P,o1 P,o74 P,o0 P,o75 P,o76 P,o77 P,o0 P,o1 P,o78 P,o0 P,o79 P,o80 P,o81 P,o0 P,o1 P,o82 P,o0 P,o83 P,o84 P,o85 P,o0 P,o1 P,o86 P,o87 P,o88 P,o0 P,o1 P,o89 P,o90 P,o91 P,o0 P,o1 P,o92 P,o0 P,o93 P,o94 P,o95 P,o96 P,o0 P,o1 P,o97 P,o98 P,o99 P,o0 P,o1 P,o100 P,o0 P,o101 P,o102 P,o103 P,o0 P,o7 P,o106 P,o0 P,o107 P,o108 P,o109 P,o0 P,o110 P,o0 P,o1 P,o111 P,o0 P,o112 P,o113 P,o114 P,o0 P,o1 P,o115 P,o0 P,o116 P,o117 P,o118 P,o0 P,o1 P,o119 P,o0 P,o120 P,o121 P,o122 P,o0 P,o1 P,o123 P,o0 P,o124 P,o125 P,o126 P,o0 P,o1 P,o127 P,o0 P,o128 P,o129 P,o130 P,o0 P,o1 P,o131 P,o0 P,o132 P,o133 P,o134 P,o0 P,o1 P,o135 P,o0 P,o136 P,o137 P,o138 P,o0 P,o1 P,o139 P,o0 P,o140 P,o141 P,o142 P,o0 P,o1 P,o143 P,o0 P,o144 P,o145 P,o146 P,o0 P,o1 P,o147 P,o148 P,o149 P,o150 P,o151 P,o152 P,o153 P,o154 P,o155 P,o156 P,o0 P,o1 P,o157 P,o0 P,o158 P,o159 P,o160 P,o0 P,o1 P,o161 P,o0 P,o162 P,o163 P,o164 P,o0 P,o1 P,o165 P,o0 P,o166 P,o167 P,o168 P,o0 P,o1 P,o169 P,o0 P,o170 P,o171 P,o172 P,o0 P,o1 P,o173 P,o174 P,o175 P,o0 P,o1 P,o176 P,o177 P,o178 P,o0 P,o1 P,o179 P,o180 P,o181 P,o0 P,o1 P,o182 P,o0 P,o183 P,o184 P,o185 P,o0 P,o1 P,o186 P,o0 P,o187 P,o188 P,o189 P,o0 P,o1 P,o190 P,o0 P,o191 P,o192 P,o193 P,o0 P,o1 P,o194 P,o0 P,o195 P,o196 P,o197 P,o0 P,o1 P,o198 P,o199 P,o200 P,o0 P,o1 P,o201 P,o202 P,o203 P,o0 P,o1 P,o204 P,o0 P,o205 P,o206 P,o207 P,o0 P,o1 P,o208 P,o0 P,o209 P,o210 P,o211 P,o0 P,o1 P,o212 P,o0 P,o213 P,o214 P,o215 P,o0 P,o1 P,o216 P,o217 P,o218 P,o219 P,o220 P,o0 P,o1 P,o221 P,o222 P,o223 P,o224 P,o225 P,o0 P,o1 P,o226 P,o0 P,o227 P,o228 P,o229 P]⟩,(.mk [] [] [] 0 [] [] false #[] [] 0 false false false 0 [2000,10,10] false 0 true [] [] 0 false)⟩
def sF (w:World) (os:OsState):Shared:=⟨hF w.params,⟨[]⟩,(.mk 0 0 0 0),647,os⟩
def KK:Params→Frag:=fun P=>(nat_lit 2,PySem.W.boot_o_2 P)::(nat_lit 3,o104 P)::(nat_lit 15,o6 P)::(nat_lit 22,o0 P)::(nat_lit 23,o11 P)::(nat_lit 24,o12 P)::(nat_lit 25,o13 P)::(nat_lit 28,o16 P)::(nat_lit 35,o0 P)::(nat_lit 37,o21 P)::(nat_lit 38,o0 P)::(nat_lit 40,o23 P)::(nat_lit 41,o24 P)::(nat_lit 42,o25 P)::(nat_lit 43,o26 P)::(nat_lit 44,o27 P)::(nat_lit 47,o16 P)::(nat_lit 54,o0 P)::(nat_lit 56,o34 P)::(nat_lit 57,o0 P)::(nat_lit 59,o36 P)::(nat_lit 60,o37 P)::(nat_lit 61,o38 P)::(nat_lit 62,o39 P)::(nat_lit 63,o40 P)::(nat_lit 66,o16 P)::(nat_lit 73,o0 P)::(nat_lit 75,o47 P)::(nat_lit 76,o0 P)::(nat_lit 78,o49 P)::(nat_lit 79,o50 P)::(nat_lit 80,o51 P)::(nat_lit 81,o52 P)::(nat_lit 82,o53 P)::(nat_lit 85,o16 P)::(nat_lit 92,o0 P)::(nat_lit 94,o60 P)::(nat_lit 95,o0 P)::(nat_lit 97,o62 P)::(nat_lit 98,o63 P)::(nat_lit 99,o64 P)::(nat_lit 100,o65 P)::(nat_lit 101,o66 P)::(nat_lit 104,o0 P)::(nat_lit 106,o69 P)::(nat_lit 107,o0 P)::(nat_lit 109,o71 P)::(nat_lit 110,o72 P)::(nat_lit 111,o73 P)::(nat_lit 112,o0 P)::(nat_lit 114,o74 P)::(nat_lit 115,o0 P)::(nat_lit 117,o76 P)::(nat_lit 118,o77 P)::(nat_lit 119,o0 P)::(nat_lit 121,o78 P)::(nat_lit 122,o0 P)::(nat_lit 124,o80 P)::(nat_lit 125,o81 P)::(nat_lit 126,o0 P)::(nat_lit 128,o82 P)::(nat_lit 129,o0 P)::(nat_lit 131,o84 P)::(nat_lit 132,o85 P)::(nat_lit 133,o0 P)::(nat_lit 136,o87 P)::(nat_lit 137,o88 P)::(nat_lit 138,o0 P)::(nat_lit 141,o90 P)::(nat_lit 142,o91 P)::(nat_lit 143,o0 P)::(nat_lit 145,o92 P)::(nat_lit 146,o0 P)::(nat_lit 148,o94 P)::(nat_lit 149,o95 P)::(nat_lit 150,o96 P)::(nat_lit 151,o0 P)::(nat_lit 154,o98 P)::(nat_lit 155,o99 P)::(nat_lit 156,o0 P)::(nat_lit 158,o100 P)::(nat_lit 159,o0 P)::(nat_lit 161,o102 P)::(nat_lit 162,o103 P)::(nat_lit 170,o0 P)::(nat_lit 171,o110 P)::(nat_lit 172,o0 P)::(nat_lit 174,o111 P)::(nat_lit 175,o0 P)::(nat_lit 177,o113 P)::(nat_lit 178,o114 P)::(nat_lit 179,o0 P)::(nat_lit 181,o115 P)::(nat_lit 182,o0 P)::(nat_lit 184,o117 P)::(nat_lit 185,o118 P)::(nat_lit 186,o0 P)::(nat_lit 188,o119 P)::(nat_lit 189,o0 P)::(nat_lit 191,o121 P)::(nat_lit 192,o122 P)::(nat_lit 193,o0 P)::(nat_lit 195,o123 P)::(nat_lit 196,o0 P)::(nat_lit 198,o125 P)::(nat_lit 199,o126 P)::(nat_lit 200,o0 P)::(nat_lit 202,o127 P)::(nat_lit 203,o0 P)::(nat_lit 205,o129 P)::(nat_lit 206,o130 P)::(nat_lit 207,o0 P)::(nat_lit 209,o131 P)::(nat_lit 210,o0 P)::(nat_lit 212,o133 P)::(nat_lit 213,o134 P)::(nat_lit 214,o0 P)::(nat_lit 216,o135 P)::(nat_lit 217,o0 P)::(nat_lit 219,o137 P)::(nat_lit 220,o138 P)::(nat_lit 221,o0 P)::(nat_lit 223,o139 P)::(nat_lit 224,o0 P)::(nat_lit 226,o141 P)::(nat_lit 227,o142 P)::(nat_lit 228,o0 P)::(nat_lit 230,o143 P)::(nat_lit 231,o0 P)::(nat_lit 233,o145 P)::(nat_lit 234,o146 P)::(nat_lit 235,o0 P)::(nat_lit 238,o148 P)::(nat_lit 239,o149 P)::(nat_lit 240,o150 P)::(nat_lit 241,o151 P)::(nat_lit 242,o152 P)::(nat_lit 243,o153 P)::(nat_lit 244,o154 P)::(nat_lit 247,o0 P)::(nat_lit 249,o157 P)::(nat_lit 250,o0 P)::(nat_lit 252,o159 P)::(nat_lit 253,o160 P)::(nat_lit 254,o0 P)::(nat_lit 256,o161 P)::(nat_lit 257,o0 P)::(nat_lit 259,o163 P)::(nat_lit 260,o164 P)::(nat_lit 261,o0 P)::(nat_lit 263,o165 P)::(nat_lit 264,o0 P)::(nat_lit 266,o167 P)::(nat_lit 267,o168 P)::(nat_lit 268,o0 P)::(nat_lit 270,o169 P)::(nat_lit 271,o0 P)::(nat_lit 273,o171 P)::(nat_lit 274,o172 P)::(nat_lit 275,o0 P)::(nat_lit 278,o174 P)::(nat_lit 279,o175 P)::(nat_lit 280,o0 P)::(nat_lit 283,o177 P)::(nat_lit 284,o178 P)::(nat_lit 285,o0 P)::(nat_lit 288,o180 P)::(nat_lit 289,o181 P)::(nat_lit 290,o0 P)::(nat_lit 292,o182 P)::(nat_lit 293,o0 P)::(nat_lit 295,o184 P)::(nat_lit 296,o185 P)::(nat_lit 297,o0 P)::(nat_lit 299,o186 P)::(nat_lit 300,o0 P)::(nat_lit 302,o188 P)::(nat_lit 303,o189 P)::(nat_lit 304,o0 P)::(nat_lit 306,o190 P)::(nat_lit 307,o0 P)::(nat_lit 309,o192 P)::(nat_lit 310,o193 P)::(nat_lit 311,o0 P)::(nat_lit 313,o194 P)::(nat_lit 314,o0 P)::(nat_lit 316,o196 P)::(nat_lit 317,o197 P)::(nat_lit 318,o0 P)::(nat_lit 321,o199 P)::(nat_lit 322,o200 P)::(nat_lit 323,o0 P)::(nat_lit 326,o202 P)::(nat_lit 327,o203 P)::(nat_lit 328,o0 P)::(nat_lit 330,o204 P)::(nat_lit 331,o0 P)::(nat_lit 333,o206 P)::(nat_lit 334,o207 P)::(nat_lit 335,o0 P)::(nat_lit 337,o208 P)::(nat_lit 338,o0 P)::(nat_lit 340,o210 P)::(nat_lit 341,o211 P)::(nat_lit 342,o0 P)::(nat_lit 344,o212 P)::(nat_lit 345,o0 P)::(nat_lit 347,o214 P)::(nat_lit 348,o215 P)::(nat_lit 349,o0 P)::(nat_lit 351,o216 P)::(nat_lit 352,o217 P)::(nat_lit 354,o219 P)::(nat_lit 355,o220 P)::(nat_lit 356,o0 P)::(nat_lit 358,o221 P)::(nat_lit 359,o222 P)::(nat_lit 361,o224 P)::(nat_lit 362,o225 P)::(nat_lit 363,o0 P)::(nat_lit 365,o226 P)::(nat_lit 366,o0 P)::(nat_lit 368,o228 P)::(nat_lit 369,o229 P):: []
def KA:List Addr:= [2,3,15,22,23,24,25,28,35,37,38,40,41,42,43,44,47,54,56,57,59,60,61,62,63,66,73,75,76,78,79,80,81,82,85,92,94,95,97,98,99,100,101,104,106,107,109,110,111,112,114,115,117,118,119,121,122,124,125,126,128,129,131,132,133,136,137,138,141,142,143,145,146,148,149,150,151,154,155,156,158,159,161,162,170,171,172,174,175,177,178,179,181,182,184,185,186,188,189,191,192,193,195,196,198,199,200,202,203,205,206,207,209,210,212,213,214,216,217,219,220,221,223,224,226,227,228,230,231,233,234,235,238,239,240,241,242,243,244,247,249,250,252,253,254,256,257,259,260,261,263,264,266,267,268,270,271,273,274,275,278,279,280,283,284,285,288,289,290,292,293,295,296,297,299,300,302,303,304,306,307,309,310,311,313,314,316,317,318,321,322,323,326,327,328,330,331,333,334,335,337,338,340,341,342,344,345,347,348,349,351,352,354,355,356,358,359,361,362,363,365,366,368,369]
theorem hd_law (h:(OpenLaw.row PySem.Challenge.rw_paritycells_k13_boards_refused).wellSaid=true→(OpenLaw.row PySem.Challenge.rw_paritycells_k13_boards_refused).Holds):(PySem.Challenge.rw_paritycells_k13_boards_refused).Holds:=by
  w_on;o_law
  exact h (by assumption)
def pO:Program:=RowW.prog (OpenRow.toRowW (OpenLaw.row PySem.Challenge.rw_paritycells_k13_boards_refused))
def pT:Program:=RowW.prog (OpenRow.toRowW (PySem.W.Fast.tw2368527892694137696 PySem.W.Fast.tw8827271730989898547))
theorem hp:pO=pT:=by
  unfold pO pT
  rw[PySem.W.Fast.te2368527892694137696,PySem.W.Fast.te8827271730989898547]
def annO:Option Value:=(some (.ref 6))
abbrev tfr:List Frame:= [topFrame (.mk 0 0 0 0)]
def enO (p:Program):Env:= { scope:=p.main.scope,locals:=mainNs,globals:=mainNs,cells:= [],code:=(.ref 13),frame:=some 14 }
def cdO (p:Program):Code:= .body (behindTheImports p) (enO p)
def stO (p:Program) (a b:Nat):List Stmt:=((behindTheImports p).drop a).take b
def s0A (w:World) (os:OsState):Shared:=⟨PySem.W.boot_heap w.params,⟨[]⟩,PySem.W.boot_drawn,PySem.W.boot_toks,os⟩
theorem hd_pre_t (w:World):(fun os=>PySem.W.Fast.tw15667345088766844465 PySem.W.Fast.tw14364793385576792824 pT w 11 annO 12 (s0A w os) (topStub pT))=fun os=>(some (sA w os,(⟨PySem.W.Fast.tw11892475500146522536 PySem.W.Fast.tw14364793385576792824 (cdO pT),cdO pT,(.mk 0 0 0 0),tfr⟩:Thread)):Option (Shared×Thread)):=by kernel_rfl
theorem hd_pre (w:World) (os:OsState):topGo treeTable pO w 11 annO 12 (s0A w os) (topStub pO)=(some (sA w os,(⟨denote treeTable (cdO pO),cdO pO,(.mk 0 0 0 0),tfr⟩:Thread)):Option (Shared×Thread)):=by
  have h:=congrFun (hd_pre_t w) os
  rw[← PySem.W.Fast.te15667345088766844465,← PySem.W.Fast.te11892475500146522536,← PySem.W.Fast.te14364793385576792824,← hp] at h
  exact h
theorem hd_block_t (w:World):(fun os=>PySem.W.Fast.tw14374325043358763698 PySem.W.Fast.tw14364793385576792824 pT w 11 annO 1 1 (sA w os) (blockOf (behindTheImports pT) (enO pT) (cdO pT) (.mk 0 0 0 0) tfr))=fun os=>(some (.next,(s0 w os).abs,cdO pT,(.mk 0 0 0 0)):Option (Flow×Shared×Code×Pos)):=by kernel_rfl
theorem hd_block (w:World) (os:OsState):segRun treeTable pO w 11 annO 1 1 (sA w os) (blockOf (behindTheImports pO) (enO pO) (cdO pO) (.mk 0 0 0 0) tfr)=(some (.next,(s0 w os).abs,cdO pO,(.mk 0 0 0 0)):Option (Flow×Shared×Code×Pos)):=by
  have h:=congrFun (hd_block_t w) os
  rw[← PySem.W.Fast.te14374325043358763698,← PySem.W.Fast.te14364793385576792824,← hp] at h
  exact h
theorem hd_p1_t (w:World):(fun os=>PySem.W.Fast.tw10110043849684766642 PySem.W.Fast.tw14364793385576792824 pT w 11 annO 1 1477 (s0 w os) (piecesOf (stO pT 0 18) (enO pT) (cdO pT) (.mk 0 0 0 0) tfr))=fun os=>(some (.next,s1 w os,cdO pT,(.mk 55 0 55 8)):Option (Flow×SharedT×Code×Pos)):=by kernel_rfl
theorem hd_p1 (w:World) (os:OsState):segRunT treeTable pO w 11 annO 1 1477 (s0 w os) (piecesOf (stO pO 0 18) (enO pO) (cdO pO) (.mk 0 0 0 0) tfr)=(some (.next,s1 w os,cdO pO,(.mk 55 0 55 8)):Option (Flow×SharedT×Code×Pos)):=by
  have h:=congrFun (hd_p1_t w) os
  rw[← PySem.W.Fast.te10110043849684766642,← PySem.W.Fast.te14364793385576792824,← hp] at h
  exact h
theorem hd_p2_t (w:World):(fun os=>PySem.W.Fast.tw10110043849684766642 PySem.W.Fast.tw14364793385576792824 pT w 11 annO 1 1098 (s1 w os) (piecesOf (stO pT 18 21) (enO pT) (cdO pT) (.mk 55 0 55 8) tfr))=fun os=>(some (.next,s2 w os,cdO pT,(.mk 186 0 198 15)):Option (Flow×SharedT×Code×Pos)):=by kernel_rfl
theorem hd_p2 (w:World) (os:OsState):segRunT treeTable pO w 11 annO 1 1098 (s1 w os) (piecesOf (stO pO 18 21) (enO pO) (cdO pO) (.mk 55 0 55 8) tfr)=(some (.next,s2 w os,cdO pO,(.mk 186 0 198 15)):Option (Flow×SharedT×Code×Pos)):=by
  have h:=congrFun (hd_p2_t w) os
  rw[← PySem.W.Fast.te10110043849684766642,← PySem.W.Fast.te14364793385576792824,← hp] at h
  exact h
theorem hd_fin_t (w:World):(fun os=>PySem.W.Fast.tw14082659384304107361 PySem.W.Fast.tw14364793385576792824 pT w 11 annO 2 (s2 w os).abs (⟨doneF .next,cdO pT,(.mk 186 0 198 15),tfr⟩:Thread))=fun os=>(some (sF w os):Option Shared):=by kernel_rfl
theorem hd_fin (w:World) (os:OsState):topRun treeTable pO w 11 annO 2 (s2 w os).abs (⟨doneF .next,cdO pO,(.mk 186 0 198 15),tfr⟩:Thread)=(some (sF w os):Option Shared):=by
  have h:=congrFun (hd_fin_t w) os
  rw[← PySem.W.Fast.te14082659384304107361,← PySem.W.Fast.te14364793385576792824,← hp] at h
  exact h
def partsL:List Stmt→Nat→List Nat→List Stmt
  | _,_,[]=> []
  | b,a,m::ms=>(b.drop a).take m++partsL b (a+m) ms
theorem parts_cut (b:List Stmt): ∀(ms:List Nat) (a:Nat),a+ms.sum=b.length→partsL b a ms=b.drop a
  | [],a,h=>by
    have:a=b.length:=by simpa using h
    rw[this,List.drop_length];rfl
  | m::ms,a,h=>by
    have ih:=parts_cut b ms (a+m) (by rw[List.sum_cons] at h;omega)
    show (b.drop a).take m++partsL b (a+m) ms=_
    rw[ih,← List.drop_drop,List.take_append_drop]
theorem body_cut (p:Program) (h:(behindTheImports p).length=39):behindTheImports p=(stO p 0 18++(stO p 18 21++ [])):=by
  have e:=parts_cut (behindTheImports p) [18,21] 0 (by rw[h];decide)
  exact e.symm
def mO:Nat:=(12+(1+(1477+(1098+2))))
theorem body_len:(behindTheImports pO).length=39:=by kernel_rfl
theorem hd_run (w:World) (os:OsState):topRun treeTable pO w 11 annO mO (s0A w os) (topStub pO)=some (sF w os):=by
  have k:=piece_nil (env:=enO pO) (hd_fin w os)
  have k:=piece_app (segRun_of (hd_p2 w os)) k
  have k:=piece_app (segRun_of (hd_p1 w os)) k
  rw[← body_cut pO body_len] at k
  exact go_top (hd_pre w os) (piece_block (hd_block w os) k)
def vwO (p:Program):Program:=PySem.W.view p [1,2,3,4,5,7,8,10,11,12,13,14,16,18,19,21,22,23,24,25,26,27,28,29,30,31,32,33,34,35,36,37,38]
def loO:List Str:= ["is_cell","cell_tuple","Board"]
def lvO:List (Str×WData):= []
theorem kA: ∀Q,KA=(KK Q).map (·.1):=fun _=>by kernel_rfl
def hkO:Hook:=kHook KK KA kA
def rrO:RowW:=OpenRow.toRowW (OpenLaw.row PySem.Challenge.rw_paritycells_k13_boards_refused)
def rrT:RowW:=OpenRow.toRowW (PySem.W.Fast.tw2368527892694137696 PySem.W.Fast.tw8827271730989898547)
theorem hr:rrO=rrT:=by
  unfold rrO rrT
  rw[PySem.W.Fast.te2368527892694137696,PySem.W.Fast.te8827271730989898547]
def xtO (r:RowW) (p:Program) (s:Shared):Bool:=xlAt (vwO p) lvO s && recOk (RowW.records r) s
theorem lk0_t (w:World):(fun os=>(staticsOk (PySem.W.Fast.tw5923862056798008813 (pT).main.body) (PySem.W.boot_heap w.params) (hF w.params) && namesBound pT (hF w.params) && gensDone (sF w os) && laidKept (PySem.W.boot_heap w.params) (hF w.params)))=fun (os:OsState)=>true:=by kernel_rfl
theorem lk0 (w:World) (os:OsState):(staticsOk (PySem.importedModules (pO).main.body) (PySem.W.boot_heap w.params) (hF w.params) && namesBound pO (hF w.params) && gensDone (sF w os) && laidKept (PySem.W.boot_heap w.params) (hF w.params))=true:=by
  have h:=congrFun (lk0_t w) os
  rw[← PySem.W.Fast.te5923862056798008813,← hp] at h
  exact h
theorem lk1_t (w:World):(fun os=>PySem.W.Fast.tw5160383126252970620 (List.map (fun x=>x.name) (PySem.W.Fast.tw3399658132070893891 (vwO pT))) (PySem.W.Fast.tw5991557255702980513 (vwO pT)) [] { heap:=((sF w os)).heap,drawn:=((sF w os)).drawn,toks:=((sF w os)).toks,os:=((sF w os)).os })=fun (os:OsState)=>PyProof.Rows.expectedOf (vwO pT):=by kernel_rfl
theorem lk1 (w:World) (os:OsState):PyProof.Rows.seen (List.map (fun x=>x.name) (PyProof.Rows.recsOf (vwO pO))) (PyProof.Rows.ownsOf (vwO pO)) [] { heap:=((sF w os)).heap,drawn:=((sF w os)).drawn,toks:=((sF w os)).toks,os:=((sF w os)).os }=PyProof.Rows.expectedOf (vwO pO):=by
  have h:=congrFun (lk1_t w) os
  rw[← PySem.W.Fast.te3399658132070893891,← PySem.W.Fast.te5991557255702980513,← PySem.W.Fast.te5160383126252970620,← hp] at h
  exact h
theorem lk2_t (w:World):(fun os=>((sF w os)).heap.bltView)=fun (os:OsState)=>bltViewBooted:=by kernel_rfl
theorem lk2 (w:World) (os:OsState):((sF w os)).heap.bltView=bltViewBooted:=by
  have h:=congrFun (lk2_t w) os
  exact h
theorem lk3_t (w:World):(fun os=>(PySem.W.Fast.tw10880121769531294198 ((sF w os)).heap (PySem.W.Fast.tw821141287760084731 (vwO pT) loO) (List.map (fun x=>x.name) (PySem.W.Fast.tw3399658132070893891 (vwO pT))) (List.map (fun x=>x.fst) (PySem.W.Fast.tw7409074990110511671 (vwO pT))) (List.map (fun x=>x.name) (PySem.W.Fast.tw13664370479719496447 (vwO pT) (PySem.W.Fast.tw821141287760084731 (vwO pT) loO))) && PySem.W.Fast.tw14722251495701143533 ((sF w os)).heap (PySem.W.Fast.tw5923862056798008813 (pT).main.body) && ((sF w os)).heap.isNs mainGlobals && ((sF w os)).heap.isNs builtinsNs && PySem.W.Fast.tw10994771534591457954 (vwO pT) ((sF w os)).heap && xtO rrT pT (sF w os) && (if true=true then ((sF w os)).gens.size == 0 else !leftWithCleanup ((sF w os)).gens)))=fun (os:OsState)=>true:=by kernel_rfl
theorem lk3 (w:World) (os:OsState):(PySem.Heap.keysOk ((sF w os)).heap (PySem.W.looseW (vwO pO) loO) (List.map (fun x=>x.name) (PyProof.Rows.recsOf (vwO pO))) (List.map (fun x=>x.fst) (PyProof.Rows.litsOf (vwO pO))) (List.map (fun x=>x.name) (PyProof.Rows.clssOf (vwO pO) (PySem.W.looseW (vwO pO) loO))) && PySem.Heap.accountedOkI ((sF w os)).heap (PySem.importedModules (pO).main.body) && ((sF w os)).heap.isNs mainGlobals && ((sF w os)).heap.isNs builtinsNs && PyProof.Rows.tablesOk (vwO pO) ((sF w os)).heap && xtO rrO pO (sF w os) && (if true=true then ((sF w os)).gens.size == 0 else !leftWithCleanup ((sF w os)).gens))=true:=by
  have h:=congrFun (lk3_t w) os
  rw[← PySem.W.Fast.te5923862056798008813,← PySem.W.Fast.te3399658132070893891,← PySem.W.Fast.te10880121769531294198,← PySem.W.Fast.te821141287760084731,← PySem.W.Fast.te7409074990110511671,← PySem.W.Fast.te13664370479719496447,← PySem.W.Fast.te14722251495701143533,← PySem.W.Fast.te10994771534591457954,← hp,← hr] at h
  exact h
theorem lk4_t (w:World):(fun os=>PySem.W.Fast.tw479339242167458305 (vwO pT) (sF w os))=fun (os:OsState)=>true:=by kernel_rfl
theorem lk4 (w:World) (os:OsState):PyProof.Rows.tabsOk (vwO pO) (sF w os)=true:=by
  have h:=congrFun (lk4_t w) os
  rw[← PySem.W.Fast.te479339242167458305,← hp] at h
  exact h
theorem lk5_t (w:World):(fun os=>PySem.W.Fast.tw16090120013241838585 (vwO pT) (PySem.W.Fast.tw3247288618530077131 (vwO pT)) (sF w os))=fun (os:OsState)=>pinGoodD (PyProof.Rows.drecsOf (vwO pT)):=by kernel_rfl
theorem lk5 (w:World) (os:OsState):PySem.pinSeenD (vwO pO) (PyProof.Rows.drecsOf (vwO pO)) (sF w os)=pinGoodD (PyProof.Rows.drecsOf (vwO pO)):=by
  have h:=congrFun (lk5_t w) os
  rw[← PySem.W.Fast.te3247288618530077131,← PySem.W.Fast.te16090120013241838585,← hp] at h
  exact h
theorem lk7_t (w:World):(fun os=>PySem.W.Fast.tw11698064438423848299 (vwO pT) loO (sF w os))=fun (os:OsState)=>PyProof.Rows.plainGoodD (vwO pT) loO:=by kernel_rfl
theorem lk7 (w:World) (os:OsState):PyProof.Rows.plainSeenD (vwO pO) loO (sF w os)=PyProof.Rows.plainGoodD (vwO pO) loO:=by
  have h:=congrFun (lk7_t w) os
  rw[← PySem.W.Fast.te11698064438423848299,← hp] at h
  exact h
theorem lk8_t (w:World):(fun os=>PySem.W.Fast.tw7317090234206586261 (vwO pT) (sF w os))=fun (os:OsState)=>wideGood (vwO pT):=by kernel_rfl
theorem lk8 (w:World) (os:OsState):PySem.W.wideSeen (vwO pO) (sF w os)=wideGood (vwO pO):=by
  have h:=congrFun (lk8_t w) os
  rw[← PySem.W.Fast.te7317090234206586261,← hp] at h
  exact h
theorem lk9_t (w:World):(fun os=>PySem.W.Fast.tw7369524293546568484 (vwO pT) loO (sF w os))=fun (os:OsState)=>clsGoodW (vwO pT) loO:=by kernel_rfl
theorem lk9 (w:World) (os:OsState):PySem.W.clsSeenW (vwO pO) loO (sF w os)=clsGoodW (vwO pO) loO:=by
  have h:=congrFun (lk9_t w) os
  rw[← PySem.W.Fast.te7369524293546568484,← hp] at h
  exact h
theorem lk6_0_t (w:World):(fun os=>(((PySem.W.Fast.tw210736558901404530 (vwO pT) (PySem.W.Fast.tw821141287760084731 (vwO pT) loO)).drop 0).take 6).map (fun c=>PySem.W.Fast.tw15717526521509864196 ((sF w os)).heap c.withCmp))=fun (os:OsState)=>(((PySem.W.Fast.tw210736558901404530 (vwO pT) (PySem.W.Fast.tw821141287760084731 (vwO pT) loO)).drop 0).take 6).map (fun c=>some c.withCmp.plainShape):=by kernel_rfl
theorem lk6_0 (w:World) (os:OsState):(((PyProof.Rows.plainsOf (vwO pO) (PySem.W.looseW (vwO pO) loO)).drop 0).take 6).map (fun c=>PySem.Heap.plainShapeAt ((sF w os)).heap c.withCmp)=(((PyProof.Rows.plainsOf (vwO pO) (PySem.W.looseW (vwO pO) loO)).drop 0).take 6).map (fun c=>some c.withCmp.plainShape):=by
  have h:=congrFun (lk6_0_t w) os
  rw[← PySem.W.Fast.te821141287760084731,← PySem.W.Fast.te15717526521509864196,← PySem.W.Fast.te210736558901404530,← hp] at h
  exact h
theorem lk6_1_t (w:World):(fun os=>(((PySem.W.Fast.tw210736558901404530 (vwO pT) (PySem.W.Fast.tw821141287760084731 (vwO pT) loO)).drop 6).take 6).map (fun c=>PySem.W.Fast.tw15717526521509864196 ((sF w os)).heap c.withCmp))=fun (os:OsState)=>(((PySem.W.Fast.tw210736558901404530 (vwO pT) (PySem.W.Fast.tw821141287760084731 (vwO pT) loO)).drop 6).take 6).map (fun c=>some c.withCmp.plainShape):=by kernel_rfl
theorem lk6_1 (w:World) (os:OsState):(((PyProof.Rows.plainsOf (vwO pO) (PySem.W.looseW (vwO pO) loO)).drop 6).take 6).map (fun c=>PySem.Heap.plainShapeAt ((sF w os)).heap c.withCmp)=(((PyProof.Rows.plainsOf (vwO pO) (PySem.W.looseW (vwO pO) loO)).drop 6).take 6).map (fun c=>some c.withCmp.plainShape):=by
  have h:=congrFun (lk6_1_t w) os
  rw[← PySem.W.Fast.te821141287760084731,← PySem.W.Fast.te15717526521509864196,← PySem.W.Fast.te210736558901404530,← hp] at h
  exact h
theorem lk6_2_t (w:World):(fun os=>(((PySem.W.Fast.tw210736558901404530 (vwO pT) (PySem.W.Fast.tw821141287760084731 (vwO pT) loO)).drop 12).take 6).map (fun c=>PySem.W.Fast.tw15717526521509864196 ((sF w os)).heap c.withCmp))=fun (os:OsState)=>(((PySem.W.Fast.tw210736558901404530 (vwO pT) (PySem.W.Fast.tw821141287760084731 (vwO pT) loO)).drop 12).take 6).map (fun c=>some c.withCmp.plainShape):=by kernel_rfl
theorem lk6_2 (w:World) (os:OsState):(((PyProof.Rows.plainsOf (vwO pO) (PySem.W.looseW (vwO pO) loO)).drop 12).take 6).map (fun c=>PySem.Heap.plainShapeAt ((sF w os)).heap c.withCmp)=(((PyProof.Rows.plainsOf (vwO pO) (PySem.W.looseW (vwO pO) loO)).drop 12).take 6).map (fun c=>some c.withCmp.plainShape):=by
  have h:=congrFun (lk6_2_t w) os
  rw[← PySem.W.Fast.te821141287760084731,← PySem.W.Fast.te15717526521509864196,← PySem.W.Fast.te210736558901404530,← hp] at h
  exact h
theorem lk6_3_t (w:World):(fun os=>(((PySem.W.Fast.tw210736558901404530 (vwO pT) (PySem.W.Fast.tw821141287760084731 (vwO pT) loO)).drop 18).take 6).map (fun c=>PySem.W.Fast.tw15717526521509864196 ((sF w os)).heap c.withCmp))=fun (os:OsState)=>(((PySem.W.Fast.tw210736558901404530 (vwO pT) (PySem.W.Fast.tw821141287760084731 (vwO pT) loO)).drop 18).take 6).map (fun c=>some c.withCmp.plainShape):=by kernel_rfl
theorem lk6_3 (w:World) (os:OsState):(((PyProof.Rows.plainsOf (vwO pO) (PySem.W.looseW (vwO pO) loO)).drop 18).take 6).map (fun c=>PySem.Heap.plainShapeAt ((sF w os)).heap c.withCmp)=(((PyProof.Rows.plainsOf (vwO pO) (PySem.W.looseW (vwO pO) loO)).drop 18).take 6).map (fun c=>some c.withCmp.plainShape):=by
  have h:=congrFun (lk6_3_t w) os
  rw[← PySem.W.Fast.te821141287760084731,← PySem.W.Fast.te15717526521509864196,← PySem.W.Fast.te210736558901404530,← hp] at h
  exact h
theorem lk6_4_t (w:World):(fun os=>(((PySem.W.Fast.tw210736558901404530 (vwO pT) (PySem.W.Fast.tw821141287760084731 (vwO pT) loO)).drop 24).take 6).map (fun c=>PySem.W.Fast.tw15717526521509864196 ((sF w os)).heap c.withCmp))=fun (os:OsState)=>(((PySem.W.Fast.tw210736558901404530 (vwO pT) (PySem.W.Fast.tw821141287760084731 (vwO pT) loO)).drop 24).take 6).map (fun c=>some c.withCmp.plainShape):=by kernel_rfl
theorem lk6_4 (w:World) (os:OsState):(((PyProof.Rows.plainsOf (vwO pO) (PySem.W.looseW (vwO pO) loO)).drop 24).take 6).map (fun c=>PySem.Heap.plainShapeAt ((sF w os)).heap c.withCmp)=(((PyProof.Rows.plainsOf (vwO pO) (PySem.W.looseW (vwO pO) loO)).drop 24).take 6).map (fun c=>some c.withCmp.plainShape):=by
  have h:=congrFun (lk6_4_t w) os
  rw[← PySem.W.Fast.te821141287760084731,← PySem.W.Fast.te15717526521509864196,← PySem.W.Fast.te210736558901404530,← hp] at h
  exact h
theorem lk6_5_t (w:World):(fun os=>(((PySem.W.Fast.tw210736558901404530 (vwO pT) (PySem.W.Fast.tw821141287760084731 (vwO pT) loO)).drop 30).take 6).map (fun c=>PySem.W.Fast.tw15717526521509864196 ((sF w os)).heap c.withCmp))=fun (os:OsState)=>(((PySem.W.Fast.tw210736558901404530 (vwO pT) (PySem.W.Fast.tw821141287760084731 (vwO pT) loO)).drop 30).take 6).map (fun c=>some c.withCmp.plainShape):=by kernel_rfl
theorem lk6_5 (w:World) (os:OsState):(((PyProof.Rows.plainsOf (vwO pO) (PySem.W.looseW (vwO pO) loO)).drop 30).take 6).map (fun c=>PySem.Heap.plainShapeAt ((sF w os)).heap c.withCmp)=(((PyProof.Rows.plainsOf (vwO pO) (PySem.W.looseW (vwO pO) loO)).drop 30).take 6).map (fun c=>some c.withCmp.plainShape):=by
  have h:=congrFun (lk6_5_t w) os
  rw[← PySem.W.Fast.te821141287760084731,← PySem.W.Fast.te15717526521509864196,← PySem.W.Fast.te210736558901404530,← hp] at h
  exact h
theorem lk6_6_t (w:World):(fun os=>(((PySem.W.Fast.tw210736558901404530 (vwO pT) (PySem.W.Fast.tw821141287760084731 (vwO pT) loO)).drop 36).take 1000).map (fun c=>PySem.W.Fast.tw15717526521509864196 ((sF w os)).heap c.withCmp))=fun (os:OsState)=>(((PySem.W.Fast.tw210736558901404530 (vwO pT) (PySem.W.Fast.tw821141287760084731 (vwO pT) loO)).drop 36).take 1000).map (fun c=>some c.withCmp.plainShape):=by kernel_rfl
theorem lk6_6 (w:World) (os:OsState):(((PyProof.Rows.plainsOf (vwO pO) (PySem.W.looseW (vwO pO) loO)).drop 36).take 1000).map (fun c=>PySem.Heap.plainShapeAt ((sF w os)).heap c.withCmp)=(((PyProof.Rows.plainsOf (vwO pO) (PySem.W.looseW (vwO pO) loO)).drop 36).take 1000).map (fun c=>some c.withCmp.plainShape):=by
  have h:=congrFun (lk6_6_t w) os
  rw[← PySem.W.Fast.te821141287760084731,← PySem.W.Fast.te15717526521509864196,← PySem.W.Fast.te210736558901404530,← hp] at h
  exact h
theorem lk10_0_t (w:World):(fun os=>((KA.drop 0).take 60).map ((sF w os)).heap.get?)=fun (os:OsState)=>(((KK w.params).drop 0).take 60).map (fun p=>some p.2):=by kernel_rfl
theorem lk10_0 (w:World) (os:OsState):((KA.drop 0).take 60).map ((sF w os)).heap.get?=(((KK w.params).drop 0).take 60).map (fun p=>some p.2):=by
  have h:=congrFun (lk10_0_t w) os
  exact h
theorem lk10_1_t (w:World):(fun os=>((KA.drop 60).take 60).map ((sF w os)).heap.get?)=fun (os:OsState)=>(((KK w.params).drop 60).take 60).map (fun p=>some p.2):=by kernel_rfl
theorem lk10_1 (w:World) (os:OsState):((KA.drop 60).take 60).map ((sF w os)).heap.get?=(((KK w.params).drop 60).take 60).map (fun p=>some p.2):=by
  have h:=congrFun (lk10_1_t w) os
  exact h
theorem lk10_2_t (w:World):(fun os=>((KA.drop 120).take 60).map ((sF w os)).heap.get?)=fun (os:OsState)=>(((KK w.params).drop 120).take 60).map (fun p=>some p.2):=by kernel_rfl
theorem lk10_2 (w:World) (os:OsState):((KA.drop 120).take 60).map ((sF w os)).heap.get?=(((KK w.params).drop 120).take 60).map (fun p=>some p.2):=by
  have h:=congrFun (lk10_2_t w) os
  exact h
theorem lk10_3_t (w:World):(fun os=>((KA.drop 180).take 60).map ((sF w os)).heap.get?)=fun (os:OsState)=>(((KK w.params).drop 180).take 60).map (fun p=>some p.2):=by kernel_rfl
theorem lk10_3 (w:World) (os:OsState):((KA.drop 180).take 60).map ((sF w os)).heap.get?=(((KK w.params).drop 180).take 60).map (fun p=>some p.2):=by
  have h:=congrFun (lk10_3_t w) os
  exact h
theorem map_cut {α β γ:Type} {f:α→γ} {g:β→γ} {xs:List α} {ys:List β} {a m:Nat} (h:((xs.drop a).take m).map f=((ys.drop a).take m).map g) (k:(xs.drop (a+m)).map f=(ys.drop (a+m)).map g):(xs.drop a).map f=(ys.drop a).map g:=by
  rw[← List.take_append_drop m (xs.drop a),← List.take_append_drop m (ys.drop a),List.map_append,List.map_append,h,List.drop_drop,List.drop_drop,k]
theorem map_end {α β γ:Type} {f:α→γ} {g:β→γ} {xs:List α} {ys:List β} {a m:Nat} (h:((xs.drop a).take m).map f=((ys.drop a).take m).map g) (l:xs.length≤a+m) (l2:ys.length≤a+m):(xs.drop a).map f=(ys.drop a).map g:=by
  rw[List.take_of_length_le (by rw[List.length_drop];omega),List.take_of_length_le (by rw[List.length_drop];omega)] at h
  exact h
theorem po_len_t:Nat.ble (PyProof.Rows.plainsOf (vwO pO) (looseW (vwO pO) loO)).length 1036=true:=by kernel_rfl
theorem po_len:(PyProof.Rows.plainsOf (vwO pO) (looseW (vwO pO) loO)).length≤36+1000:=Nat.le_of_ble_eq_true po_len_t
theorem lk6 (w:World) (os:OsState):PyProof.Rows.plainSeenE (vwO pO) (looseW (vwO pO) loO) (sF w os)=PyProof.Rows.plainGoodE (vwO pO) (looseW (vwO pO) loO):=by
  have h:=map_cut (lk6_0 w os) (map_cut (lk6_1 w os) (map_cut (lk6_2 w os) (map_cut (lk6_3 w os) (map_cut (lk6_4 w os) (map_cut (lk6_5 w os) (map_end (lk6_6 w os) po_len po_len))))))
  exact h
theorem ka_len:KA.length≤180+60:=Nat.le_of_ble_eq_true (by kernel_rfl)
theorem kk_len (Q:Params):(KK Q).length≤180+60:=Nat.le_of_ble_eq_true (by kernel_rfl)
theorem lk10 (w:World) (os:OsState):Hook.obs hkO (sF w os)=Hook.val hkO w:=by
  have h:=map_cut (lk10_0 w os) (map_cut (lk10_1 w os) (map_cut (lk10_2 w os) (map_end (lk10_3 w os) ka_len (kk_len w.params))))
  exact h
theorem looks3 {α β γ:Type} {a x:α} {b y:β} {c z:γ} (h:a=x) (g:b=y) (k:c=z):(a,b,c)=(x,y,z):=by rw[h,g,k]
theorem openSeen_of {q:Program} {loose mods:List Str} {Xt:Shared→Bool} {g0:Bool} {s:Shared}
    (h1:PyProof.Rows.seen (List.map (fun x=>x.name) (PyProof.Rows.recsOf q)) (PyProof.Rows.ownsOf q) [] { heap:=s.heap,drawn:=s.drawn,toks:=s.toks,os:=s.os }=PyProof.Rows.expectedOf q)
    (h2:s.heap.bltView=bltViewBooted)
    (h3:(s.heap.keysOk (looseW q loose) (List.map (fun x=>x.name) (PyProof.Rows.recsOf q)) (List.map (fun x=>x.fst) (PyProof.Rows.litsOf q)) (List.map (fun x=>x.name) (PyProof.Rows.clssOf q (looseW q loose))) && s.heap.accountedOkI mods && s.heap.isNs mainGlobals && s.heap.isNs builtinsNs && PyProof.Rows.tablesOk q s.heap && Xt s && (if g0=true then s.gens.size == 0 else !leftWithCleanup s.gens))=true)
    (h4:PyProof.Rows.tabsOk q s=true) (h5:pinSeenD q (PyProof.Rows.drecsOf q) s=pinGoodD (PyProof.Rows.drecsOf q)) (h6:PyProof.Rows.plainSeenE q (looseW q loose) s=PyProof.Rows.plainGoodE q (looseW q loose))
    (h7:PyProof.Rows.plainSeenD q loose s=PyProof.Rows.plainGoodD q loose) (h8:wideSeen q s=wideGood q) (h9:clsSeenW q loose s=clsGoodW q loose):openSeen q loose mods Xt g0 s=openGood q loose:=by
  unfold openSeen openGood
  rw[h1,h2,h3,h4,h5,h6,h7,h8,h9]
theorem hd_e:opening pO=plainProg pO.main.scope.names:=by kernel_rfl
theorem hd_f: ∀s:Shared,fenceModules? pO s=some s:=fun s=>by kernel_rfl
theorem hd_size (w:World):((PySem.W.boot_heap w.params).isNs mainGlobals && Array.size (⟨[]⟩:Array GenState) == 0,(PySem.W.boot_heap w.params).objs.size,(PySem.W.boot_heap w.params).nsMap mainGlobals "__annotations__")=(true,11,annO):=by kernel_rfl
theorem hd_left:LeftO pO (vwO pO) loO (xtO rrO pO) (Hook.obs hkO) (Hook.val hkO) 5272:=by
  refine LeftO.of_pieces (H₀:=PySem.W.boot_heap) (H₁:=hF) (gs₀:=⟨[]⟩) (gs₁:=⟨[]⟩) (d₀:=PySem.W.boot_drawn) (d₁:=(.mk 0 0 0 0)) (k₀:=PySem.W.boot_toks) (k₁:=647) (m₀:=11) (ann:=annO) (M:=mO) (boot_open hd_e (by decide +kernel) hd_f) hd_size hd_run (by decide +kernel) fun w=> ?_
  funext os
  exact looks3 (lk0 w os) (openSeen_of (lk1 w os) (lk2 w os) (lk3 w os) (lk4 w os) (lk5 w os) (lk6 w os) (lk7 w os) (lk8 w os) (lk9 w os)) (lk10 w os)
end

theorem all_mk {l:PySem.W.OpenLaw} {w:World} {K:PySem.W.Frag} {h:Heap} {mg:Str→Option Value} {fa:Addr} {qq:Program} (X:K.In h) (G:h.Ns mainGlobals mg)
    (hTab: ∀(y:Str) (c P:Addr),((recsOf qq).find? (fun e=>e.name == y)).isSome=true→PySem.W.tabIn K y=some (c,P)→PySem.W.CodeHd h c P∧h.get? P=some (PySem.W.tabObj #[])) (hfa:mg "law" =some (.ref fa))
    {f_0:Addr} {od_0 an_0:Option Addr} {sl_0:Array (Option Value)} {oc_0 kV_0 dc_0 pm_0 cd_0 ct_0:Value}
    {f_1:Addr} {od_1 an_1:Option Addr} {sl_1:Array (Option Value)} {oc_1 kV_1 dc_1 pm_1 cd_1 ct_1:Value}
    {f_2:Addr} {od_2 an_2:Option Addr} {sl_2:Array (Option Value)} {oc_2 kV_2 dc_2 pm_2 cd_2 ct_2:Value}
    {f_3:Addr} {od_3 an_3:Option Addr} {sl_3:Array (Option Value)} {oc_3 kV_3 dc_3 pm_3 cd_3 ct_3:Value}
    {f_4:Addr} {od_4 an_4:Option Addr} {sl_4:Array (Option Value)} {oc_4 kV_4 dc_4 pm_4 cd_4 ct_4:Value}
    {f_5:Addr} {od_5 an_5:Option Addr} {sl_5:Array (Option Value)} {oc_5 kV_5 dc_5 pm_5 cd_5 ct_5:Value}
    {f_6:Addr} {od_6 an_6:Option Addr} {sl_6:Array (Option Value)} {oc_6 kV_6 dc_6 pm_6 cd_6 ct_6:Value}
    {f_7:Addr} {od_7 an_7:Option Addr} {sl_7:Array (Option Value)} {oc_7 dc_7 pm_7 cd_7 ct_7:Value} {kd_is_cell:Addr}
    {kt_is_cell_0:Tok}
    {f_8:Addr} {od_8 an_8:Option Addr} {sl_8:Array (Option Value)} {oc_8 dc_8 pm_8 cd_8 ct_8:Value} {kd_cell_tuple:Addr}
    {kt_cell_tuple_0:Tok}
    {f_9:Addr} {od_9 an_9:Option Addr} {sl_9:Array (Option Value)} {oc_9 kV_9 dc_9 pm_9 cd_9 ct_9:Value}
    {f_10:Addr} {od_10 an_10:Option Addr} {sl_10:Array (Option Value)} {oc_10 dc_10 pm_10 cd_10 ct_10:Value} {kd_Board____init:Addr}
    {dd_Board____init_0:Option Addr} {dn_Board____init_0:Nat} {ds_Board____init_0:Array (Option Value)} {da_Board____init_0:Addr}
    {f_11:Addr} {od_11 an_11:Option Addr} {sl_11:Array (Option Value)} {oc_11 kV_11 dc_11 pm_11 cd_11 ct_11:Value}
    {f_12:Addr} {od_12 an_12:Option Addr} {sl_12:Array (Option Value)} {oc_12 kV_12 dc_12 pm_12 cd_12 ct_12:Value}
    {f_13:Addr} {od_13 an_13:Option Addr} {sl_13:Array (Option Value)} {oc_13 kV_13 dc_13 pm_13 cd_13 ct_13:Value}
    {f_14:Addr} {od_14 an_14:Option Addr} {sl_14:Array (Option Value)} {oc_14 kV_14 dc_14 pm_14 cd_14 ct_14:Value}
    {f_15:Addr} {od_15 an_15:Option Addr} {sl_15:Array (Option Value)} {oc_15 kV_15 dc_15 pm_15 cd_15 ct_15:Value}
    {f_16:Addr} {od_16 an_16:Option Addr} {sl_16:Array (Option Value)} {oc_16 kV_16 dc_16 pm_16 cd_16 ct_16:Value}
    {f_17:Addr} {od_17 an_17:Option Addr} {sl_17:Array (Option Value)} {oc_17 kV_17 dc_17 pm_17 cd_17 ct_17:Value}
    {f_18:Addr} {od_18 an_18:Option Addr} {sl_18:Array (Option Value)} {oc_18 kV_18 dc_18 pm_18 cd_18 ct_18:Value}
    {f_19:Addr} {od_19 an_19:Option Addr} {sl_19:Array (Option Value)} {oc_19 kV_19 dc_19 pm_19 cd_19 ct_19:Value}
    {f_20:Addr} {od_20 an_20:Option Addr} {sl_20:Array (Option Value)} {oc_20 kV_20 dc_20 pm_20 cd_20 ct_20:Value}
    {f_21:Addr} {od_21 an_21:Option Addr} {sl_21:Array (Option Value)} {oc_21 kV_21 dc_21 pm_21 cd_21 ct_21:Value}
    {f_22:Addr} {od_22 an_22:Option Addr} {sl_22:Array (Option Value)} {oc_22 kV_22 dc_22 pm_22 cd_22 ct_22:Value}
    {f_23:Addr} {od_23 an_23:Option Addr} {sl_23:Array (Option Value)} {oc_23 kV_23 dc_23 pm_23 cd_23 ct_23:Value}
    {f_24:Addr} {od_24 an_24:Option Addr} {sl_24:Array (Option Value)} {oc_24 kV_24 dc_24 pm_24 cd_24 ct_24:Value}
    {f_25:Addr} {od_25 an_25:Option Addr} {sl_25:Array (Option Value)} {oc_25 kV_25 dc_25 pm_25 cd_25 ct_25:Value}
    {f_26:Addr} {od_26 an_26:Option Addr} {sl_26:Array (Option Value)} {oc_26 kV_26 dc_26 pm_26 cd_26 ct_26:Value}
    {f_27:Addr} {od_27 an_27:Option Addr} {sl_27:Array (Option Value)} {oc_27 kV_27 dc_27 pm_27 cd_27 ct_27:Value}
    {f_28:Addr} {od_28 an_28:Option Addr} {sl_28:Array (Option Value)} {oc_28 kV_28 dc_28 pm_28 ct_28:Value} {lc_law_asked_right lp_law_asked_right:Addr}
    {f_29:Addr} {od_29 an_29:Option Addr} {sl_29:Array (Option Value)} {oc_29 kV_29 dc_29 pm_29 ct_29:Value} {lc_law_made_right lp_law_made_right:Addr}
    {f_30:Addr} {od_30 an_30:Option Addr} {sl_30:Array (Option Value)} {oc_30 kV_30 dc_30 pm_30 cd_30 ct_30:Value}
    {f_31:Addr} {od_31 an_31:Option Addr} {sl_31:Array (Option Value)} {oc_31 kV_31 dc_31 pm_31 cd_31 ct_31:Value}
    {f_32:Addr} {od_32 an_32:Option Addr} {sl_32:Array (Option Value)} {oc_32 kV_32 dc_32 pm_32 cd_32 ct_32:Value}
    {f_33:Addr} {od_33 an_33:Option Addr} {sl_33:Array (Option Value)} {oc_33 kV_33 dc_33 pm_33 cd_33 ct_33:Value}
    {c_Board:Addr}
    {c_CellError:Addr}
    {c_NoSize:Addr}
    {c_NoCell:Addr}
    {c_NoCells:Addr}
    {c_NoFlip:Addr}
    {fI_NoSize N_NoSize:Addr} {nm_NoSize qn_NoSize:Str} {bs_NoSize sb_NoSize:List Value} {sn_NoSize:List Str} {ab_NoSize:Bool} {col_NoSize:Option Bool} {dd_NoSize od_NoSize an_NoSize:Option Addr} {m0_NoSize m1_NoSize m2_NoSize m3_NoSize m5_NoSize:Option Value} {oc_NoSize kV_NoSize dc_NoSize pm_NoSize cd_NoSize ct_NoSize:Value} {sl_NoSize:Array (Option Value)}
    {fI_NoCell N_NoCell:Addr} {nm_NoCell qn_NoCell:Str} {bs_NoCell sb_NoCell:List Value} {sn_NoCell:List Str} {ab_NoCell:Bool} {col_NoCell:Option Bool} {dd_NoCell od_NoCell an_NoCell:Option Addr} {m0_NoCell m1_NoCell m2_NoCell m3_NoCell m5_NoCell:Option Value} {oc_NoCell kV_NoCell dc_NoCell pm_NoCell cd_NoCell ct_NoCell:Value} {sl_NoCell:Array (Option Value)}
    {fI_NoCells N_NoCells:Addr} {nm_NoCells qn_NoCells:Str} {bs_NoCells sb_NoCells:List Value} {sn_NoCells:List Str} {ab_NoCells:Bool} {col_NoCells:Option Bool} {dd_NoCells od_NoCells an_NoCells:Option Addr} {m0_NoCells m1_NoCells m2_NoCells m3_NoCells m5_NoCells:Option Value} {oc_NoCells kV_NoCells dc_NoCells pm_NoCells cd_NoCells ct_NoCells:Value} {sl_NoCells:Array (Option Value)}
    {fI_NoFlip N_NoFlip:Addr} {nm_NoFlip qn_NoFlip:Str} {bs_NoFlip sb_NoFlip:List Value} {sn_NoFlip:List Str} {ab_NoFlip:Bool} {col_NoFlip:Option Bool} {dd_NoFlip od_NoFlip an_NoFlip:Option Addr} {m0_NoFlip m1_NoFlip m2_NoFlip m3_NoFlip m5_NoFlip:Option Value} {oc_NoFlip kV_NoFlip dc_NoFlip pm_NoFlip cd_NoFlip ct_NoFlip:Value} {sl_NoFlip:Array (Option Value)}
    {t_MOST_CELLS:Tok}
    (aC_Board:PySem.W.nsIn K mainGlobals "Board" =some (some (.ref c_Board)))
    (a_law_pot:PySem.W.nsIn K mainGlobals "_law_pot" =some (some (.ref f_0))) (l_law_pot:K.lookup f_0=some ⟨oc_0,od_0,.func (PySem.W.fnOf "_law_pot" "_law_pot" (defArgs st__law_pot) (defBody st__law_pot) (defScope st__law_pot) .none kV_0 dc_0 pm_0 an_0 cd_0 ct_0),sl_0⟩) (c_law_pot:PySem.W.codeIn K cd_0 "_law_pot" =true) (k_law_pot:PySem.W.keepIn K (.ref f_0)=true)
    (a_law_draw:PySem.W.nsIn K mainGlobals "_law_draw" =some (some (.ref f_1))) (l_law_draw:K.lookup f_1=some ⟨oc_1,od_1,.func (PySem.W.fnOf "_law_draw" "_law_draw" (defArgs st__law_draw) (defBody st__law_draw) (defScope st__law_draw) .none kV_1 dc_1 pm_1 an_1 cd_1 ct_1),sl_1⟩) (c_law_draw:PySem.W.codeIn K cd_1 "_law_draw" =true) (k_law_draw:PySem.W.keepIn K (.ref f_1)=true)
    (a_law_width:PySem.W.nsIn K mainGlobals "_law_width" =some (some (.ref f_2))) (l_law_width:K.lookup f_2=some ⟨oc_2,od_2,.func (PySem.W.fnOf "_law_width" "_law_width" (defArgs st__law_width) (defBody st__law_width) (defScope st__law_width) .none kV_2 dc_2 pm_2 an_2 cd_2 ct_2),sl_2⟩) (c_law_width:PySem.W.codeIn K cd_2 "_law_width" =true) (k_law_width:PySem.W.keepIn K (.ref f_2)=true)
    (a_law_bits:PySem.W.nsIn K mainGlobals "_law_bits" =some (some (.ref f_3))) (l_law_bits:K.lookup f_3=some ⟨oc_3,od_3,.func (PySem.W.fnOf "_law_bits" "_law_bits" (defArgs st__law_bits) (defBody st__law_bits) (defScope st__law_bits) .none kV_3 dc_3 pm_3 an_3 cd_3 ct_3),sl_3⟩) (c_law_bits:PySem.W.codeIn K cd_3 "_law_bits" =true) (k_law_bits:PySem.W.keepIn K (.ref f_3)=true)
    (a_is_integer_in:PySem.W.nsIn K mainGlobals "is_integer_in" =some (some (.ref f_4))) (l_is_integer_in:K.lookup f_4=some ⟨oc_4,od_4,.func (PySem.W.fnOf "is_integer_in" "is_integer_in" (defArgs st_is_integer_in) (defBody st_is_integer_in) (defScope st_is_integer_in) .none kV_4 dc_4 pm_4 an_4 cd_4 ct_4),sl_4⟩) (c_is_integer_in:PySem.W.codeIn K cd_4 "is_integer_in" =true) (k_is_integer_in:PySem.W.keepIn K (.ref f_4)=true)
    (a_require_size:PySem.W.nsIn K mainGlobals "require_size" =some (some (.ref f_5))) (l_require_size:K.lookup f_5=some ⟨oc_5,od_5,.func (PySem.W.fnOf "require_size" "require_size" (defArgs st_require_size) (defBody st_require_size) (defScope st_require_size) .none kV_5 dc_5 pm_5 an_5 cd_5 ct_5),sl_5⟩) (c_require_size:PySem.W.codeIn K cd_5 "require_size" =true) (k_require_size:PySem.W.keepIn K (.ref f_5)=true)
    (a_mask_of:PySem.W.nsIn K mainGlobals "mask_of" =some (some (.ref f_6))) (l_mask_of:K.lookup f_6=some ⟨oc_6,od_6,.func (PySem.W.fnOf "mask_of" "mask_of" (defArgs st_mask_of) (defBody st_mask_of) (defScope st_mask_of) .none kV_6 dc_6 pm_6 an_6 cd_6 ct_6),sl_6⟩) (c_mask_of:PySem.W.codeIn K cd_6 "mask_of" =true) (k_mask_of:PySem.W.keepIn K (.ref f_6)=true)
    (a_is_cell:PySem.W.nsIn K mainGlobals "is_cell" =some (some (.ref f_7))) (l_is_cell:K.lookup f_7=some ⟨oc_7,od_7,.func (PySem.W.fnOf "is_cell" "is_cell" (defArgs st_is_cell) (defBody st_is_cell) (defScope st_is_cell) .none (.ref kd_is_cell) dc_7 pm_7 an_7 cd_7 ct_7),sl_7⟩) (c_is_cell:PySem.W.codeIn K cd_7 "is_cell" =true) (k_is_cell:PySem.W.keepIn K (.ref f_7)=true)
    (kw_is_cell_0:PySem.W.nsIn K kd_is_cell "size" =some (some (.int 40 kt_is_cell_0)))
    (a_cell_tuple:PySem.W.nsIn K mainGlobals "cell_tuple" =some (some (.ref f_8))) (l_cell_tuple:K.lookup f_8=some ⟨oc_8,od_8,.func (PySem.W.fnOf "cell_tuple" "cell_tuple" (defArgs st_cell_tuple) (defBody st_cell_tuple) (defScope st_cell_tuple) .none (.ref kd_cell_tuple) dc_8 pm_8 an_8 cd_8 ct_8),sl_8⟩) (c_cell_tuple:PySem.W.codeIn K cd_8 "cell_tuple" =true) (k_cell_tuple:PySem.W.keepIn K (.ref f_8)=true)
    (kw_cell_tuple_0:PySem.W.nsIn K kd_cell_tuple "size" =some (some (.int 40 kt_cell_tuple_0)))
    (a_cell_mask:PySem.W.nsIn K mainGlobals "cell_mask" =some (some (.ref f_9))) (l_cell_mask:K.lookup f_9=some ⟨oc_9,od_9,.func (PySem.W.fnOf "cell_mask" "cell_mask" (defArgs st_cell_mask) (defBody st_cell_mask) (defScope st_cell_mask) .none kV_9 dc_9 pm_9 an_9 cd_9 ct_9),sl_9⟩) (c_cell_mask:PySem.W.codeIn K cd_9 "cell_mask" =true) (k_cell_mask:PySem.W.keepIn K (.ref f_9)=true)
    (a_Board____init:PySem.W.findIn K (.ref c_Board) "__init__" =some (some (.ref f_10))) (i_Board____init:PySem.W.isFn K (.ref f_10)=true) (l_Board____init:K.lookup f_10=some ⟨oc_10,od_10,.func (PySem.W.fnOf "__init__" "Board.__init__" (defArgs st_Board____init__) (defBody st_Board____init__) (defScope st_Board____init__) .none (.ref kd_Board____init) dc_10 pm_10 an_10 cd_10 ct_10),sl_10⟩) (c_Board____init:PySem.W.codeIn K cd_10 "Board.__init__" =true) (k_Board____init:PySem.W.keepIn K (.ref f_10)=true)
    (kw_Board____init_0:PySem.W.nsIn K kd_Board____init "up" =some (some (.ref da_Board____init_0)))
    (kt_Board____init_0:K.lookup da_Board____init_0=some ⟨.type "tuple",dd_Board____init_0,.seq #[] dn_Board____init_0,ds_Board____init_0⟩)
    (a_law_up:PySem.W.nsIn K mainGlobals "_law_up" =some (some (.ref f_11))) (l_law_up:K.lookup f_11=some ⟨oc_11,od_11,.func (PySem.W.fnOf "_law_up" "_law_up" (defArgs st__law_up) (defBody st__law_up) (defScope st__law_up) .none kV_11 dc_11 pm_11 an_11 cd_11 ct_11),sl_11⟩) (c_law_up:PySem.W.codeIn K cd_11 "_law_up" =true) (k_law_up:PySem.W.keepIn K (.ref f_11)=true)
    (a_law_made:PySem.W.nsIn K mainGlobals "_law_made" =some (some (.ref f_12))) (l_law_made:K.lookup f_12=some ⟨oc_12,od_12,.func (PySem.W.fnOf "_law_made" "_law_made" (defArgs st__law_made) (defBody st__law_made) (defScope st__law_made) .none kV_12 dc_12 pm_12 an_12 cd_12 ct_12),sl_12⟩) (c_law_made:PySem.W.codeIn K cd_12 "_law_made" =true) (k_law_made:PySem.W.keepIn K (.ref f_12)=true)
    (a_law_any_thing:PySem.W.nsIn K mainGlobals "_law_any_thing" =some (some (.ref f_13))) (l_law_any_thing:K.lookup f_13=some ⟨oc_13,od_13,.func (PySem.W.fnOf "_law_any_thing" "_law_any_thing" (defArgs st__law_any_thing) (defBody st__law_any_thing) (defScope st__law_any_thing) .none kV_13 dc_13 pm_13 an_13 cd_13 ct_13),sl_13⟩) (c_law_any_thing:PySem.W.codeIn K cd_13 "_law_any_thing" =true) (k_law_any_thing:PySem.W.keepIn K (.ref f_13)=true)
    (a_law_mixed:PySem.W.nsIn K mainGlobals "_law_mixed" =some (some (.ref f_14))) (l_law_mixed:K.lookup f_14=some ⟨oc_14,od_14,.func (PySem.W.fnOf "_law_mixed" "_law_mixed" (defArgs st__law_mixed) (defBody st__law_mixed) (defScope st__law_mixed) .none kV_14 dc_14 pm_14 an_14 cd_14 ct_14),sl_14⟩) (c_law_mixed:PySem.W.codeIn K cd_14 "_law_mixed" =true) (k_law_mixed:PySem.W.keepIn K (.ref f_14)=true)
    (a_law_spots:PySem.W.nsIn K mainGlobals "_law_spots" =some (some (.ref f_15))) (l_law_spots:K.lookup f_15=some ⟨oc_15,od_15,.func (PySem.W.fnOf "_law_spots" "_law_spots" (defArgs st__law_spots) (defBody st__law_spots) (defScope st__law_spots) .none kV_15 dc_15 pm_15 an_15 cd_15 ct_15),sl_15⟩) (c_law_spots:PySem.W.codeIn K cd_15 "_law_spots" =true) (k_law_spots:PySem.W.keepIn K (.ref f_15)=true)
    (a_law_odd_spots:PySem.W.nsIn K mainGlobals "_law_odd_spots" =some (some (.ref f_16))) (l_law_odd_spots:K.lookup f_16=some ⟨oc_16,od_16,.func (PySem.W.fnOf "_law_odd_spots" "_law_odd_spots" (defArgs st__law_odd_spots) (defBody st__law_odd_spots) (defScope st__law_odd_spots) .none kV_16 dc_16 pm_16 an_16 cd_16 ct_16),sl_16⟩) (c_law_odd_spots:PySem.W.codeIn K cd_16 "_law_odd_spots" =true) (k_law_odd_spots:PySem.W.keepIn K (.ref f_16)=true)
    (a_law_is_int:PySem.W.nsIn K mainGlobals "_law_is_int" =some (some (.ref f_17))) (l_law_is_int:K.lookup f_17=some ⟨oc_17,od_17,.func (PySem.W.fnOf "_law_is_int" "_law_is_int" (defArgs st__law_is_int) (defBody st__law_is_int) (defScope st__law_is_int) .none kV_17 dc_17 pm_17 an_17 cd_17 ct_17),sl_17⟩) (c_law_is_int:PySem.W.codeIn K cd_17 "_law_is_int" =true) (k_law_is_int:PySem.W.keepIn K (.ref f_17)=true)
    (a_law_kind:PySem.W.nsIn K mainGlobals "_law_kind" =some (some (.ref f_18))) (l_law_kind:K.lookup f_18=some ⟨oc_18,od_18,.func (PySem.W.fnOf "_law_kind" "_law_kind" (defArgs st__law_kind) (defBody st__law_kind) (defScope st__law_kind) .none kV_18 dc_18 pm_18 an_18 cd_18 ct_18),sl_18⟩) (c_law_kind:PySem.W.codeIn K cd_18 "_law_kind" =true) (k_law_kind:PySem.W.keepIn K (.ref f_18)=true)
    (a_law_met:PySem.W.nsIn K mainGlobals "_law_met" =some (some (.ref f_19))) (l_law_met:K.lookup f_19=some ⟨oc_19,od_19,.func (PySem.W.fnOf "_law_met" "_law_met" (defArgs st__law_met) (defBody st__law_met) (defScope st__law_met) .none kV_19 dc_19 pm_19 an_19 cd_19 ct_19),sl_19⟩) (c_law_met:PySem.W.codeIn K cd_19 "_law_met" =true) (k_law_met:PySem.W.keepIn K (.ref f_19)=true)
    (a_require_cell:PySem.W.nsIn K mainGlobals "require_cell" =some (some (.ref f_20))) (l_require_cell:K.lookup f_20=some ⟨oc_20,od_20,.func (PySem.W.fnOf "require_cell" "require_cell" (defArgs st_require_cell) (defBody st_require_cell) (defScope st_require_cell) .none kV_20 dc_20 pm_20 an_20 cd_20 ct_20),sl_20⟩) (c_require_cell:PySem.W.codeIn K cd_20 "require_cell" =true) (k_require_cell:PySem.W.keepIn K (.ref f_20)=true)
    (a_Board__is_up:PySem.W.findIn K (.ref c_Board) "is_up" =some (some (.ref f_21))) (i_Board__is_up:PySem.W.isFn K (.ref f_21)=true) (l_Board__is_up:K.lookup f_21=some ⟨oc_21,od_21,.func (PySem.W.fnOf "is_up" "Board.is_up" (defArgs st_Board__is_up) (defBody st_Board__is_up) (defScope st_Board__is_up) .none kV_21 dc_21 pm_21 an_21 cd_21 ct_21),sl_21⟩) (c_Board__is_up:PySem.W.codeIn K cd_21 "Board.is_up" =true) (k_Board__is_up:PySem.W.keepIn K (.ref f_21)=true)
    (a_law_are_spots:PySem.W.nsIn K mainGlobals "_law_are_spots" =some (some (.ref f_22))) (l_law_are_spots:K.lookup f_22=some ⟨oc_22,od_22,.func (PySem.W.fnOf "_law_are_spots" "_law_are_spots" (defArgs st__law_are_spots) (defBody st__law_are_spots) (defScope st__law_are_spots) .none kV_22 dc_22 pm_22 an_22 cd_22 ct_22),sl_22⟩) (c_law_are_spots:PySem.W.codeIn K cd_22 "_law_are_spots" =true) (k_law_are_spots:PySem.W.keepIn K (.ref f_22)=true)
    (a_is_odd:PySem.W.nsIn K mainGlobals "is_odd" =some (some (.ref f_23))) (l_is_odd:K.lookup f_23=some ⟨oc_23,od_23,.func (PySem.W.fnOf "is_odd" "is_odd" (defArgs st_is_odd) (defBody st_is_odd) (defScope st_is_odd) .none kV_23 dc_23 pm_23 an_23 cd_23 ct_23),sl_23⟩) (c_is_odd:PySem.W.codeIn K cd_23 "is_odd" =true) (k_is_odd:PySem.W.keepIn K (.ref f_23)=true)
    (a_Board__parity:PySem.W.findIn K (.ref c_Board) "parity" =some (some (.ref f_24))) (i_Board__parity:PySem.W.isFn K (.ref f_24)=true) (l_Board__parity:K.lookup f_24=some ⟨oc_24,od_24,.func (PySem.W.fnOf "parity" "Board.parity" (defArgs st_Board__parity) (defBody st_Board__parity) (defScope st_Board__parity) .none kV_24 dc_24 pm_24 an_24 cd_24 ct_24),sl_24⟩) (c_Board__parity:PySem.W.codeIn K cd_24 "Board.parity" =true) (k_Board__parity:PySem.W.keepIn K (.ref f_24)=true)
    (a_cells_in:PySem.W.nsIn K mainGlobals "cells_in" =some (some (.ref f_25))) (l_cells_in:K.lookup f_25=some ⟨oc_25,od_25,.func (PySem.W.fnOf "cells_in" "cells_in" (defArgs st_cells_in) (defBody st_cells_in) (defScope st_cells_in) .none kV_25 dc_25 pm_25 an_25 cd_25 ct_25),sl_25⟩) (c_cells_in:PySem.W.codeIn K cd_25 "cells_in" =true) (k_cells_in:PySem.W.keepIn K (.ref f_25)=true)
    (a_board_of:PySem.W.nsIn K mainGlobals "board_of" =some (some (.ref f_26))) (l_board_of:K.lookup f_26=some ⟨oc_26,od_26,.func (PySem.W.fnOf "board_of" "board_of" (defArgs st_board_of) (defBody st_board_of) (defScope st_board_of) .none kV_26 dc_26 pm_26 an_26 cd_26 ct_26),sl_26⟩) (c_board_of:PySem.W.codeIn K cd_26 "board_of" =true) (k_board_of:PySem.W.keepIn K (.ref f_26)=true)
    (a_Board__toggled:PySem.W.findIn K (.ref c_Board) "toggled" =some (some (.ref f_27))) (i_Board__toggled:PySem.W.isFn K (.ref f_27)=true) (l_Board__toggled:K.lookup f_27=some ⟨oc_27,od_27,.func (PySem.W.fnOf "toggled" "Board.toggled" (defArgs st_Board__toggled) (defBody st_Board__toggled) (defScope st_Board__toggled) .none kV_27 dc_27 pm_27 an_27 cd_27 ct_27),sl_27⟩) (c_Board__toggled:PySem.W.codeIn K cd_27 "Board.toggled" =true) (k_Board__toggled:PySem.W.keepIn K (.ref f_27)=true)
    (a_law_asked_right:PySem.W.nsIn K mainGlobals "_law_asked_right" =some (some (.ref f_28))) (tb_law_asked_right:PySem.W.tabIn K "_law_asked_right" =some (lc_law_asked_right,lp_law_asked_right)) (nk_law_asked_right:K.lookup lp_law_asked_right=none) (rc_law_asked_right:((recsOf qq).find? (fun e=>e.name == ("_law_asked_right" :Str))).isSome=true) (l_law_asked_right:K.lookup f_28=some ⟨oc_28,od_28,.func (PySem.W.fnOf "_law_asked_right" "_law_asked_right" (defArgs st__law_asked_right) (defBody st__law_asked_right) (defScope st__law_asked_right) .none kV_28 dc_28 pm_28 an_28 (.ref lc_law_asked_right) ct_28),sl_28⟩) (c_law_asked_right:PySem.W.codeIn K (.ref lc_law_asked_right) "_law_asked_right" =true) (k_law_asked_right:PySem.W.keepIn K (.ref f_28)=true)
    (a_law_made_right:PySem.W.nsIn K mainGlobals "_law_made_right" =some (some (.ref f_29))) (tb_law_made_right:PySem.W.tabIn K "_law_made_right" =some (lc_law_made_right,lp_law_made_right)) (nk_law_made_right:K.lookup lp_law_made_right=none) (rc_law_made_right:((recsOf qq).find? (fun e=>e.name == ("_law_made_right" :Str))).isSome=true) (l_law_made_right:K.lookup f_29=some ⟨oc_29,od_29,.func (PySem.W.fnOf "_law_made_right" "_law_made_right" (defArgs st__law_made_right) (defBody st__law_made_right) (defScope st__law_made_right) .none kV_29 dc_29 pm_29 an_29 (.ref lc_law_made_right) ct_29),sl_29⟩) (c_law_made_right:PySem.W.codeIn K (.ref lc_law_made_right) "_law_made_right" =true) (k_law_made_right:PySem.W.keepIn K (.ref f_29)=true)
    (a_Board__size:PySem.W.findIn K (.ref c_Board) "size" =some (some (.ref f_30))) (i_Board__size:PySem.W.isFn K (.ref f_30)=true) (l_Board__size:K.lookup f_30=some ⟨oc_30,od_30,.func (PySem.W.fnOf "size" "Board.size" (defArgs st_Board__size) (defBody st_Board__size) (defScope st_Board__size) .none kV_30 dc_30 pm_30 an_30 cd_30 ct_30),sl_30⟩) (c_Board__size:PySem.W.codeIn K cd_30 "Board.size" =true) (k_Board__size:PySem.W.keepIn K (.ref f_30)=true)
    (a_Board__up:PySem.W.findIn K (.ref c_Board) "up" =some (some (.ref f_31))) (i_Board__up:PySem.W.isFn K (.ref f_31)=true) (l_Board__up:K.lookup f_31=some ⟨oc_31,od_31,.func (PySem.W.fnOf "up" "Board.up" (defArgs st_Board__up) (defBody st_Board__up) (defScope st_Board__up) .none kV_31 dc_31 pm_31 an_31 cd_31 ct_31),sl_31⟩) (c_Board__up:PySem.W.codeIn K cd_31 "Board.up" =true) (k_Board__up:PySem.W.keepIn K (.ref f_31)=true)
    (a_law_is_so:PySem.W.nsIn K mainGlobals "_law_is_so" =some (some (.ref f_32))) (l_law_is_so:K.lookup f_32=some ⟨oc_32,od_32,.func (PySem.W.fnOf "_law_is_so" "_law_is_so" (defArgs st__law_is_so) (defBody st__law_is_so) (defScope st__law_is_so) .none kV_32 dc_32 pm_32 an_32 cd_32 ct_32),sl_32⟩) (c_law_is_so:PySem.W.codeIn K cd_32 "_law_is_so" =true) (k_law_is_so:PySem.W.keepIn K (.ref f_32)=true)
    (a_law:PySem.W.nsIn K mainGlobals "law" =some (some (.ref f_33))) (l_law:K.lookup f_33=some ⟨oc_33,od_33,.func (PySem.W.fnOf "law" "law" (defArgs st_law) (defBody st_law) (defScope st_law) .none kV_33 dc_33 pm_33 an_33 cd_33 ct_33),sl_33⟩) (c_law:PySem.W.codeIn K cd_33 "law" =true) (k_law:PySem.W.keepIn K (.ref f_33)=true)
    (pg_Board:PySem.W.plainGet K c_Board Str.empty=true)
    (hd_Board:PySem.W.hasDictIn K c_Board=true)
    (po_Board:PySem.W.plainOver K c_Board=true)
    (sa_Board:PySem.W.findIn K (.ref c_Board) "__setattr__" =some (some (.builtin "object.__setattr__")))
    (mk_Board:PySem.W.makesIn K c_Board=true)
    (ca_Board:PySem.W.findIn K (.ref c_Board) "__class__" =some (some (.builtin "object.__class__")))
    (ob_Board:PySem.W.mroIn K c_Board (.type "object")=some true)
    (kC_Board:PySem.W.keepIn K (.ref c_Board)=true)
    (no_Board_own_size:PySem.W.findIn K (.ref c_Board) "own_size" =some none)
    (no_Board_up_mask:PySem.W.findIn K (.ref c_Board) "up_mask" =some none)
    (aC_CellError:PySem.W.nsIn K mainGlobals "CellError" =some (some (.ref c_CellError)))
    (aC_NoSize:PySem.W.nsIn K mainGlobals "NoSize" =some (some (.ref c_NoSize)))
    (aC_NoCell:PySem.W.nsIn K mainGlobals "NoCell" =some (some (.ref c_NoCell)))
    (aC_NoCells:PySem.W.nsIn K mainGlobals "NoCells" =some (some (.ref c_NoCells)))
    (aC_NoFlip:PySem.W.nsIn K mainGlobals "NoFlip" =some (some (.ref c_NoFlip)))
    (ga_CellError:PySem.W.findIn K (.ref c_CellError) "__getattribute__" =some (some (.builtin "BaseException.__getattribute__")))
    (gg_CellError:PySem.W.findIn K (.ref c_CellError) "__getattr__" =some none)
    (eC_CellError:PySem.W.subIn K (.ref c_CellError) (.type "BaseException")=some true)
    (hd_CellError:PySem.W.hasDictIn K c_CellError=true)
    (ic_CellError:PySem.W.isClsIn K c_CellError=true)
    (tC_CellError:PySem.W.typeIn K (.ref c_CellError)=some (.type "type"))
    (ca_CellError:PySem.W.findIn K (.ref c_CellError) "__class__" =some (some (.builtin "object.__class__")))
    (ob_CellError:PySem.W.mroIn K c_CellError (.type "object")=some true)
    (me_CellError:PySem.W.subIn K (.ref c_CellError) (.ref c_CellError)=some true)
    (ga_NoSize:PySem.W.findIn K (.ref c_NoSize) "__getattribute__" =some (some (.builtin "BaseException.__getattribute__")))
    (gg_NoSize:PySem.W.findIn K (.ref c_NoSize) "__getattr__" =some none)
    (eC_NoSize:PySem.W.subIn K (.ref c_NoSize) (.type "BaseException")=some true)
    (hd_NoSize:PySem.W.hasDictIn K c_NoSize=true)
    (ic_NoSize:PySem.W.isClsIn K c_NoSize=true)
    (tC_NoSize:PySem.W.typeIn K (.ref c_NoSize)=some (.type "type"))
    (ca_NoSize:PySem.W.findIn K (.ref c_NoSize) "__class__" =some (some (.builtin "object.__class__")))
    (ob_NoSize:PySem.W.mroIn K c_NoSize (.type "object")=some true)
    (me_NoSize:PySem.W.subIn K (.ref c_NoSize) (.ref c_NoSize)=some true)
    (ga_NoCell:PySem.W.findIn K (.ref c_NoCell) "__getattribute__" =some (some (.builtin "BaseException.__getattribute__")))
    (gg_NoCell:PySem.W.findIn K (.ref c_NoCell) "__getattr__" =some none)
    (eC_NoCell:PySem.W.subIn K (.ref c_NoCell) (.type "BaseException")=some true)
    (hd_NoCell:PySem.W.hasDictIn K c_NoCell=true)
    (ic_NoCell:PySem.W.isClsIn K c_NoCell=true)
    (tC_NoCell:PySem.W.typeIn K (.ref c_NoCell)=some (.type "type"))
    (ca_NoCell:PySem.W.findIn K (.ref c_NoCell) "__class__" =some (some (.builtin "object.__class__")))
    (ob_NoCell:PySem.W.mroIn K c_NoCell (.type "object")=some true)
    (me_NoCell:PySem.W.subIn K (.ref c_NoCell) (.ref c_NoCell)=some true)
    (ga_NoCells:PySem.W.findIn K (.ref c_NoCells) "__getattribute__" =some (some (.builtin "BaseException.__getattribute__")))
    (gg_NoCells:PySem.W.findIn K (.ref c_NoCells) "__getattr__" =some none)
    (eC_NoCells:PySem.W.subIn K (.ref c_NoCells) (.type "BaseException")=some true)
    (hd_NoCells:PySem.W.hasDictIn K c_NoCells=true)
    (ic_NoCells:PySem.W.isClsIn K c_NoCells=true)
    (tC_NoCells:PySem.W.typeIn K (.ref c_NoCells)=some (.type "type"))
    (ca_NoCells:PySem.W.findIn K (.ref c_NoCells) "__class__" =some (some (.builtin "object.__class__")))
    (ob_NoCells:PySem.W.mroIn K c_NoCells (.type "object")=some true)
    (me_NoCells:PySem.W.subIn K (.ref c_NoCells) (.ref c_NoCells)=some true)
    (ga_NoFlip:PySem.W.findIn K (.ref c_NoFlip) "__getattribute__" =some (some (.builtin "BaseException.__getattribute__")))
    (gg_NoFlip:PySem.W.findIn K (.ref c_NoFlip) "__getattr__" =some none)
    (eC_NoFlip:PySem.W.subIn K (.ref c_NoFlip) (.type "BaseException")=some true)
    (hd_NoFlip:PySem.W.hasDictIn K c_NoFlip=true)
    (ic_NoFlip:PySem.W.isClsIn K c_NoFlip=true)
    (tC_NoFlip:PySem.W.typeIn K (.ref c_NoFlip)=some (.type "type"))
    (ca_NoFlip:PySem.W.findIn K (.ref c_NoFlip) "__class__" =some (some (.builtin "object.__class__")))
    (ob_NoFlip:PySem.W.mroIn K c_NoFlip (.type "object")=some true)
    (me_NoFlip:PySem.W.subIn K (.ref c_NoFlip) (.ref c_NoFlip)=some true)
    (rD_CellError:PySem.W.readsIn K c_CellError (.type "type")=true)
    (gD_CellError:PySem.W.specialIn K (.ref c_CellError) "__getattribute__" =some (some (.builtin "type.__getattribute__")))
    (iD_CellError:PySem.W.findCls K (.ref c_CellError) (.type "type") "__init__" =some (.val (.builtin "ValueError.__init__")))
    (xL_NoSize:K.lookup c_NoSize=some (excClassObj nm_NoSize qn_NoSize c_NoSize N_NoSize bs_NoSize (.ref c_CellError:: [.type "ValueError",.type "Exception",.type "BaseException",.type "object"]) true sn_NoSize sb_NoSize ab_NoSize col_NoSize dd_NoSize m0_NoSize m1_NoSize m2_NoSize m3_NoSize m5_NoSize "ValueError.__new__"))
    (sa_NoSize:PySem.W.findIn K (.ref c_NoSize) "__setattr__" =some (some (.builtin "object.__setattr__")))
    (no_NoSize_0:PySem.W.findIn K (.ref c_NoSize) "value" =some none)
    (iI_NoSize:PySem.W.findIn K (.ref c_NoSize) "__init__" =some (some (.ref fI_NoSize)))
    (tI_NoSize:PySem.W.typeIn K (.ref fI_NoSize)=some (.type "function"))
    (lI_NoSize:K.lookup fI_NoSize=some ⟨oc_NoSize,od_NoSize,.func (PySem.W.fnOf "__init__" "NoSize.__init__" (defArgs st_NoSize) (defBody st_NoSize) (defScope st_NoSize) .none kV_NoSize dc_NoSize pm_NoSize an_NoSize cd_NoSize ct_NoSize),sl_NoSize⟩)
    (cI_NoSize:PySem.W.codeIn K cd_NoSize "NoSize.__init__" =true)
    (kC_NoSize:PySem.W.keepIn K (.ref c_NoSize)=true)
    (xL_NoCell:K.lookup c_NoCell=some (excClassObj nm_NoCell qn_NoCell c_NoCell N_NoCell bs_NoCell (.ref c_CellError:: [.type "ValueError",.type "Exception",.type "BaseException",.type "object"]) true sn_NoCell sb_NoCell ab_NoCell col_NoCell dd_NoCell m0_NoCell m1_NoCell m2_NoCell m3_NoCell m5_NoCell "ValueError.__new__"))
    (sa_NoCell:PySem.W.findIn K (.ref c_NoCell) "__setattr__" =some (some (.builtin "object.__setattr__")))
    (no_NoCell_0:PySem.W.findIn K (.ref c_NoCell) "cell" =some none)
    (iI_NoCell:PySem.W.findIn K (.ref c_NoCell) "__init__" =some (some (.ref fI_NoCell)))
    (tI_NoCell:PySem.W.typeIn K (.ref fI_NoCell)=some (.type "function"))
    (lI_NoCell:K.lookup fI_NoCell=some ⟨oc_NoCell,od_NoCell,.func (PySem.W.fnOf "__init__" "NoCell.__init__" (defArgs st_NoCell) (defBody st_NoCell) (defScope st_NoCell) .none kV_NoCell dc_NoCell pm_NoCell an_NoCell cd_NoCell ct_NoCell),sl_NoCell⟩)
    (cI_NoCell:PySem.W.codeIn K cd_NoCell "NoCell.__init__" =true)
    (kC_NoCell:PySem.W.keepIn K (.ref c_NoCell)=true)
    (xL_NoCells:K.lookup c_NoCells=some (excClassObj nm_NoCells qn_NoCells c_NoCells N_NoCells bs_NoCells (.ref c_CellError:: [.type "ValueError",.type "Exception",.type "BaseException",.type "object"]) true sn_NoCells sb_NoCells ab_NoCells col_NoCells dd_NoCells m0_NoCells m1_NoCells m2_NoCells m3_NoCells m5_NoCells "ValueError.__new__"))
    (sa_NoCells:PySem.W.findIn K (.ref c_NoCells) "__setattr__" =some (some (.builtin "object.__setattr__")))
    (no_NoCells_0:PySem.W.findIn K (.ref c_NoCells) "cells" =some none)
    (iI_NoCells:PySem.W.findIn K (.ref c_NoCells) "__init__" =some (some (.ref fI_NoCells)))
    (tI_NoCells:PySem.W.typeIn K (.ref fI_NoCells)=some (.type "function"))
    (lI_NoCells:K.lookup fI_NoCells=some ⟨oc_NoCells,od_NoCells,.func (PySem.W.fnOf "__init__" "NoCells.__init__" (defArgs st_NoCells) (defBody st_NoCells) (defScope st_NoCells) .none kV_NoCells dc_NoCells pm_NoCells an_NoCells cd_NoCells ct_NoCells),sl_NoCells⟩)
    (cI_NoCells:PySem.W.codeIn K cd_NoCells "NoCells.__init__" =true)
    (kC_NoCells:PySem.W.keepIn K (.ref c_NoCells)=true)
    (xL_NoFlip:K.lookup c_NoFlip=some (excClassObj nm_NoFlip qn_NoFlip c_NoFlip N_NoFlip bs_NoFlip (.ref c_CellError:: [.type "ValueError",.type "Exception",.type "BaseException",.type "object"]) true sn_NoFlip sb_NoFlip ab_NoFlip col_NoFlip dd_NoFlip m0_NoFlip m1_NoFlip m2_NoFlip m3_NoFlip m5_NoFlip "ValueError.__new__"))
    (sa_NoFlip:PySem.W.findIn K (.ref c_NoFlip) "__setattr__" =some (some (.builtin "object.__setattr__")))
    (no_NoFlip_0:PySem.W.findIn K (.ref c_NoFlip) "why" =some none)
    (iI_NoFlip:PySem.W.findIn K (.ref c_NoFlip) "__init__" =some (some (.ref fI_NoFlip)))
    (tI_NoFlip:PySem.W.typeIn K (.ref fI_NoFlip)=some (.type "function"))
    (lI_NoFlip:K.lookup fI_NoFlip=some ⟨oc_NoFlip,od_NoFlip,.func (PySem.W.fnOf "__init__" "NoFlip.__init__" (defArgs st_NoFlip) (defBody st_NoFlip) (defScope st_NoFlip) .none kV_NoFlip dc_NoFlip pm_NoFlip an_NoFlip cd_NoFlip ct_NoFlip),sl_NoFlip⟩)
    (cI_NoFlip:PySem.W.codeIn K cd_NoFlip "NoFlip.__init__" =true)
    (kC_NoFlip:PySem.W.keepIn K (.ref c_NoFlip)=true)
    (cq1:PySem.W.specialIn K (.builtin "object.__class__") "__get__" =some (some (.builtin "getset_descriptor.__get__")))
    (cq2:PySem.W.takesIn K (.builtin "object.__class__")=some true)
    (s_NoSize_NoCell:PySem.W.subIn K (.ref c_NoSize) (.ref c_NoCell)=some false)
    (s_NoSize_NoCells:PySem.W.subIn K (.ref c_NoSize) (.ref c_NoCells)=some false)
    (s_NoSize_NoFlip:PySem.W.subIn K (.ref c_NoSize) (.ref c_NoFlip)=some false)
    (s_NoSize_NoSize:PySem.W.subIn K (.ref c_NoSize) (.ref c_NoSize)=some true)
    (s_NoSize_ValueError:PySem.W.subIn K (.ref c_NoSize) (.type "ValueError")=some true)
    (s_NoCell_NoCell:PySem.W.subIn K (.ref c_NoCell) (.ref c_NoCell)=some true)
    (s_NoCell_NoCells:PySem.W.subIn K (.ref c_NoCell) (.ref c_NoCells)=some false)
    (s_NoCell_NoFlip:PySem.W.subIn K (.ref c_NoCell) (.ref c_NoFlip)=some false)
    (s_NoCell_NoSize:PySem.W.subIn K (.ref c_NoCell) (.ref c_NoSize)=some false)
    (s_NoCell_ValueError:PySem.W.subIn K (.ref c_NoCell) (.type "ValueError")=some true)
    (s_NoCells_NoCell:PySem.W.subIn K (.ref c_NoCells) (.ref c_NoCell)=some false)
    (s_NoCells_NoCells:PySem.W.subIn K (.ref c_NoCells) (.ref c_NoCells)=some true)
    (s_NoCells_NoFlip:PySem.W.subIn K (.ref c_NoCells) (.ref c_NoFlip)=some false)
    (s_NoCells_NoSize:PySem.W.subIn K (.ref c_NoCells) (.ref c_NoSize)=some false)
    (s_NoCells_ValueError:PySem.W.subIn K (.ref c_NoCells) (.type "ValueError")=some true)
    (s_NoFlip_NoCell:PySem.W.subIn K (.ref c_NoFlip) (.ref c_NoCell)=some false)
    (s_NoFlip_NoCells:PySem.W.subIn K (.ref c_NoFlip) (.ref c_NoCells)=some false)
    (s_NoFlip_NoFlip:PySem.W.subIn K (.ref c_NoFlip) (.ref c_NoFlip)=some true)
    (s_NoFlip_NoSize:PySem.W.subIn K (.ref c_NoFlip) (.ref c_NoSize)=some false)
    (s_NoFlip_ValueError:PySem.W.subIn K (.ref c_NoFlip) (.type "ValueError")=some true)
    (z_ValueError:PySem.W.nsIn K mainGlobals "ValueError" =some none)
    (z_abs:PySem.W.nsIn K mainGlobals "abs" =some none)
    (z_all:PySem.W.nsIn K mainGlobals "all" =some none)
    (z_bool:PySem.W.nsIn K mainGlobals "bool" =some none)
    (z_divmod:PySem.W.nsIn K mainGlobals "divmod" =some none)
    (z_enumerate:PySem.W.nsIn K mainGlobals "enumerate" =some none)
    (z_int:PySem.W.nsIn K mainGlobals "int" =some none)
    (z_isinstance:PySem.W.nsIn K mainGlobals "isinstance" =some none)
    (z_len:PySem.W.nsIn K mainGlobals "len" =some none)
    (z_list:PySem.W.nsIn K mainGlobals "list" =some none)
    (z_max:PySem.W.nsIn K mainGlobals "max" =some none)
    (z_min:PySem.W.nsIn K mainGlobals "min" =some none)
    (z_range:PySem.W.nsIn K mainGlobals "range" =some none)
    (z_repr:PySem.W.nsIn K mainGlobals "repr" =some none)
    (z_sorted:PySem.W.nsIn K mainGlobals "sorted" =some none)
    (z_sum:PySem.W.nsIn K mainGlobals "sum" =some none)
    (z_tuple:PySem.W.nsIn K mainGlobals "tuple" =some none)
    (z_zip:PySem.W.nsIn K mainGlobals "zip" =some none)
    (v_MOST_CELLS:PySem.W.nsIn K mainGlobals "MOST_CELLS" =some (some (.int 40 t_MOST_CELLS)))
    (nd: [lp_law_asked_right,lp_law_made_right].Nodup)
    : ∃(fd:FuncData) (cs:List (Addr×Addr)),(∀p∈cs,PySem.W.CodeHd h p.1 p.2∧h.get? p.2=some (PySem.W.tabObj #[]))∧(∀p∈cs,K.lookup p.2=none)∧(∀(s:Shared) (v:Value),BindsTo s fd ⟨[v],[]⟩ [("_law_script",v)])∧ ∀base:Heap,K.In base→base.Ns mainGlobals mg→(∀p∈cs,LamX.TabB base mg p.1 p.2)→FnG l.prog w K mg base 12 fa fd ["_law_script"] (sp_topT K cs):=by
  obtain rfl:f_33=fa:=by
    have e:=hfa.symm.trans (PySem.W.mg_of X G a_law)
    cases e
    rfl
  let T:(base:Heap)→(∀p∈ [(lc_law_asked_right,lp_law_asked_right),(lc_law_made_right,lp_law_made_right)],LamX.TabB base mg p.1 p.2)→Tx K mg ⟨c_CellError,c_NoSize,c_NoCell,c_NoCells,c_NoFlip,c_Board,da_Board____init_0,lp_law_asked_right,lp_law_made_right⟩:=fun base TB=>
    { lb:=base
      tnd:=nd
      a__law_pot:=f_0
      fd__law_pot:=_
      F__law_pot:=fun_mk (st:=st__law_pot) l_law_pot c_law_pot k_law_pot
      g__law_pot:=PySem.W.mg_of X G a_law_pot
      a__law_draw:=f_1
      fd__law_draw:=_
      F__law_draw:=fun_mk (st:=st__law_draw) l_law_draw c_law_draw k_law_draw
      g__law_draw:=PySem.W.mg_of X G a_law_draw
      a__law_width:=f_2
      fd__law_width:=_
      F__law_width:=fun_mk (st:=st__law_width) l_law_width c_law_width k_law_width
      g__law_width:=PySem.W.mg_of X G a_law_width
      a__law_bits:=f_3
      fd__law_bits:=_
      F__law_bits:=fun_mk (st:=st__law_bits) l_law_bits c_law_bits k_law_bits
      g__law_bits:=PySem.W.mg_of X G a_law_bits
      a_is_integer_in:=f_4
      fd_is_integer_in:=_
      F_is_integer_in:=fun_mk (st:=st_is_integer_in) l_is_integer_in c_is_integer_in k_is_integer_in
      g_is_integer_in:=PySem.W.mg_of X G a_is_integer_in
      a_require_size:=f_5
      fd_require_size:=_
      F_require_size:=fun_mk (st:=st_require_size) l_require_size c_require_size k_require_size
      g_require_size:=PySem.W.mg_of X G a_require_size
      a_mask_of:=f_6
      fd_mask_of:=_
      F_mask_of:=fun_mk (st:=st_mask_of) l_mask_of c_mask_of k_mask_of
      g_mask_of:=PySem.W.mg_of X G a_mask_of
      a_is_cell:=f_7
      fd_is_cell:=_
      F_is_cell:=fun_mk (st:=st_is_cell) l_is_cell c_is_cell k_is_cell
      g_is_cell:=PySem.W.mg_of X G a_is_cell
      D_is_cell:=funD_of (st:=st_is_cell) l_is_cell c_is_cell k_is_cell (by simpa using ⟨_,kw_is_cell_0,_,rfl⟩)
      a_cell_tuple:=f_8
      fd_cell_tuple:=_
      F_cell_tuple:=fun_mk (st:=st_cell_tuple) l_cell_tuple c_cell_tuple k_cell_tuple
      g_cell_tuple:=PySem.W.mg_of X G a_cell_tuple
      D_cell_tuple:=funD_of (st:=st_cell_tuple) l_cell_tuple c_cell_tuple k_cell_tuple (by simpa using ⟨_,kw_cell_tuple_0,_,rfl⟩)
      a_cell_mask:=f_9
      fd_cell_mask:=_
      F_cell_mask:=fun_mk (st:=st_cell_mask) l_cell_mask c_cell_mask k_cell_mask
      g_cell_mask:=PySem.W.mg_of X G a_cell_mask
      a_Board____init__:=f_10
      fd_Board____init__:=_
      F_Board____init__:=fun_mk (st:=st_Board____init__) l_Board____init c_Board____init k_Board____init
      mk_Board:=⟨mk_Board,a_Board____init,i_Board____init,kC_Board⟩
      dt_Board____init___up:= .inr ⟨_,#[],_,kt_Board____init_0,rfl,rfl,Nat.zero_le _,.nil⟩
      D_Board____init__:=funD_of (st:=st_Board____init__) l_Board____init c_Board____init k_Board____init (by simpa using ⟨_,kw_Board____init_0,rfl⟩)
      a__law_up:=f_11
      fd__law_up:=_
      F__law_up:=fun_mk (st:=st__law_up) l_law_up c_law_up k_law_up
      g__law_up:=PySem.W.mg_of X G a_law_up
      a__law_made:=f_12
      fd__law_made:=_
      F__law_made:=fun_mk (st:=st__law_made) l_law_made c_law_made k_law_made
      g__law_made:=PySem.W.mg_of X G a_law_made
      a__law_any_thing:=f_13
      fd__law_any_thing:=_
      F__law_any_thing:=fun_mk (st:=st__law_any_thing) l_law_any_thing c_law_any_thing k_law_any_thing
      g__law_any_thing:=PySem.W.mg_of X G a_law_any_thing
      a__law_mixed:=f_14
      fd__law_mixed:=_
      F__law_mixed:=fun_mk (st:=st__law_mixed) l_law_mixed c_law_mixed k_law_mixed
      g__law_mixed:=PySem.W.mg_of X G a_law_mixed
      a__law_spots:=f_15
      fd__law_spots:=_
      F__law_spots:=fun_mk (st:=st__law_spots) l_law_spots c_law_spots k_law_spots
      g__law_spots:=PySem.W.mg_of X G a_law_spots
      a__law_odd_spots:=f_16
      fd__law_odd_spots:=_
      F__law_odd_spots:=fun_mk (st:=st__law_odd_spots) l_law_odd_spots c_law_odd_spots k_law_odd_spots
      g__law_odd_spots:=PySem.W.mg_of X G a_law_odd_spots
      a__law_is_int:=f_17
      fd__law_is_int:=_
      F__law_is_int:=fun_mk (st:=st__law_is_int) l_law_is_int c_law_is_int k_law_is_int
      g__law_is_int:=PySem.W.mg_of X G a_law_is_int
      a__law_kind:=f_18
      fd__law_kind:=_
      F__law_kind:=fun_mk (st:=st__law_kind) l_law_kind c_law_kind k_law_kind
      g__law_kind:=PySem.W.mg_of X G a_law_kind
      a__law_met:=f_19
      fd__law_met:=_
      F__law_met:=fun_mk (st:=st__law_met) l_law_met c_law_met k_law_met
      g__law_met:=PySem.W.mg_of X G a_law_met
      a_require_cell:=f_20
      fd_require_cell:=_
      F_require_cell:=fun_mk (st:=st_require_cell) l_require_cell c_require_cell k_require_cell
      g_require_cell:=PySem.W.mg_of X G a_require_cell
      a_Board__is_up:=f_21
      fd_Board__is_up:=_
      F_Board__is_up:=fun_mk (st:=st_Board__is_up) l_Board__is_up c_Board__is_up k_Board__is_up
      m_Board__is_up:=⟨a_Board__is_up,i_Board__is_up,k_Board__is_up⟩
      a__law_are_spots:=f_22
      fd__law_are_spots:=_
      F__law_are_spots:=fun_mk (st:=st__law_are_spots) l_law_are_spots c_law_are_spots k_law_are_spots
      g__law_are_spots:=PySem.W.mg_of X G a_law_are_spots
      a_is_odd:=f_23
      fd_is_odd:=_
      F_is_odd:=fun_mk (st:=st_is_odd) l_is_odd c_is_odd k_is_odd
      g_is_odd:=PySem.W.mg_of X G a_is_odd
      a_Board__parity:=f_24
      fd_Board__parity:=_
      F_Board__parity:=fun_mk (st:=st_Board__parity) l_Board__parity c_Board__parity k_Board__parity
      m_Board__parity:=⟨a_Board__parity,i_Board__parity,k_Board__parity⟩
      a_cells_in:=f_25
      fd_cells_in:=_
      F_cells_in:=fun_mk (st:=st_cells_in) l_cells_in c_cells_in k_cells_in
      g_cells_in:=PySem.W.mg_of X G a_cells_in
      a_board_of:=f_26
      fd_board_of:=_
      F_board_of:=fun_mk (st:=st_board_of) l_board_of c_board_of k_board_of
      g_board_of:=PySem.W.mg_of X G a_board_of
      a_Board__toggled:=f_27
      fd_Board__toggled:=_
      F_Board__toggled:=fun_mk (st:=st_Board__toggled) l_Board__toggled c_Board__toggled k_Board__toggled
      m_Board__toggled:=⟨a_Board__toggled,i_Board__toggled,k_Board__toggled⟩
      lc__law_asked_right:=lc_law_asked_right
      lk__law_asked_right:=rfl
      tb__law_asked_right:=TB (lc_law_asked_right,lp_law_asked_right) (by simp)
      a__law_asked_right:=f_28
      fd__law_asked_right:=_
      F__law_asked_right:=fun_mk (st:=st__law_asked_right) l_law_asked_right c_law_asked_right k_law_asked_right
      g__law_asked_right:=PySem.W.mg_of X G a_law_asked_right
      lc__law_made_right:=lc_law_made_right
      lk__law_made_right:=rfl
      tb__law_made_right:=TB (lc_law_made_right,lp_law_made_right) (by simp)
      a__law_made_right:=f_29
      fd__law_made_right:=_
      F__law_made_right:=fun_mk (st:=st__law_made_right) l_law_made_right c_law_made_right k_law_made_right
      g__law_made_right:=PySem.W.mg_of X G a_law_made_right
      a_Board__size:=f_30
      fd_Board__size:=_
      F_Board__size:=fun_mk (st:=st_Board__size) l_Board__size c_Board__size k_Board__size
      m_Board__size:=⟨a_Board__size,i_Board__size,k_Board__size⟩
      a_Board__up:=f_31
      fd_Board__up:=_
      F_Board__up:=fun_mk (st:=st_Board__up) l_Board__up c_Board__up k_Board__up
      m_Board__up:=⟨a_Board__up,i_Board__up,k_Board__up⟩
      a__law_is_so:=f_32
      fd__law_is_so:=_
      F__law_is_so:=fun_mk (st:=st__law_is_so) l_law_is_so c_law_is_so k_law_is_so
      g__law_is_so:=PySem.W.mg_of X G a_law_is_so
      a_law:=f_33
      fd_law:=_
      F_law:=fun_mk (st:=st_law) l_law c_law k_law
      g_law:=PySem.W.mg_of X G a_law
      gc_Board:=PySem.W.mg_of X G aC_Board
      cls_Board:=⟨pg_Board,hd_Board,po_Board,sa_Board⟩
      ty_Board:=⟨ca_Board,ob_Board⟩
      no_Board_own_size:=no_Board_own_size
      no_Board_up_mask:=no_Board_up_mask
      q_CellError:=⟨ga_CellError,gg_CellError,eC_CellError,hd_CellError,ic_CellError,tC_CellError,ca_CellError,ob_CellError,me_CellError⟩
      q_NoSize:=⟨ga_NoSize,gg_NoSize,eC_NoSize,hd_NoSize,ic_NoSize,tC_NoSize,ca_NoSize,ob_NoSize,me_NoSize⟩
      q_NoCell:=⟨ga_NoCell,gg_NoCell,eC_NoCell,hd_NoCell,ic_NoCell,tC_NoCell,ca_NoCell,ob_NoCell,me_NoCell⟩
      q_NoCells:=⟨ga_NoCells,gg_NoCells,eC_NoCells,hd_NoCells,ic_NoCells,tC_NoCells,ca_NoCells,ob_NoCells,me_NoCells⟩
      q_NoFlip:=⟨ga_NoFlip,gg_NoFlip,eC_NoFlip,hd_NoFlip,ic_NoFlip,tC_NoFlip,ca_NoFlip,ob_NoFlip,me_NoFlip⟩
      g_CellError:=PySem.W.mg_of X G aC_CellError
      f_NoSize:=fI_NoSize
      e_NoSize:= { bb:=eb_value,gC:=PySem.W.mg_of X G aC_NoSize,gD:=PySem.W.mg_of X G aC_CellError,cls:=⟨_,_,_,_,_,_,_,_,_,_,_,_,_,_,xL_NoSize⟩,sa:=sa_NoSize,noF:=by intro y hy;rcases (by simpa using hy:y= "value") with rfl <;> first | exact no_NoSize_0,iC:=iI_NoSize,tI:=tI_NoSize,kC:=kC_NoSize,eC:=eC_NoSize,tC:=tC_NoSize,rD:=rD_CellError,gaD:=gD_CellError,iD:=iD_CellError,fn:=⟨"NoSize.__init__",_,_,_,_,_,_,_,_,_,lI_NoSize,cI_NoSize,d_NoSize⟩ }
      f_NoCell:=fI_NoCell
      e_NoCell:= { bb:=eb_value,gC:=PySem.W.mg_of X G aC_NoCell,gD:=PySem.W.mg_of X G aC_CellError,cls:=⟨_,_,_,_,_,_,_,_,_,_,_,_,_,_,xL_NoCell⟩,sa:=sa_NoCell,noF:=by intro y hy;rcases (by simpa using hy:y= "cell") with rfl <;> first | exact no_NoCell_0,iC:=iI_NoCell,tI:=tI_NoCell,kC:=kC_NoCell,eC:=eC_NoCell,tC:=tC_NoCell,rD:=rD_CellError,gaD:=gD_CellError,iD:=iD_CellError,fn:=⟨"NoCell.__init__",_,_,_,_,_,_,_,_,_,lI_NoCell,cI_NoCell,d_NoCell⟩ }
      f_NoCells:=fI_NoCells
      e_NoCells:= { bb:=eb_value,gC:=PySem.W.mg_of X G aC_NoCells,gD:=PySem.W.mg_of X G aC_CellError,cls:=⟨_,_,_,_,_,_,_,_,_,_,_,_,_,_,xL_NoCells⟩,sa:=sa_NoCells,noF:=by intro y hy;rcases (by simpa using hy:y= "cells") with rfl <;> first | exact no_NoCells_0,iC:=iI_NoCells,tI:=tI_NoCells,kC:=kC_NoCells,eC:=eC_NoCells,tC:=tC_NoCells,rD:=rD_CellError,gaD:=gD_CellError,iD:=iD_CellError,fn:=⟨"NoCells.__init__",_,_,_,_,_,_,_,_,_,lI_NoCells,cI_NoCells,d_NoCells⟩ }
      f_NoFlip:=fI_NoFlip
      e_NoFlip:= { bb:=eb_value,gC:=PySem.W.mg_of X G aC_NoFlip,gD:=PySem.W.mg_of X G aC_CellError,cls:=⟨_,_,_,_,_,_,_,_,_,_,_,_,_,_,xL_NoFlip⟩,sa:=sa_NoFlip,noF:=by intro y hy;rcases (by simpa using hy:y= "why") with rfl <;> first | exact no_NoFlip_0,iC:=iI_NoFlip,tI:=tI_NoFlip,kC:=kC_NoFlip,eC:=eC_NoFlip,tC:=tC_NoFlip,rD:=rD_CellError,gaD:=gD_CellError,iD:=iD_CellError,fn:=⟨"NoFlip.__init__",_,_,_,_,_,_,_,_,_,lI_NoFlip,cI_NoFlip,d_NoFlip⟩ }
      cq:=⟨cq1,cq2⟩
      s_NoSize_NoCell:=s_NoSize_NoCell
      s_NoSize_NoCells:=s_NoSize_NoCells
      s_NoSize_NoFlip:=s_NoSize_NoFlip
      s_NoSize_NoSize:=s_NoSize_NoSize
      s_NoSize_ValueError:=s_NoSize_ValueError
      s_NoCell_NoCell:=s_NoCell_NoCell
      s_NoCell_NoCells:=s_NoCell_NoCells
      s_NoCell_NoFlip:=s_NoCell_NoFlip
      s_NoCell_NoSize:=s_NoCell_NoSize
      s_NoCell_ValueError:=s_NoCell_ValueError
      s_NoCells_NoCell:=s_NoCells_NoCell
      s_NoCells_NoCells:=s_NoCells_NoCells
      s_NoCells_NoFlip:=s_NoCells_NoFlip
      s_NoCells_NoSize:=s_NoCells_NoSize
      s_NoCells_ValueError:=s_NoCells_ValueError
      s_NoFlip_NoCell:=s_NoFlip_NoCell
      s_NoFlip_NoCells:=s_NoFlip_NoCells
      s_NoFlip_NoFlip:=s_NoFlip_NoFlip
      s_NoFlip_NoSize:=s_NoFlip_NoSize
      s_NoFlip_ValueError:=s_NoFlip_ValueError
      z_ValueError:=PySem.W.mg_none_of X G z_ValueError
      z_abs:=PySem.W.mg_none_of X G z_abs
      z_all:=PySem.W.mg_none_of X G z_all
      z_bool:=PySem.W.mg_none_of X G z_bool
      z_divmod:=PySem.W.mg_none_of X G z_divmod
      z_enumerate:=PySem.W.mg_none_of X G z_enumerate
      z_int:=PySem.W.mg_none_of X G z_int
      z_isinstance:=PySem.W.mg_none_of X G z_isinstance
      z_len:=PySem.W.mg_none_of X G z_len
      z_list:=PySem.W.mg_none_of X G z_list
      z_max:=PySem.W.mg_none_of X G z_max
      z_min:=PySem.W.mg_none_of X G z_min
      z_range:=PySem.W.mg_none_of X G z_range
      z_repr:=PySem.W.mg_none_of X G z_repr
      z_sorted:=PySem.W.mg_none_of X G z_sorted
      z_sum:=PySem.W.mg_none_of X G z_sum
      z_tuple:=PySem.W.mg_none_of X G z_tuple
      z_zip:=PySem.W.mg_none_of X G z_zip
      t_MOST_CELLS:=t_MOST_CELLS
      c_MOST_CELLS:=PySem.W.mg_of X G v_MOST_CELLS }
  refine⟨(PySem.W.fnOf "law" "law" (defArgs st_law) (defBody st_law) (defScope st_law) .none kV_33 dc_33 pm_33 an_33 cd_33 ct_33),[(lc_law_asked_right,lp_law_asked_right),(lc_law_made_right,lp_law_made_right)],?_,?_,fun s v=> .of_eq rfl,fun base _ _ TB=>(ok_law (T base TB)).imp fun vs H Q E q=>law_inT (ts:=tabs ⟨c_CellError,c_NoSize,c_NoCell,c_NoCells,c_NoFlip,c_Board,da_Board____init_0,lp_law_asked_right,lp_law_made_right⟩) rfl q (fun ns hn=>law_holds (T base TB) ns hn)⟩
  · intro p hp
    simp only[List.mem_cons,List.not_mem_nil,or_false] at hp
    rcases hp with rfl | rfl
    · exact hTab "_law_asked_right" _ _ rc_law_asked_right tb_law_asked_right
    · exact hTab "_law_made_right" _ _ rc_law_made_right tb_law_made_right
  · intro p hp
    simp only[List.mem_cons,List.not_mem_nil,or_false] at hp
    rcases hp with rfl | rfl
    · exact nk_law_asked_right
    · exact nk_law_made_right
end PX
open PySem PySem.W PyProof.Rows
set_option maxRecDepth 100000 in
set_option maxHeartbeats 0 in
theorem PySem.Challenge.cw_paritycells_k13_boards_refused_holds : PySem.Challenge.rw_paritycells_k13_boards_refused.Holds := by
  refine PX.hd_law fun said => ?_
  refine PySem.W.holds_open (q := PX.vwO PX.pO) (loose := PX.loO) (Xt := PX.xtO PX.rrO PX.pO) (XP := XL (PX.vwO PX.pO) PX.lvO) (Yf := Hook.obs (kHook PX.KK PX.KA PX.kA)) (Ya := Hook.val (kHook PX.KK PX.KA PX.kA)) (YP := Hook.says (kHook PX.KK PX.KA PX.kA)) PX.hd_left (Hook.of (kHook PX.KK PX.KA PX.kA)) (Hook.keeps (kHook PX.KK PX.KA PX.kA)) (fun s e => xl_of s (Bool.and_eq_true_iff.mp e).1) XL.keeps (by rfl) (by rfl) (by rfl) (fun s e => recFacts_of (Bool.and_eq_true_iff.mp e).2) (by rfl) said (by decide +kernel) ⟨rfl, rfl, rfl, rfl, rfl, by decide +kernel⟩ ?hw ?hc
  (case hw => w_witness2)
  k_fill
  refine PC.walkGT (l := PySem.Challenge.rw_paritycells_k13_boards_refused) (n := 63) (k := 12) (x := "_law_script") (sp := fun w cs => TL.sp_topT _ cs) rfl (by decide) rfl ⟨rfl, by decide, by decide⟩ (fun w h Y => PySem.W.kIn_of Y) ?K1 (by first | rfl | decide +kernel) ?F (fun _ _ _ a ns hl hb h1 h2 hS => ⟨a, ns, rfl, h1, h2, hS, hl, fun _ => rfl⟩)
  case K1 => intro w; first | rfl | k_is | decide +kernel
  case F =>
    intro w mg fa h KX G hTab hmg
    refine' PX.all_mk KX G hTab hmg ?aC_Board ?a_law_pot ?l_law_pot ?c_law_pot ?k_law_pot ?a_law_draw ?l_law_draw ?c_law_draw ?k_law_draw ?a_law_width ?l_law_width ?c_law_width ?k_law_width ?a_law_bits ?l_law_bits ?c_law_bits ?k_law_bits ?a_is_integer_in ?l_is_integer_in ?c_is_integer_in ?k_is_integer_in ?a_require_size ?l_require_size ?c_require_size ?k_require_size ?a_mask_of ?l_mask_of ?c_mask_of ?k_mask_of ?a_is_cell ?l_is_cell ?c_is_cell ?k_is_cell ?kw_is_cell_0 ?a_cell_tuple ?l_cell_tuple ?c_cell_tuple ?k_cell_tuple ?kw_cell_tuple_0 ?a_cell_mask ?l_cell_mask ?c_cell_mask ?k_cell_mask ?a_Board____init ?i_Board____init ?l_Board____init ?c_Board____init ?k_Board____init ?kw_Board____init_0 ?kt_Board____init_0 ?a_law_up ?l_law_up ?c_law_up ?k_law_up ?a_law_made ?l_law_made ?c_law_made ?k_law_made ?a_law_any_thing ?l_law_any_thing ?c_law_any_thing ?k_law_any_thing ?a_law_mixed ?l_law_mixed ?c_law_mixed ?k_law_mixed ?a_law_spots ?l_law_spots ?c_law_spots ?k_law_spots ?a_law_odd_spots ?l_law_odd_spots ?c_law_odd_spots ?k_law_odd_spots ?a_law_is_int ?l_law_is_int ?c_law_is_int ?k_law_is_int ?a_law_kind ?l_law_kind ?c_law_kind ?k_law_kind ?a_law_met ?l_law_met ?c_law_met ?k_law_met ?a_require_cell ?l_require_cell ?c_require_cell ?k_require_cell ?a_Board__is_up ?i_Board__is_up ?l_Board__is_up ?c_Board__is_up ?k_Board__is_up ?a_law_are_spots ?l_law_are_spots ?c_law_are_spots ?k_law_are_spots ?a_is_odd ?l_is_odd ?c_is_odd ?k_is_odd ?a_Board__parity ?i_Board__parity ?l_Board__parity ?c_Board__parity ?k_Board__parity ?a_cells_in ?l_cells_in ?c_cells_in ?k_cells_in ?a_board_of ?l_board_of ?c_board_of ?k_board_of ?a_Board__toggled ?i_Board__toggled ?l_Board__toggled ?c_Board__toggled ?k_Board__toggled ?a_law_asked_right ?tb_law_asked_right ?nk_law_asked_right ?rc_law_asked_right ?l_law_asked_right ?c_law_asked_right ?k_law_asked_right ?a_law_made_right ?tb_law_made_right ?nk_law_made_right ?rc_law_made_right ?l_law_made_right ?c_law_made_right ?k_law_made_right ?a_Board__size ?i_Board__size ?l_Board__size ?c_Board__size ?k_Board__size ?a_Board__up ?i_Board__up ?l_Board__up ?c_Board__up ?k_Board__up ?a_law_is_so ?l_law_is_so ?c_law_is_so ?k_law_is_so ?a_law ?l_law ?c_law ?k_law ?pg_Board ?hd_Board ?po_Board ?sa_Board ?mk_Board ?ca_Board ?ob_Board ?kC_Board ?no_Board_own_size ?no_Board_up_mask ?aC_CellError ?aC_NoSize ?aC_NoCell ?aC_NoCells ?aC_NoFlip ?ga_CellError ?gg_CellError ?eC_CellError ?hd_CellError ?ic_CellError ?tC_CellError ?ca_CellError ?ob_CellError ?me_CellError ?ga_NoSize ?gg_NoSize ?eC_NoSize ?hd_NoSize ?ic_NoSize ?tC_NoSize ?ca_NoSize ?ob_NoSize ?me_NoSize ?ga_NoCell ?gg_NoCell ?eC_NoCell ?hd_NoCell ?ic_NoCell ?tC_NoCell ?ca_NoCell ?ob_NoCell ?me_NoCell ?ga_NoCells ?gg_NoCells ?eC_NoCells ?hd_NoCells ?ic_NoCells ?tC_NoCells ?ca_NoCells ?ob_NoCells ?me_NoCells ?ga_NoFlip ?gg_NoFlip ?eC_NoFlip ?hd_NoFlip ?ic_NoFlip ?tC_NoFlip ?ca_NoFlip ?ob_NoFlip ?me_NoFlip ?rD_CellError ?gD_CellError ?iD_CellError ?xL_NoSize ?sa_NoSize ?no_NoSize_0 ?iI_NoSize ?tI_NoSize ?lI_NoSize ?cI_NoSize ?kC_NoSize ?xL_NoCell ?sa_NoCell ?no_NoCell_0 ?iI_NoCell ?tI_NoCell ?lI_NoCell ?cI_NoCell ?kC_NoCell ?xL_NoCells ?sa_NoCells ?no_NoCells_0 ?iI_NoCells ?tI_NoCells ?lI_NoCells ?cI_NoCells ?kC_NoCells ?xL_NoFlip ?sa_NoFlip ?no_NoFlip_0 ?iI_NoFlip ?tI_NoFlip ?lI_NoFlip ?cI_NoFlip ?kC_NoFlip ?cq1 ?cq2 ?s_NoSize_NoCell ?s_NoSize_NoCells ?s_NoSize_NoFlip ?s_NoSize_NoSize ?s_NoSize_ValueError ?s_NoCell_NoCell ?s_NoCell_NoCells ?s_NoCell_NoFlip ?s_NoCell_NoSize ?s_NoCell_ValueError ?s_NoCells_NoCell ?s_NoCells_NoCells ?s_NoCells_NoFlip ?s_NoCells_NoSize ?s_NoCells_ValueError ?s_NoFlip_NoCell ?s_NoFlip_NoCells ?s_NoFlip_NoFlip ?s_NoFlip_NoSize ?s_NoFlip_ValueError ?z_ValueError ?z_abs ?z_all ?z_bool ?z_divmod ?z_enumerate ?z_int ?z_isinstance ?z_len ?z_list ?z_max ?z_min ?z_range ?z_repr ?z_sorted ?z_sum ?z_tuple ?z_zip ?v_MOST_CELLS ?nd
    (case aC_Board => k_is)
    (case a_law_pot => k_is)
    (case l_law_pot => k_is)
    (case c_law_pot => k_is)
    (case k_law_pot => k_is)
    (case a_law_draw => k_is)
    (case l_law_draw => k_is)
    (case c_law_draw => k_is)
    (case k_law_draw => k_is)
    (case a_law_width => k_is)
    (case l_law_width => k_is)
    (case c_law_width => k_is)
    (case k_law_width => k_is)
    (case a_law_bits => k_is)
    (case l_law_bits => k_is)
    (case c_law_bits => k_is)
    (case k_law_bits => k_is)
    (case a_is_integer_in => k_is)
    (case l_is_integer_in => k_is)
    (case c_is_integer_in => k_is)
    (case k_is_integer_in => k_is)
    (case a_require_size => k_is)
    (case l_require_size => k_is)
    (case c_require_size => k_is)
    (case k_require_size => k_is)
    (case a_mask_of => k_is)
    (case l_mask_of => k_is)
    (case c_mask_of => k_is)
    (case k_mask_of => k_is)
    (case a_is_cell => k_is)
    (case l_is_cell => k_is)
    (case c_is_cell => k_is)
    (case k_is_cell => k_is)
    (case kw_is_cell_0 => k_is)
    (case a_cell_tuple => k_is)
    (case l_cell_tuple => k_is)
    (case c_cell_tuple => k_is)
    (case k_cell_tuple => k_is)
    (case kw_cell_tuple_0 => k_is)
    (case a_cell_mask => k_is)
    (case l_cell_mask => k_is)
    (case c_cell_mask => k_is)
    (case k_cell_mask => k_is)
    (case a_Board____init => k_is)
    (case i_Board____init => k_is)
    (case l_Board____init => k_is)
    (case c_Board____init => k_is)
    (case k_Board____init => k_is)
    (case kw_Board____init_0 => k_is)
    (case kt_Board____init_0 => k_is)
    (case a_law_up => k_is)
    (case l_law_up => k_is)
    (case c_law_up => k_is)
    (case k_law_up => k_is)
    (case a_law_made => k_is)
    (case l_law_made => k_is)
    (case c_law_made => k_is)
    (case k_law_made => k_is)
    (case a_law_any_thing => k_is)
    (case l_law_any_thing => k_is)
    (case c_law_any_thing => k_is)
    (case k_law_any_thing => k_is)
    (case a_law_mixed => k_is)
    (case l_law_mixed => k_is)
    (case c_law_mixed => k_is)
    (case k_law_mixed => k_is)
    (case a_law_spots => k_is)
    (case l_law_spots => k_is)
    (case c_law_spots => k_is)
    (case k_law_spots => k_is)
    (case a_law_odd_spots => k_is)
    (case l_law_odd_spots => k_is)
    (case c_law_odd_spots => k_is)
    (case k_law_odd_spots => k_is)
    (case a_law_is_int => k_is)
    (case l_law_is_int => k_is)
    (case c_law_is_int => k_is)
    (case k_law_is_int => k_is)
    (case a_law_kind => k_is)
    (case l_law_kind => k_is)
    (case c_law_kind => k_is)
    (case k_law_kind => k_is)
    (case a_law_met => k_is)
    (case l_law_met => k_is)
    (case c_law_met => k_is)
    (case k_law_met => k_is)
    (case a_require_cell => k_is)
    (case l_require_cell => k_is)
    (case c_require_cell => k_is)
    (case k_require_cell => k_is)
    (case a_Board__is_up => k_is)
    (case i_Board__is_up => k_is)
    (case l_Board__is_up => k_is)
    (case c_Board__is_up => k_is)
    (case k_Board__is_up => k_is)
    (case a_law_are_spots => k_is)
    (case l_law_are_spots => k_is)
    (case c_law_are_spots => k_is)
    (case k_law_are_spots => k_is)
    (case a_is_odd => k_is)
    (case l_is_odd => k_is)
    (case c_is_odd => k_is)
    (case k_is_odd => k_is)
    (case a_Board__parity => k_is)
    (case i_Board__parity => k_is)
    (case l_Board__parity => k_is)
    (case c_Board__parity => k_is)
    (case k_Board__parity => k_is)
    (case a_cells_in => k_is)
    (case l_cells_in => k_is)
    (case c_cells_in => k_is)
    (case k_cells_in => k_is)
    (case a_board_of => k_is)
    (case l_board_of => k_is)
    (case c_board_of => k_is)
    (case k_board_of => k_is)
    (case a_Board__toggled => k_is)
    (case i_Board__toggled => k_is)
    (case l_Board__toggled => k_is)
    (case c_Board__toggled => k_is)
    (case k_Board__toggled => k_is)
    (case a_law_asked_right => k_is)
    (case tb_law_asked_right => exact PC.tab_in (by k_is) (by k_is) (by rfl) (by rfl) (by k_is) (by rfl) (by rfl))
    (case nk_law_asked_right => first | rfl | decide +kernel)
    (case rc_law_asked_right => first | rfl | decide +kernel)
    (case l_law_asked_right => k_is)
    (case c_law_asked_right => k_is)
    (case k_law_asked_right => k_is)
    (case a_law_made_right => k_is)
    (case tb_law_made_right => exact PC.tab_in (by k_is) (by k_is) (by rfl) (by rfl) (by k_is) (by rfl) (by rfl))
    (case nk_law_made_right => first | rfl | decide +kernel)
    (case rc_law_made_right => first | rfl | decide +kernel)
    (case l_law_made_right => k_is)
    (case c_law_made_right => k_is)
    (case k_law_made_right => k_is)
    (case a_Board__size => k_is)
    (case i_Board__size => k_is)
    (case l_Board__size => k_is)
    (case c_Board__size => k_is)
    (case k_Board__size => k_is)
    (case a_Board__up => k_is)
    (case i_Board__up => k_is)
    (case l_Board__up => k_is)
    (case c_Board__up => k_is)
    (case k_Board__up => k_is)
    (case a_law_is_so => k_is)
    (case l_law_is_so => k_is)
    (case c_law_is_so => k_is)
    (case k_law_is_so => k_is)
    (case a_law => k_is)
    (case l_law => k_is)
    (case c_law => k_is)
    (case k_law => k_is)
    (case pg_Board => k_is)
    (case hd_Board => k_is)
    (case po_Board => k_is)
    (case sa_Board => k_is)
    (case mk_Board => k_is)
    (case ca_Board => k_is)
    (case ob_Board => k_is)
    (case kC_Board => k_is)
    (case no_Board_own_size => k_is)
    (case no_Board_up_mask => k_is)
    (case aC_CellError => k_is)
    (case aC_NoSize => k_is)
    (case aC_NoCell => k_is)
    (case aC_NoCells => k_is)
    (case aC_NoFlip => k_is)
    (case ga_CellError => k_is)
    (case gg_CellError => k_is)
    (case eC_CellError => k_is)
    (case hd_CellError => k_is)
    (case ic_CellError => k_is)
    (case tC_CellError => k_is)
    (case ca_CellError => k_is)
    (case ob_CellError => k_is)
    (case me_CellError => k_is)
    (case ga_NoSize => k_is)
    (case gg_NoSize => k_is)
    (case eC_NoSize => k_is)
    (case hd_NoSize => k_is)
    (case ic_NoSize => k_is)
    (case tC_NoSize => k_is)
    (case ca_NoSize => k_is)
    (case ob_NoSize => k_is)
    (case me_NoSize => k_is)
    (case ga_NoCell => k_is)
    (case gg_NoCell => k_is)
    (case eC_NoCell => k_is)
    (case hd_NoCell => k_is)
    (case ic_NoCell => k_is)
    (case tC_NoCell => k_is)
    (case ca_NoCell => k_is)
    (case ob_NoCell => k_is)
    (case me_NoCell => k_is)
    (case ga_NoCells => k_is)
    (case gg_NoCells => k_is)
    (case eC_NoCells => k_is)
    (case hd_NoCells => k_is)
    (case ic_NoCells => k_is)
    (case tC_NoCells => k_is)
    (case ca_NoCells => k_is)
    (case ob_NoCells => k_is)
    (case me_NoCells => k_is)
    (case ga_NoFlip => k_is)
    (case gg_NoFlip => k_is)
    (case eC_NoFlip => k_is)
    (case hd_NoFlip => k_is)
    (case ic_NoFlip => k_is)
    (case tC_NoFlip => k_is)
    (case ca_NoFlip => k_is)
    (case ob_NoFlip => k_is)
    (case me_NoFlip => k_is)
    (case rD_CellError => k_is)
    (case gD_CellError => k_is)
    (case iD_CellError => k_is)
    (case xL_NoSize => k_is)
    (case sa_NoSize => k_is)
    (case no_NoSize_0 => k_is)
    (case iI_NoSize => k_is)
    (case tI_NoSize => k_is)
    (case lI_NoSize => k_is)
    (case cI_NoSize => k_is)
    (case kC_NoSize => k_is)
    (case xL_NoCell => k_is)
    (case sa_NoCell => k_is)
    (case no_NoCell_0 => k_is)
    (case iI_NoCell => k_is)
    (case tI_NoCell => k_is)
    (case lI_NoCell => k_is)
    (case cI_NoCell => k_is)
    (case kC_NoCell => k_is)
    (case xL_NoCells => k_is)
    (case sa_NoCells => k_is)
    (case no_NoCells_0 => k_is)
    (case iI_NoCells => k_is)
    (case tI_NoCells => k_is)
    (case lI_NoCells => k_is)
    (case cI_NoCells => k_is)
    (case kC_NoCells => k_is)
    (case xL_NoFlip => k_is)
    (case sa_NoFlip => k_is)
    (case no_NoFlip_0 => k_is)
    (case iI_NoFlip => k_is)
    (case tI_NoFlip => k_is)
    (case lI_NoFlip => k_is)
    (case cI_NoFlip => k_is)
    (case kC_NoFlip => k_is)
    (case cq1 => k_is)
    (case cq2 => k_is)
    (case s_NoSize_NoCell => k_is)
    (case s_NoSize_NoCells => k_is)
    (case s_NoSize_NoFlip => k_is)
    (case s_NoSize_NoSize => k_is)
    (case s_NoSize_ValueError => k_is)
    (case s_NoCell_NoCell => k_is)
    (case s_NoCell_NoCells => k_is)
    (case s_NoCell_NoFlip => k_is)
    (case s_NoCell_NoSize => k_is)
    (case s_NoCell_ValueError => k_is)
    (case s_NoCells_NoCell => k_is)
    (case s_NoCells_NoCells => k_is)
    (case s_NoCells_NoFlip => k_is)
    (case s_NoCells_NoSize => k_is)
    (case s_NoCells_ValueError => k_is)
    (case s_NoFlip_NoCell => k_is)
    (case s_NoFlip_NoCells => k_is)
    (case s_NoFlip_NoFlip => k_is)
    (case s_NoFlip_NoSize => k_is)
    (case s_NoFlip_ValueError => k_is)
    (case z_ValueError => k_is)
    (case z_abs => k_is)
    (case z_all => k_is)
    (case z_bool => k_is)
    (case z_divmod => k_is)
    (case z_enumerate => k_is)
    (case z_int => k_is)
    (case z_isinstance => k_is)
    (case z_len => k_is)
    (case z_list => k_is)
    (case z_max => k_is)
    (case z_min => k_is)
    (case z_range => k_is)
    (case z_repr => k_is)
    (case z_sorted => k_is)
    (case z_sum => k_is)
    (case z_tuple => k_is)
    (case z_zip => k_is)
    (case v_MOST_CELLS => k_is)
    (case nd => first | decide | k_is)
