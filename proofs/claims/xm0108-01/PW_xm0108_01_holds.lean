import PyProof.Rows.All
import Wide.All
import OpenK.AllK
import Wide.FinOn
import Lean
import PySem.Challenge.RW_xm0108_01
set_option Elab.async false
set_option linter.all false
set_option maxRecDepth 100000
set_option maxHeartbeats 8000000
set_option exponentiation.threshold 5000
set_option tactic.hygienic false
set_option genInjectivity false
set_option genSizeOf false
set_option genSizeOfSpec false
namespace Mine
local macro_rules | `(tactic| omega) => `(tactic| first | exact Nat.le_of_ble_eq_true rfl | assumption | exact Nat.le_refl _ | exact Nat.lt_succ_self _)
open PySem PySem.W PyProof.Rows PySem.Calls
section
structure Dfn where
 params:Arguments
 body:List Stmt
 scope:Scope
noncomputable def dfnOf:Option Stmt->Dfn
 | some (.FunctionDef _ args body _ _ _ scope _ _ _)=>⟨args,body,scope⟩
 | _=>⟨⟨[],[],none,[],[],none,[]⟩,[],⟨.function,[],false,false,[]⟩⟩
noncomputable def dfn (n:Nat):Dfn:=dfnOf PySem.Challenge.pw_xm0108_01.main.body[n]?
noncomputable def fnTab:List (Str×Nat):=[(("gcd":Str),3),(("bits_of":Str),4),(("least_divisor":Str),5),(("prime_factors":Str),6),(("rat":Str),9),(("radd":Str),10),(("rmul":Str),11),(("rinv":Str),12),(("rpower":Str),13),(("rfloor":Str),14),(("is_num":Str),17),(("num_of":Str),18),(("is_whole_num":Str),19),(("sign_between":Str),22),(("compare_values":Str),23),(("bare_factors":Str),24),(("front_value":Str),25),(("base_and_exponent":Str),26),(("compare_rows":Str),27),(("compare_exponents":Str),28),(("compare_bases":Str),29),(("compare_factors":Str),30),(("compare_terms":Str),31),(("merged_terms":Str),32),(("sort_terms":Str),33),(("number_term":Str),43),(("number_and_rest":Str),44),(("with_number":Str),45),(("flat_parts":Str),46),(("gathered_sum":Str),47),(("is_one_call":Str),48),(("as_power":Str),49),(("gathered_product":Str),50),(("power_of":Str),51),(("split_power":Str),52),(("number_power":Str),53),(("radical_of":Str),54),(("begins_below":Str),55),(("negated_term":Str),56),(("exp_of":Str),57),(("log_of":Str),58),(("factorial_of":Str),59),(("call_of":Str),60),(("simplify":Str),61),(("_law_take":Str),63),(("_law_box":Str),64),(("_law_term":Str),65),(("_law_turned":Str),66),(("_law_ratio":Str),67),(("_law_worth":Str),68),(("_law_bare":Str),69),(("_law_is_formed":Str),70),(("law":Str),71)]
noncomputable def initOf:Option Stmt->Dfn
 | some (.ClassDef _ _ _ (st :: _) _ _ _ _ _ _ _)=>dfnOf (some st)
 | _=>dfnOf none
noncomputable def initD:Dfn:=initOf PySem.Challenge.pw_xm0108_01.main.body[1]?
noncomputable abbrev bmX:List Value:=[.type "Exception",.type "BaseException",.type "object"]
@[reducible] noncomputable def clsO (C:Addr):Obj:=excClassObj "CasFail" "CasFail" C 30 [.type "Exception"] bmX true [] [] false none none (some (.ref 15)) none (some (.str "CasFail" 189)) (some (.str "CasFail" 197)) (some (.bool true)) "Exception.__new__"
noncomputable def initO:Obj:=⟨.type "function",none,.func { docDef "__init__" initD.params initD.body initD.scope (.str "cas.errors" 187) (.ref 27) .none with qualname:="CasFail.__init__" },#[]⟩
noncomputable def bltNames:List Str:=["abs","len","max","min","list","tuple","range","dict","enumerate","Exception"]
noncomputable abbrev prg:Program:=PySem.Challenge.pw_xm0108_01
noncomputable def vw:Program:=view prg ((List.range 72).filter fun i=>!([0,2,7,15,20,34,62].contains i))
noncomputable def lose:List Str:=["RANKS","EXP_ONE","MOST_FACTORED"]
noncomputable def rkT:List (Str×Int×Tok×Tok):=[("sym",0,340,341),("call",1,342,343),("sum",2,344,345),("prod",3,346,347),("num",4,348,349),("pow",5,350,351),("eq",6,352,353),("list",7,354,355)]
noncomputable def rkE (P:Params) (x:Str×Int×Tok×Tok):DictEntry:=⟨PyData.keyHash P x.1,.str x.1 x.2.2.1,.int x.2.1 x.2.2.2⟩
noncomputable def kp (P:Params):Frag:=[
 (31,clsO 31), (30,⟨.type "dict",none,.dict #[⟨PyData.keyHash P "__module__",.str "__module__" 196,.str "cas.errors" 187⟩,⟨PyData.keyHash P "__firstlineno__",.str "__firstlineno__" 200,.int 2 199⟩,⟨PyData.keyHash P "__init__",.str "__init__" 209,.ref 28⟩, ⟨PyData.keyHash P "__static_attributes__",.str "__static_attributes__" 212,.ref 29⟩,⟨PyData.keyHash P "__weakref__",.str "__weakref__" 214,.ref 32⟩,⟨PyData.keyHash P "__doc__",.str "__doc__" 215,.none⟩] 3,#[]⟩), (28,initO), (27,⟨.type "code",none,.fields #[.str "__init__" 201,.str "CasFail.__init__" 202,.str "/claim/cut.py" 203,.int 4 0,.int 3 0,.int 0 0,.int 0 0,.int 3 0,.ref 22,.bool true,.int 181 0,.ref 23,.none,.ref 24,.ref 25,.ref 26,.int 207 0,.int 4 0,.str "/claim/cut.py" 208],#[]⟩), (127,⟨.type "dict",none,.dict (rkT.map (rkE P)).toArray 8,#[]⟩), (105,⟨.type "tuple",none,.seq #[.str "num" 313,.int 1 314,.int 1 315] 0,#[]⟩),(210,⟨.type "tuple",none,.seq #[.str "num" 476,.int 0 477,.int 1 478] 0,#[]⟩),(211,⟨.type "tuple",none,.seq #[.str "num" 480,.int 1 481,.int 1 482] 0,#[]⟩), (214,⟨.type "tuple",none,.seq #[.ref 211] 0,#[]⟩),(215,⟨.type "tuple",none,.seq #[.str "call" 493,.str "exp" 494,.ref 214] 0,#[]⟩)]
noncomputable def gTab:List (Str×Value):=[("MOST_BITS",.int 200000 261),("T_ONE",.ref 105),("ZERO",.ref 210),("ONE",.ref 211),("EXP_ONE",.ref 215),("MOST_FACTORED",.int 1000000 498),("RANKS",.ref 127),("CasFail",.ref 31)]
noncomputable def good (K:Frag):Bool:=gTab.all (fun x=>nsIn K mainGlobals x.1 == some (some x.2)) && bltNames.all fun x=>nsIn K mainGlobals x == some none
noncomputable def frg (h:Heap) (a:Addr):Frag:=match h.get? a with
 | some o=>[(a,o)]
 | none=>[]
theorem frg_in (h:Heap) (b:Addr):(frg h b).In h:=fun a o e=>by
 unfold frg at e
 cases k:h.get? b with
 | none=>rw [k] at e;cases e
 | some x =>
  rw [k,List.lookup_cons] at e
  cases q:a == b with
  | false=>rw [q] at e;cases e
  | true=>rw [q] at e;cases e;cases eq_of_beq q;exact k
noncomputable def obs (s:Shared):List (Option Obj)×Bool:=([31,30,28,27,127,105,210,211,214,215].map s.heap.get?,good (frg s.heap 3))
noncomputable def obsV (w:World):List (Option Obj)×Bool:=((kp w.params).map fun p=>some p.2,true)
noncomputable def says (w:World) (h:Heap):Prop:=(kp w.params).In h∧∃ K:Frag,K.In h∧good K=true
theorem obs_says (w:World) (s:Shared) (e:obs s=obsV w):says w s.heap :=
 ⟨Frag.in_of (as:=[31,30,28,27,127,105,210,211,214,215]) rfl (congrArg Prod.fst e),_,frg_in _ _,congrArg Prod.snd e⟩
theorem says_keeps (w:World) (h h':Heap) (x:says w h) (k:∀ b o,h.get? b=some o->h'.get? b=some o):says w h' :=
 ⟨x.1.keeps k,x.2.imp fun K y=>⟨y.1.keeps k,y.2⟩⟩
noncomputable def xt (s:Shared):Bool:=xlAt vw [] s && recOk [] s
noncomputable def topRunT (tb:String->Option Builtin) (p:Program) (w:World) (n₀:Nat) (ann:Option Value):Nat->SharedT->Thread->Option SharedT
 | 0,_,_=>none
 | n+1,s,t=>match through t with
  | true=>some s
  | false=>match stepOk n₀ ann t with
   | false=>none
   | true=>match stepT (denote tb) p w s t with
    | some r=>topRunT tb p w n₀ ann n r.1 r.2
    | none=>none
theorem topRunT_of {tb:String->Option Builtin}{p:Program}{w:World}{n₀:Nat}{ann:Option Value}:∀ (n:Nat) (s s':SharedT) (t:Thread),topRunT tb p w n₀ ann n s t=some s'->topRun tb p w n₀ ann n s.abs t=some s'.abs
 | 0,s,s',t,h=>by cases h
 | n+1,s,s',t,h=>by
  unfold topRunT at h
  unfold topRun
  cases ht:through t with
  | true=>rw [ht] at h;cases h;rfl
  | false =>
   rw [ht] at h
   cases hk:stepOk n₀ ann t with
   | false=>rw [hk] at h;cases h
   | true =>
    rw [hk] at h
    cases hs:stepT (denote tb) p w s t with
    | none=>rw [hs] at h;cases h
    | some r=>rw [hs] at h;rw [stepT_spec (t':=r.2) hs];exact topRunT_of n r.1 s' r.2 h
noncomputable def grow:BT->Nat->List Obj->BT
 | t,_,[]=>t
 | t,n,o :: r=>grow (t.ins n o) (n+1) r
noncomputable def s0 (P:Params) (os:OsState):SharedT:=⟨grow .nil 0 (boot_heap P).objs.toList,(boot_heap P).objs.size,(boot_heap P).life,#[],boot_drawn,boot_toks,os⟩
noncomputable def runT (w:World) (os:OsState) (b:Bool):Option SharedT:=topRunT treeTable prg (w.withFollow "special-get-raises" b) (boot_heap w.params).objs.size ((boot_heap w.params).nsMap mainGlobals "__annotations__") 4442 (s0 w.params os) (topStub prg)
noncomputable def lkA (s:Shared):=(seen ((recsOf vw).map (·.name)) (ownsOf vw) [] { s with gens:=#[] },s.heap.bltView,pinSeenD vw (drecsOf vw) s,plainSeenD vw lose s,wideSeen vw s)
noncomputable def lkAV:=(expectedOf vw,bltViewBooted,pinGoodD (drecsOf vw),plainGoodD vw lose,wideGood vw)
noncomputable def lkB (h₀:Heap) (s:Shared):=(staticsOk (importedModules prg.main.body) h₀ s.heap && namesBound prg s.heap && gensDone s && laidKept h₀ s.heap, (s.heap.keysOk (looseW vw lose) ((recsOf vw).map (·.name)) ((litsOf vw).map (·.1)) ((clssOf vw (looseW vw lose)).map (·.name)) && s.heap.accountedOkI (importedModules prg.main.body) && s.heap.isNs mainGlobals && s.heap.isNs builtinsNs && tablesOk vw s.heap && xt s && (s.gens.size == 0)), tabsOk vw s,plainSeenE vw (looseW vw lose) s,clsSeenW vw lose s,obs s)
noncomputable def lkBV (w:World):=(true,true,true,plainGoodE vw (looseW vw lose),clsGoodW vw lose,obsV w)
theorem run_fA (w:World) (os:OsState):(runT w os false).map (fun s=>lkA s.abs)=some lkAV:=by kernel_rfl
theorem run_tA (w:World) (os:OsState):(runT w os true).map (fun s=>lkA s.abs)=some lkAV:=by kernel_rfl
theorem run_fB (w:World) (os:OsState):(runT w os false).map (fun s=>lkB (boot_heap w.params) s.abs)=some (lkBV (w.withFollow "special-get-raises" false)):=by kernel_rfl
theorem run_tB (w:World) (os:OsState):(runT w os true).map (fun s=>lkB (boot_heap w.params) s.abs)=some (lkBV (w.withFollow "special-get-raises" true)):=by kernel_rfl
theorem seen_of {s:Shared}{h₀:Heap}{w:World} (a:lkA s=lkAV) (b:lkB h₀ s=lkBV w):(staticsOk (importedModules prg.main.body) h₀ s.heap && namesBound prg s.heap && gensDone s && laidKept h₀ s.heap)=true∧(openSeen vw lose (importedModules prg.main.body) xt true s,obs s)=(openGood vw lose,obsV w):=by
 unfold lkA lkAV at a
 unfold lkB lkBV at b
 simp only [Prod.mk.injEq] at a b
 obtain ⟨a1,a2,a3,a4,a5⟩:=a
 obtain ⟨b1,b2,b3,b4,b5,b6⟩:=b
 refine ⟨b1,Prod.ext ?_ b6⟩
 exact Prod.ext a1 (Prod.ext a2 (Prod.ext b2 (Prod.ext b3 (Prod.ext a3 (Prod.ext b4 (Prod.ext a4 (Prod.ext a5 b5)))))))
theorem s0_abs (P:Params) (os:OsState):(s0 P os).abs=⟨boot_heap P,#[],boot_drawn,boot_toks,os⟩:=by kernel_rfl
theorem boots:∀ w:World,(fencedOpening treeTable prg w 4442).map (fun s=>(s.heap,s.gens,s.drawn,s.toks))=some (boot_heap w.params,#[],boot_drawn,boot_toks):=boot_open (by kernel_rfl) rfl (fun _=>rfl)
theorem boot_low (P:Params):((boot_heap P).isNs mainGlobals && (#[]:Array GenState).size == 0)=true:=by kernel_rfl
theorem left:LeftO prg vw lose xt obs obsV 4442:=fun w=>by
 obtain ⟨⟨h,gs,d,k,os⟩,e,e'⟩:=Option.map_eq_some_iff.mp (boots w)
 simp only [Prod.mk.injEq] at e'
 obtain ⟨rfl,rfl,rfl,rfl⟩:=e'
 have hA:∀ b,(runT w os b).map (fun s=>lkA s.abs)=some lkAV:=fun b=>by
  cases b
  ·exact run_fA w os
  ·exact run_tA w os
 have hB:∀ b,(runT w os b).map (fun s=>lkB (boot_heap w.params) s.abs)=some (lkBV (w.withFollow "special-get-raises" b)):=fun b=>by
  cases b
  ·exact run_fB w os
  ·exact run_tB w os
 obtain ⟨s',hs,ha⟩:=Option.map_eq_some_iff.mp (hA (w.params.followText "special-get-raises"))
 obtain ⟨s₂,hs₂,hb⟩:=Option.map_eq_some_iff.mp (hB (w.params.followText "special-get-raises"))
 cases hs.symm.trans hs₂
 have t:=topRunT_of _ _ _ _ hs
 rw [World.withFollow_self,s0_abs] at t
 rw [World.withFollow_self] at hb
 obtain ⟨l1,l2⟩:=seen_of ha hb
 unfold openEnds
 rw [e]
 show (topFrom treeTable prg w 4442 _).map _=_
 unfold topFrom
 dsimp only
 rw [boot_low,t]
 show (match (staticsOk (importedModules prg.main.body) (boot_heap w.params) s'.abs.heap && namesBound prg s'.abs.heap && gensDone s'.abs && laidKept (boot_heap w.params) s'.abs.heap) with | true=>some s'.abs | false=>none:Option Shared).map _=_
 rw [l1]
 exact congrArg some l2
theorem said:PySem.Challenge.rw_xm0108_01.wellSaid=true:=by kernel_rfl
end
section
theorem nob {α:Type _}{x:Option α}{a:α}{P:Prop} (h:x=none) (k:x=some a):P:=nomatch h.symm.trans k
theorem non {α:Type _}{a:α}{P:Prop} (k:none=some a):P:=nomatch k
theorem sinj {α:Type _}{x:Option α}{a b:α} (h:x=some a) (k:x=some b):a=b:=Option.some.inj (h.symm.trans k)
section
variable {M:Model}{A:Around}{α β:Type}{t t' e:Sem α}{g:α->Sem β}{Q:α->Shared->Prop}{R:β->Shared->Prop}{E:Value->Shared->Prop}{s:Shared}{c:Prop} [Decidable c]
theorem wp_eq (h:t=t') (k:wpAny M A t' Q E s):wpAny M A t Q E s:=h▸k
theorem wp_eqb (h:t=t') (k:wpAny M A (t' >>= g) R E s):wpAny M A (t >>= g) R E s:=h▸k
theorem wp_pos (h:c) (k:wpAny M A t Q E s):wpAny M A (if c then t else e) Q E s:=wp_eq (if_pos h) k
theorem wp_neg (h:¬ c) (k:wpAny M A e Q E s):wpAny M A (if c then t else e) Q E s:=wp_eq (if_neg h) k
end
noncomputable abbrev Kp (h h':Heap):Prop:=∀ b o,h.get? b=some o->h'.get? b=some o
noncomputable abbrev KpZ (Z:List Addr) (h h':Heap):Prop:=∀ b o,b∉Z->h.get? b=some o->h'.get? b=some o
noncomputable abbrev KpN (a:Addr) (h h':Heap):Prop:=∀ b o,b≠a->h.get? b=some o->h'.get? b=some o
inductive Same (s₀ s:Shared):Prop
 | mk (h:Heap) (tk:Nat):s={ s₀ with heap:=h,toks:=tk }->Same s₀ s
theorem back_none {h h':Heap}{a:Addr} (n:h'.get? a=none) (k:∀ o,h.get? a=some o->h'.get? a=some o):h.get? a=none:=by
 cases q:h.get? a with
 | none=>rfl
 | some o=>exact nob n (k o q)
theorem none_from (h:Heap) {a:Addr} (ha:h.objs.size≤a):h.get? a=none:=by
 cases e:h.get? a with
 | none=>rfl
 | some o=>exact absurd (Heap.lt_size e) (Nat.not_lt.mpr ha)
theorem get_size_none (h:Heap):h.get? h.objs.size=none:=none_from h (Nat.le_refl _)
set_option genInjectivity true in
inductive PV where
 | none | bool (b:Bool) | int (i:Int) | str (s:Str) | tup (xs:List PV) | ref (a:Addr)
mutual
inductive Im (h:Heap):Value->PV->Prop
 | none:Im h .none .none
 | bool (b:Bool):Im h (.bool b) (.bool b)
 | int (i:Int) (t:Tok):Im h (.int i t) (.int i)
 | str (x:Str) (t:Tok):PyData.strOk x=true->Im h (.str x t) (.str x)
 | tup {a:Addr}{o:Obj}{vs:Array Value}{n:Nat}{xs:List PV}:h.get? a=some o->o.cls=.type "tuple"->o.data=.seq vs n->Ims h vs.toList xs->Im h (.ref a) (.tup xs)
 | ref (a:Addr):Im h (.ref a) (.ref a)
inductive Ims (h:Heap):List Value->List PV->Prop
 | nil:Ims h [] []
 | cons {v:Value}{vs:List Value}{x:PV}{xs:List PV}:Im h v x->Ims h vs xs->Ims h (v :: vs) (x :: xs)
end
noncomputable def TK (h h':Heap):Prop:=∀ a o vs n,h.get? a=some o->o.cls=.type "tuple"->o.data=.seq vs n->∃ o',h'.get? a=some o'∧o'.cls=.type "tuple"∧o'.data=.seq vs n
theorem TK.refl (h:Heap):TK h h:=fun _ o _ _ e c d=>⟨o,e,c,d⟩
theorem TK.trans {h₁ h₂ h₃:Heap} (x:TK h₁ h₂) (y:TK h₂ h₃):TK h₁ h₃:=fun a o vs n e c d=>by
 obtain ⟨o',e',c',d'⟩:=x a o vs n e c d
 exact y a o' vs n e' c' d'
theorem TK.of {h h':Heap} (k:Kp h h'):TK h h':=fun a o _ _ e c d=>⟨o,k a o e,c,d⟩
section
variable {h:Heap}{P:Value->PV->Prop}{Q:List Value->List PV->Prop}
theorem Im.ind (c0:P .none .none) (c1:∀ b,P (.bool b) (.bool b)) (c2:∀ i t,P (.int i t) (.int i)) (c3:∀ x t,PyData.strOk x=true->P (.str x t) (.str x))
  (c4:∀ {a o vs n xs},h.get? a=some o->o.cls=.type "tuple"->o.data=.seq vs n->Ims h vs.toList xs->Q vs.toList xs->P (.ref a) (.tup xs)) (c5:∀ a,P (.ref a) (.ref a))
  (d0:Q [] []) (d1:∀ {v vs x xs},Im h v x->Ims h vs xs->P v x->Q vs xs->Q (v :: vs) (x :: xs)):(∀ {v x},Im h v x->P v x)∧∀ {vs xs},Ims h vs xs->Q vs xs :=
 ⟨fun k=>Im.rec (motive_1:=fun v x _=>P v x) (motive_2:=fun vs xs _=>Q vs xs) c0 c1 c2 c3 c4 c5 d0 d1 k,fun k=>Ims.rec (motive_1:=fun v x _=>P v x) (motive_2:=fun vs xs _=>Q vs xs) c0 c1 c2 c3 c4 c5 d0 d1 k⟩
theorem Ims.ind (d0:Q [] []) (d1:∀ {v vs x xs},Im h v x->Q vs xs->Q (v :: vs) (x :: xs)) {vs:List Value}{xs:List PV} (k:Ims h vs xs):Q vs xs :=
 (Im.ind (P:=fun _ _=>True) trivial (fun _=>trivial) (fun _ _=>trivial) (fun _ _ _=>trivial) (fun _ _ _ _ _=>trivial) (fun _=>trivial) d0 fun a _ _ q=>d1 a q).2 k
end
section
variable {h:Heap}{v:Value}{vs:List Value}{x:PV}{xs:List PV}
theorem Im.toNone (k:Im h v .none):v=.none:=by cases k;rfl
theorem Im.toBool {b:Bool} (k:Im h v (.bool b)):v=.bool b:=by cases k;rfl
theorem Im.toInt {i:Int} (k:Im h v (.int i)):∃ t,v=.int i t:=by cases k;exact ⟨_,rfl⟩
theorem Im.toStr {x:Str} (k:Im h v (.str x)):∃ t,v=.str x t:=by cases k;exact ⟨_,rfl⟩
theorem Im.toTup (k:Im h v (.tup xs)):∃ a o vs n,h.get? a=some o∧o.cls=.type "tuple"∧o.data=.seq vs n∧Ims h vs.toList xs∧v=.ref a:=by
 cases k with
 | tup a b c d=>exact ⟨_,_,_,_,a,b,c,d,rfl⟩
theorem Ims.toNil (k:Ims h vs []):vs=[]:=by cases k;rfl
theorem Ims.toCons (k:Ims h vs (x :: xs)):∃ v ws,Im h v x∧Ims h ws xs∧vs=v :: ws:=by
 cases k with
 | cons a b=>exact ⟨_,_,a,b,rfl⟩
end
theorem Im.monos {h h':Heap} (k:TK h h'):(∀ {v x},Im h v x->Im h' v x)∧∀ {vs xs},Ims h vs xs->Ims h' vs xs :=
 Im.ind .none .bool .int .str (fun e c d _ q=>let ⟨_,e',c',d'⟩:=k _ _ _ _ e c d;.tup e' c' d' q) .ref .nil fun _ _ p q=>.cons p q
theorem Im.mono {h h':Heap} (k:TK h h') {v:Value}{x:PV} (a:Im h v x):Im h' v x:=(Im.monos k).1 a
theorem Ims.mono {h h':Heap} (k:TK h h') {vs:List Value}{xs:List PV} (a:Ims h vs xs):Ims h' vs xs:=(Im.monos k).2 a
section
variable {h:Heap}{vs ws:List Value}{xs ys:List PV}
theorem Ims.length (k:Ims h vs xs):vs.length=xs.length:=Ims.ind (Q:=fun vs xs=>vs.length=xs.length) rfl (fun _ q=>congrArg Nat.succ q) k
theorem Ims.append (k:Ims h vs xs) (l:Ims h ws ys):Ims h (vs ++ ws) (xs ++ ys):=Ims.ind (Q:=fun vs xs=>Ims h (vs ++ ws) (xs ++ ys)) l (fun a q=>.cons a q) k
theorem Ims.get (k:Ims h vs xs):∀ (i:Nat) (x:PV),xs[i]?=some x->∃ v,vs[i]?=some v∧Im h v x :=
 Ims.ind (Q:=fun vs xs=>∀ (i:Nat) (x:PV),xs[i]?=some x->∃ v,vs[i]?=some v∧Im h v x) (fun _ _ e=>non e) (fun {v _ _ _} a q i y e=>by
  cases i with
  | zero=>exact ⟨v,rfl,Option.some.inj e▸a⟩
  | succ i=>exact q i y e) k
theorem Ims.getV (k:Ims h vs xs):∀ (i:Nat) (v:Value),vs[i]?=some v->∃ x,xs[i]?=some x∧Im h v x :=
 Ims.ind (Q:=fun vs xs=>∀ (i:Nat) (v:Value),vs[i]?=some v->∃ x,xs[i]?=some x∧Im h v x) (fun _ _ e=>non e) (fun {_ _ x _} a q i y e=>by
  cases i with
  | zero=>exact ⟨x,rfl,Option.some.inj e▸a⟩
  | succ i=>exact q i y e) k
theorem Ims.drop (n:Nat) (k:Ims h vs xs):Ims h (vs.drop n) (xs.drop n) :=
 Ims.ind (Q:=fun vs xs=>∀ n,Ims h (vs.drop n) (xs.drop n)) (fun n=>by cases n <;> exact .nil) (fun a q n=>by
  cases n with
  | zero=>exact .cons a (q 0)
  | succ n=>exact q n) k n
theorem Ims.take (n:Nat) (k:Ims h vs xs):Ims h (vs.take n) (xs.take n) :=
 Ims.ind (Q:=fun vs xs=>∀ n,Ims h (vs.take n) (xs.take n)) (fun n=>by cases n <;> exact .nil) (fun a q n=>by
  cases n with
  | zero=>exact .nil
  | succ n=>exact .cons a (q n)) k n
theorem Ims.reverse (k:Ims h vs xs):Ims h vs.reverse xs.reverse :=
 Ims.ind (Q:=fun vs xs=>Ims h vs.reverse xs.reverse) .nil (fun a q=>by
  rw [List.reverse_cons,List.reverse_cons]
  exact q.append (.cons a .nil)) k
end
mutual
noncomputable def PV.toD:PV->PyData
 | .none=>.none
 | .bool b=>.bool b
 | .int i=>.int i
 | .str s=>.str s
 | .tup xs=>.tuple (PV.toDs xs)
 | .ref _=>.none
noncomputable def PV.toDs:List PV->List PyData
 | []=>[]
 | x :: xs=>x.toD :: PV.toDs xs
end
mutual
noncomputable def PV.depth:PV->Nat
 | .tup xs=>PV.depths xs+1
 | _=>0
noncomputable def PV.depths:List PV->Nat
 | []=>0
 | x :: xs=>max x.depth (PV.depths xs)
end
mutual
noncomputable def PV.nb:PV->Bool
 | .bool _=>false
 | .ref _=>false
 | .tup xs=>PV.nbs xs
 | _=>true
noncomputable def PV.nbs:List PV->Bool
 | []=>true
 | x :: xs=>x.nb && PV.nbs xs
end
theorem and_of {a b:Bool} (h:(a && b)=true):a=true∧b=true:=Bool.and_eq_true _ _▸h
theorem Im.readss {h:Heap}:(∀ {v:Value}{x:PV},Im h v x->x.nb=true->Reads h v x.toD [])∧∀ {vs:List Value}{xs:List PV},Ims h vs xs->PV.nbs xs=true->ReadsAll h vs (PV.toDs xs) [] :=
 Im.ind (P:=fun v x=>x.nb=true->Reads h v x.toD []) (Q:=fun vs xs=>PV.nbs xs=true->ReadsAll h vs (PV.toDs xs) []) (fun _=>.none) (fun b _=>.bool b) (fun i t _=>.int i t) (fun x t _ _=>.str x t) (fun e c d _ q n=>.tuple e c d (q n)) (fun _ n=>nomatch n)
  (fun _=>.nil) fun _ _ p q n=>.cons (p (and_of n).1) (q (and_of n).2)
theorem Im.reads {h:Heap}{v:Value}{x:PV} (a:Im h v x):x.nb=true->Reads h v x.toD []:=Im.readss.1 a
theorem Ims.reads {h:Heap}{vs:List Value}{xs:List PV} (a:Ims h vs xs):PV.nbs xs=true->ReadsAll h vs (PV.toDs xs) []:=Im.readss.2 a
theorem Im.lays {h:Heap}:(∀ {v:Value}{x:PV},Im h v x->x.toD.canLay0=true∧x.toD.depth=x.depth)∧∀ {vs:List Value}{xs:List PV},Ims h vs xs->PyData.canLayAll0 (PV.toDs xs)=true∧PyData.depthAll (PV.toDs xs)=PV.depths xs :=
 Im.ind (P:=fun _ x=>x.toD.canLay0=true∧x.toD.depth=x.depth) (Q:=fun _ xs=>PyData.canLayAll0 (PV.toDs xs)=true∧PyData.depthAll (PV.toDs xs)=PV.depths xs) ⟨rfl,rfl⟩ (fun _=>⟨rfl,rfl⟩) (fun _ _=>⟨rfl,rfl⟩) (fun _ _ o=>⟨o,rfl⟩)
  (fun _ _ _ _ q=>⟨q.1,congrArg Nat.succ q.2⟩) (fun _=>⟨rfl,rfl⟩) ⟨rfl,rfl⟩ fun _ _ p q=>⟨Bool.and_eq_true _ _▸⟨p.1,q.1⟩,congr (congrArg max p.2) q.2⟩
theorem Im.lay {h:Heap}{v:Value}{x:PV} (a:Im h v x):x.toD.canLay0=true∧x.toD.depth=x.depth:=Im.lays.1 a
theorem Ims.lay {h:Heap}{vs:List Value}{xs:List PV} (a:Ims h vs xs):PyData.canLayAll0 (PV.toDs xs)=true∧PyData.depthAll (PV.toDs xs)=PV.depths xs:=Im.lays.2 a
theorem PV.ind {P:PV->Prop}{Q:List PV->Prop} (c0:P .none) (c1:∀ b,P (.bool b)) (c2:∀ i,P (.int i)) (c3:∀ x,P (.str x)) (c4:∀ xs,Q xs->P (.tup xs)) (c5:∀ a,P (.ref a)) (d0:Q []) (d1:∀ x xs,P x->Q xs->Q (x :: xs)):(∀ x,P x)∧∀ xs,Q xs :=
 ⟨fun x=>PV.rec (motive_1:=P) (motive_2:=Q) c0 c1 c2 c3 c4 c5 d0 d1 x,fun x=>PV.rec_1 (motive_1:=P) (motive_2:=Q) c0 c1 c2 c3 c4 c5 d0 d1 x⟩
theorem f_iff {a:Bool}{p:Prop} (h:a=false) (n:¬ p):a=true↔p:=⟨fun e=>absurd (h.symm.trans e) Bool.false_ne_true,fun e=>absurd e n⟩
theorem PV.eqvs:(∀ x y:PV,x.nb=true->y.nb=true->(PyData.eqv x.toD y.toD=true↔x=y))∧∀ xs ys:List PV,PV.nbs xs=true->PV.nbs ys=true->(PyData.eqvAll (PV.toDs xs) (PV.toDs ys)=true↔xs=ys) :=
 PV.ind (P:=fun x=>∀ y,x.nb=true->y.nb=true->(PyData.eqv x.toD y.toD=true↔x=y)) (Q:=fun xs=>∀ ys,PV.nbs xs=true->PV.nbs ys=true->(PyData.eqvAll (PV.toDs xs) (PV.toDs ys)=true↔xs=ys))
  (fun y _ n=>by cases y <;> first | exact ⟨fun _=>rfl,fun _=>rfl⟩ | cases n;done | exact f_iff rfl (fun e=>by cases e))
  (fun _ _ n=>by cases n)
  (fun i y _ n=>by
   cases y with
   | int j=>exact ⟨fun e=>congrArg PV.int (of_decide_eq_true e),fun e=>decide_eq_true (PV.int.inj e)⟩
   | _=>first | cases n;done | exact f_iff rfl (fun e=>by cases e))
  (fun i y _ n=>by
   cases y with
   | str j=>exact ⟨fun e=>congrArg PV.str (of_decide_eq_true e),fun e=>decide_eq_true (PV.str.inj e)⟩
   | _=>first | cases n;done | exact f_iff rfl (fun e=>by cases e))
  (fun xs q y m n=>by
   cases y with
   | tup ys=>exact ⟨fun e=>congrArg PV.tup ((q ys m n).mp e),fun e=>(q ys m n).mpr (PV.tup.inj e)⟩
   | _=>first | cases n;done | exact f_iff rfl (fun e=>by cases e))
  (fun _ _ n=>by cases n)
  (fun ys _ _=>by cases ys <;> first | exact ⟨fun _=>rfl,fun _=>rfl⟩ | exact f_iff rfl (fun e=>by cases e))
  fun x xs p q ys m n=>by
   cases ys with
   | nil=>exact f_iff rfl (fun e=>by cases e)
   | cons y ys=>exact ⟨fun e=>congr (congrArg List.cons ((p y (and_of m).1 (and_of n).1).mp (and_of e).1)) ((q ys (and_of m).2 (and_of n).2).mp (and_of e).2),fun e=>Bool.and_eq_true _ _▸⟨(p y (and_of m).1 (and_of n).1).mpr (List.cons.inj e).1,(q ys (and_of m).2 (and_of n).2).mpr (List.cons.inj e).2⟩⟩
theorem PV.eqv_iff (x y:PV):x.nb=true->y.nb=true->(PyData.eqv x.toD y.toD=true↔x=y):=PV.eqvs.1 x y
theorem PV.eqvs_iff (xs ys:List PV):PV.nbs xs=true->PV.nbs ys=true->(PyData.eqvAll (PV.toDs xs) (PV.toDs ys)=true↔xs=ys):=PV.eqvs.2 xs ys
section
variable {prog:Program}{w:World}{A:Around}{E:Value->Shared->Prop}{s:Shared}{u v:Value}{x y:PV}
theorem im_eqBool {Q:Bool->Shared->Prop} (hx:Im s.heap u x) (hy:Im s.heap v y) (nx:x.nb=true) (ny:y.nb=true) (hu:A.units+x.depth < cLine)
  (h:∀ b:Bool,(b=true↔x=y)->Q b s):wpAny (model prog w) A (eqBool u v) Q E s:=by
 have q:=SeqAt.eqAt_reads x.toD y.toD A s u v [] [] (hx.reads nx) (hy.reads ny) hx.lay.1 hy.lay.1 (by
  rw [hx.lay.2];have:=Nat.min_le_left x.depth y.toD.depth;omega)
 exact q prog w E Q (h _ (PV.eqv_iff x y nx ny))
end
mutual
noncomputable def PV.key:Nat->PV->Bool
 | _,.int _=>true
 | _,.str _=>true
 | n+1,.tup xs=>PV.keys n xs
 | _,_=>false
noncomputable def PV.keys:Nat->List PV->Bool
 | _,[]=>true
 | n,x :: xs=>PV.key n x && PV.keys n xs
end
mutual
noncomputable def PV.hash (w:World):PV->Int
 | .int i=>hashInt i
 | .str s=>hashStr w s
 | .tup xs=>reduceHash (Builtin.Tuple.tupleHashOf (PV.hashes w xs))
 | _=>0
noncomputable def PV.hashes (w:World):List PV->List Int
 | []=>[]
 | x :: xs=>x.hash w :: PV.hashes w xs
end
mutual
noncomputable def PV.draws:PV->Nat
 | .int _=>1
 | .str _=>1
 | .tup xs=>PV.drawss xs+1
 | _=>0
noncomputable def PV.drawss:List PV->Nat
 | []=>0
 | x :: xs=>x.draws+PV.drawss xs
end
end
section
section
variable {prog:Program}{w:World}
theorem units_in1 (A:Around):A.in1.units=A.units+1:=rfl
theorem pyHash_int' {A:Around}{E:Value->Shared->Prop}{s:Shared}{i:Int}{t:Tok}{Q:Int->Shared->Prop} (h:Q (hashInt i) { s with toks:=s.toks+1 }):wpAny (model prog w) A (pyHash (.int i t)) Q E s :=
 (intKind prog w).pyHash (k:=i) (by simp [intKind,Value.isInt]) h
theorem pyHash_str' {A:Around}{E:Value->Shared->Prop}{s:Shared}{x:Str}{t:Tok}{Q:Int->Shared->Prop} (h:Q (hashStr w x) { s with toks:=s.toks+1 }):wpAny (model prog w) A (pyHash (.str x t)) Q E s :=
 (strKind prog w).pyHash (k:=x) (strKind_is prog w x t) h
theorem pyHash_tup_of {A:Around}{E:Value->Shared->Prop}{s:Shared}{a:Addr}{o:Obj}{vs:Array Value}{n:Nat}{xs:List PV}{Q:Int->Shared->Prop} (hu:A.units < cLine)
  (ho:s.heap.get? a=some o) (hc:o.cls=.type "tuple") (hd:o.data=.seq vs n)
  (items:∀ (R:Array Int->Shared->Prop) (E':Value->Shared->Prop),R (PV.hashes w xs).toArray { s with toks:=s.toks+PV.drawss xs } ->
   wpAny (model prog w) A.in1 (forIn vs.toList (#[]:Array Int) fun x r=>do let y ← pyHash x;pure (ForInStep.yield (r.push y))) R E' s)
  (h:Q (PV.hash w (.tup xs)) { s with toks:=s.toks+(PV.drawss xs+1) }):wpAny (model prog w) A (pyHash (.ref a)) Q E s:=by
 have hT:s.TypeIs (.ref a) "tuple":=⟨o,ho,hc⟩
 unfold pyHash
 first | unfold pyHashByItsType | skip
 first | refine wpAny_bind (wpAny_cRoomFor_or (.inr hu) ?_) | skip
 refine wpAny_bind (wpAny_specialOf hT F.slot_tuple_hash.lookup ?_)
 refine wp_neg (by rw [beq_builtin_none];exact Bool.false_ne_true) ?_
 refine wpAny_bind (wpAny_specialOf hT F.slot_tuple_hash.lookup ?_)
 refine wpAny_bind (wpAny_callSpecialIfBoundUnlessNone?_slot hT F.slot_tuple_hash (wpAny_call_entry F.slot_tuple_hash hT F.entry_tuple_hash ?_ (F.args_tuple_hash_1 _)))
 show wpAny _ _ (Builtin.Tuple.tupleItemsOf (.ref a) >>= _) _ _ s
 refine wpAny_bind (wpAny_tupleItemsOf ho hd ?_)
 refine wpAny_bind ?_
 rw [← Array.forIn_toList]
 refine items _ _ ?_
 show wpAny _ _ (retInt (Builtin.Tuple.tupleHashOf (PV.hashes w xs).toArray.toList)) _ _ _
 have e:(PV.hashes w xs).toArray.toList=PV.hashes w xs:=rfl
 refine e.symm▸?_
 refine wpAny_ret_mkInt ?_
 simp only [PV.hash,reduceHash] at h
 by_cases hr:(decide (-(2:Int) ^ 63≤Builtin.Tuple.tupleHashOf (PV.hashes w xs)) && decide (Builtin.Tuple.tupleHashOf (PV.hashes w xs) < 2 ^ 63))=true
 ·refine wp_pos hr ?_
  rw [if_pos hr] at h
  exact wpAny_pure (by simpa [Nat.add_assoc] using h)
 ·refine wp_neg hr ?_
  rw [if_neg hr] at h
  exact wpAny_bind (wpAny_rule (wpAny_pure (by simpa [Nat.add_assoc] using h)))
noncomputable def HashP (prog:Program) (w:World) (x:PV):Prop:=∀ (n:Nat) (A:Around) (E:Value->Shared->Prop) (s:Shared) (v:Value) (Q:Int->Shared->Prop),x.key n=true->A.units+n < cLine->Im s.heap v x->Q (x.hash w) { s with toks:=s.toks+x.draws }->wpAny (model prog w) A (pyHash v) Q E s
noncomputable def HashPs (prog:Program) (w:World) (xs:List PV):Prop:=∀ (n:Nat) (A:Around) (E:Value->Shared->Prop) (s:Shared) (vs:List Value) (acc:Array Int) (R:Array Int->Shared->Prop),PV.keys n xs=true->A.units+n < cLine->Ims s.heap vs xs ->
  R (acc ++ (PV.hashes w xs).toArray) { s with toks:=s.toks+PV.drawss xs }->wpAny (model prog w) A (forIn vs acc fun x r=>do let y ← pyHash x;pure (ForInStep.yield (r.push y))) R E s
theorem im_hashs:(∀ x,HashP prog w x)∧∀ xs,HashPs prog w xs :=
 PV.ind (fun n _ _ _ _ _ hk=>by cases n <;> cases hk) (fun _ n _ _ _ _ _ hk=>by cases n <;> cases hk) (fun i n A E s v Q _ _ hi h=>by obtain ⟨t,rfl⟩:=hi.toInt;exact pyHash_int' h) (fun x n A E s v Q _ _ hi h=>by obtain ⟨t,rfl⟩:=hi.toStr;exact pyHash_str' h)
  (fun xs q n A E s v Q hk hu hi h=>by
   cases n with
   | zero=>cases hk
   | succ n =>
    obtain ⟨a,o,vs,_,ho,hc,hd,r,rfl⟩:=hi.toTup
    exact pyHash_tup_of (Nat.lt_of_le_of_lt (Nat.le_add_right _ _) hu) ho hc hd (fun R E' hR=>q n A.in1 E' s _ #[] R hk (by refine (units_in1 ..)▸?_;refine (Nat.add_assoc ..)▸?_;refine (Nat.add_comm 1 ..)▸?_;exact hu) r (Array.empty_append.symm▸hR)) h)
  (fun _ n _ _ _ _ _ hk=>by cases n <;> cases hk)
  (fun n A E s vs acc R _ _ hi h=>by
   obtain rfl:=hi.toNil
   refine wp_eq List.forIn_nil ?_
   have h:R (acc ++ #[]) s:=h
   exact wpAny_pure (Array.append_empty (xs:=acc)▸h))
  fun x xs p q n A E s vs acc R hk hu hi h=>by
   obtain ⟨_,_,a,r,rfl⟩:=hi.toCons
   ·rw [List.forIn_cons]
    refine wpAny_bind (wpAny_bind (p n A E s _ _ (and_of hk).1 hu a (wpAny_pure ?_)))
    refine q n A E { s with toks:=s.toks+x.draws } _ (acc.push (x.hash w)) R (and_of hk).2 hu r ?_
    simpa [PV.hashes,PV.drawss,Nat.add_assoc] using h
theorem im_hash (x:PV):HashP prog w x:=im_hashs.1 x
noncomputable def QuietP (prog:Program) (w:World) (x:PV):Prop:=∀ (n:Nat) (A:Around) (E:Value->Shared->Prop) (s:Shared) (v:Value) (Q:Bool->Shared->Prop),x.key n=true->Im s.heap v x->Q true s->wpAny (model prog w) A (eqIsQuiet n v) Q E s
noncomputable def QuietPs (prog:Program) (w:World) (xs:List PV):Prop:=∀ (n:Nat) (A:Around) (E:Value->Shared->Prop) (s:Shared) (vs:List Value) (R:Option Bool×PUnit->Shared->Prop),PV.keys n xs=true->Ims s.heap vs xs ->
  R (none,⟨⟩) s->wpAny (model prog w) A (forIn vs ((none,⟨⟩):Option Bool×PUnit) fun y r=>do
   let q ← eqIsQuiet n y
   if (!q)=true then pure (ForInStep.done (some false,⟨⟩)) else pure (ForInStep.yield (none,⟨⟩))) R E s
theorem im_quiets:(∀ x,QuietP prog w x)∧∀ xs,QuietPs prog w xs :=
 PV.ind (fun n _ _ _ _ _ hk=>by cases n <;> cases hk) (fun _ n _ _ _ _ _ hk=>by cases n <;> cases hk) (fun i n A E s v Q _ hi h=>by obtain ⟨t,rfl⟩:=hi.toInt;refine wp_eq (eqIsQuiet_byValue n rfl) ?_;exact wpAny_pure h) (fun x n A E s v Q _ hi h=>by obtain ⟨t,rfl⟩:=hi.toStr;refine wp_eq (eqIsQuiet_byValue n rfl) ?_;exact wpAny_pure h)
  (fun xs q n A E s v Q hk hi h=>by
   cases n with
   | zero=>cases hk
   | succ n =>
     obtain ⟨a,o,vs,k,ho,hc,hd,r,rfl⟩:=hi.toTup
     have hT:s.TypeIs (.ref a) "tuple":=⟨o,ho,hc⟩
     unfold eqIsQuiet
     refine wpAny_bind (wpAny_specialOf hT F.slot_tuple_eq.lookup ?_)
     refine wpAny_bind (wpAny_isInstance hT isSubtype_tuple_tuple ?_)
     refine wpAny_bind (wpAny_seqItems ho hd (wpAny_bind ?_))
     rw [← Array.forIn_toList]
     exact q n A E s vs.toList _ hk r (wpAny_pure h))
  (fun _ n _ _ _ _ _ hk=>by cases n <;> cases hk)
  (fun n A E s vs R _ hi h=>by
   obtain rfl:=hi.toNil
   exact wpAny_pure h)
  fun x xs p q n A E s vs R hk hi h=>by
   obtain ⟨_,_,a,r,rfl⟩:=hi.toCons
   ·rw [List.forIn_cons]
    exact wpAny_bind (wpAny_bind (p n A E s _ _ (and_of hk).1 a (wpAny_pure (q n A E s _ R (and_of hk).2 r h))))
theorem im_quiet (x:PV):QuietP prog w x:=im_quiets.1 x
end
end
section
theorem Im.uniques {h:Heap}:(∀ {v:Value}{x:PV},Im h v x->∀ y,Im h v y->x.nb=true->y.nb=true->x=y)∧∀ {vs:List Value}{xs:List PV},Ims h vs xs->∀ ys,Ims h vs ys->PV.nbs xs=true->PV.nbs ys=true->xs=ys :=
 Im.ind (P:=fun v x=>∀ y,Im h v y->x.nb=true->y.nb=true->x=y) (Q:=fun vs xs=>∀ ys,Ims h vs ys->PV.nbs xs=true->PV.nbs ys=true->xs=ys)
  (fun y k _ _=>by cases k;rfl) (fun b y k n _=>nomatch n) (fun i t y k _ _=>by cases k;rfl) (fun x t _ y k _ _=>by cases k;rfl)
  (fun e c d _ q y k n n'=>by
   cases k with
   | tup e' c' d' r' =>
    cases sinj e e'
    cases d.symm.trans d'
    exact congrArg PV.tup (q _ r' n n')
   | ref=>cases n') (fun a y k n _=>nomatch n) (fun ys k _ _=>by cases k;rfl)
  fun _ _ p q ys k n n'=>by
   cases k with
   | cons a' r'=>exact congr (congrArg List.cons (p _ a' (and_of n).1 (and_of n').1)) (q _ r' (and_of n).2 (and_of n').2)
theorem Im.unique {h:Heap}{v:Value}{x y:PV} (a:Im h v x) (b:Im h v y):x.nb=true->y.nb=true->x=y:=Im.uniques.1 a y b
theorem PV.key_nbs:(∀ (x:PV) (n:Nat),x.key n=true->x.nb=true∧x.depth≤n)∧∀ (xs:List PV) (n:Nat),PV.keys n xs=true->PV.nbs xs=true∧PV.depths xs≤n :=
 PV.ind (P:=fun x=>∀ n,x.key n=true->x.nb=true∧x.depth≤n) (Q:=fun xs=>∀ n,PV.keys n xs=true->PV.nbs xs=true∧PV.depths xs≤n)
  (fun n k=>by cases n <;> cases k) (fun _ n k=>by cases n <;> cases k) (fun _ n _=>⟨rfl,Nat.zero_le n⟩) (fun _ n _=>⟨rfl,Nat.zero_le n⟩)
  (fun xs q n k=>by
   cases n with
   | zero=>cases k
   | succ n=>exact ⟨(q n k).1,Nat.succ_le_succ (q n k).2⟩)
  (fun _ n k=>by cases n <;> cases k) (fun n _=>⟨rfl,Nat.zero_le n⟩)
  fun x xs p q n k=>⟨Bool.and_eq_true _ _▸⟨(p n (and_of k).1).1,(q n (and_of k).2).1⟩,Nat.max_le.mpr ⟨(p n (and_of k).1).2,(q n (and_of k).2).2⟩⟩
theorem PV.key_nb (n:Nat) (x:PV):x.key n=true->x.nb=true∧x.depth≤n:=PV.key_nbs.1 x n
noncomputable abbrev PKey:={ x:PV // x.key 8=true }
open Classical in
noncomputable def pk (prog:Program) (w:World):HeapKind prog w PKey where
 is:=fun h k a=>Im h (.ref a) k.1
 hash:=fun k=>k.1.hash w
 draws:=fun k=>k.1.draws
 room:=fun A=>A.units+20 < cLine
 inj:=fun {h a x y} hx hy=>Subtype.ext (hx.unique hy (PV.key_nb 8 _ x.2).1 (PV.key_nb 8 _ y.2).1)
 keeps:=fun {h h' k a d o es ep} x ho hd hs=>x.mono fun b o' vs n e c dd=>⟨o',(hs.2 b (by rintro rfl;cases ho.symm.trans e;cases hd.symm.trans dd)).trans e,c,dd⟩
 pyHash:=fun {A E s k a Q} hu hk h=>im_hash k.1 8 A E s _ Q k.2 (by lia) hk h
 eqBool:=fun {A E s x y a b Q} hu hx hy h=>im_eqBool hx hy (PV.key_nb 8 _ x.2).1 (PV.key_nb 8 _ y.2).1 (by have:=(PV.key_nb 8 _ x.2).2;lia) fun c hc=>by
  have e:c=decide (x=y):=by
   by_cases q:x=y
   ·refine (decide_eq_true q).symm▸?_;exact hc.mpr (congrArg Subtype.val q)
   ·refine (decide_eq_false q).symm▸?_;exact Bool.eq_false_iff.mpr fun z=>q (Subtype.ext (hc.mp z))
  refine e.symm▸?_;exact h
 quiet:=fun {A E s k a Q} hk h=>im_quiet k.1 8 A E s _ Q k.2 hk h
end
section
noncomputable abbrev Box:=List Int×Int
structure Cx where
 prog:Program
 w:World
 base:Heap
 mg:Str->Option Value
 mb:Str->Option Value
 C:Addr
structure Cx.Ok (c:Cx):Prop where
 hb:∀ x:Str,x≠"__name__"->c.mb x=bootBuiltins x
 free:∀ x∈bltNames,c.mg x=none
 g:c.base.Ns mainGlobals c.mg
 b:c.base.Ns builtinsNs c.mb
 nolimit:c.base.NoLimit
inductive LsAt (h:Heap) (a:Addr) (xs:List PV):Prop
 | mk (vs:Array Value):h.IsList a vs->Ims h vs.toList xs->LsAt h a xs
noncomputable def ListAt (h:Heap) (a:Addr) (xs:List PV):Prop:=LsAt h a xs∧∀ o,h.get? a=some o->o.dict=none∧o.slots=#[]
inductive Ents (h:Heap):List (PKey×Addr×Value)->List (PV×PV)->Prop
 | nil:Ents h [] []
 | cons {k:PKey}{a:Addr}{v:Value}{y:PV}{xs:List (PKey×Addr×Value)}{es:List (PV×PV)}:Im h v y->Ents h xs es->Ents h ((k,a,v) :: xs) ((k.1,y) :: es)
theorem Ents.mono {h h':Heap} (k:TK h h') {xs:List (PKey×Addr×Value)}{es:List (PV×PV)} (x:Ents h xs es):Ents h' xs es:=by
 induction x with
 | nil=>exact .nil
 | cons a _ ih=>exact .cons (a.mono k) ih
open Classical in
inductive DctAt (c:Cx) (h:Heap) (a:Addr) (es:List (PV×PV)):Prop
 | mk:(a == sysModules)=false->∀ xs,h.DictOfH (pk c.prog c.w) a xs->Ents h xs es->DctAt c h a es
inductive TEnts (h:Heap):List (Str×Value)->List (Str×PV)->Prop
 | nil:TEnts h [] []
 | cons {k:Str}{v:Value}{y:PV}{xs:List (Str×Value)}{es:List (Str×PV)}:Im h v y->TEnts h xs es->TEnts h ((k,v) :: xs) ((k,y) :: es)
theorem TEnts.mono {h h':Heap} (k:TK h h') {xs:List (Str×Value)}{es:List (Str×PV)} (x:TEnts h xs es):TEnts h' xs es:=by
 induction x with
 | nil=>exact .nil
 | cons a _ ih=>exact .cons (a.mono k) ih
theorem TEnts.get {h:Heap}{xs:List (Str×Value)}{es:List (Str×PV)} (x:TEnts h xs es):∀ k y,es.lookup k=some y->∃ v,valueAt xs k=some v∧Im h v y:=by
 induction x with
 | nil=>intro k y e;exact non e
 | @cons k0 v0 y0 xs es a _ ih =>
  intro k y e
  rw [List.lookup_cons] at e
  unfold valueAt
  refine (List.find?_cons)▸?_
  by_cases hk:k0=k
  ·subst hk
   simp only [beq_self_eq_true] at e
   obtain rfl:=Option.some.inj e
   exact ⟨v0,by simp,a⟩
  ·have h1:(k == k0)=false:=by simpa using fun e=>hk e.symm
   rw [h1] at e
   simp only [hk,decide_false]
   exact ih k y e
inductive TabAt (c:Cx) (h:Heap) (a:Addr) (es:List (Str×PV)):Prop
 | mk (xs:List (Str×Value)):h.DictOf (strKind c.prog c.w) a xs->TEnts h xs es->TabAt c h a es
structure BoxOk (B L:Addr) (σ:Box) (h:Heap):Prop where
 out:∃ tk,h.IsList B #[.ref L,.int σ.2 tk]
 inn:∃ vs n,IsL h L vs n∧Ims h vs.toList (σ.1.map PV.int)
 ne:B≠L
theorem ims_ints {h h':Heap}{vs:List Value}{xs:List Int} (x:Ims h vs (xs.map PV.int)):Ims h' vs (xs.map PV.int):=by
 induction xs generalizing vs with
 | nil=>obtain rfl:=Ims.toNil x;exact .nil
 | cons a xs ih=>cases x with
  | cons p q=>obtain ⟨_,rfl⟩:=Im.toInt p;exact .cons (.int _ _) (ih q)
theorem BoxOk.stay {B L:Addr}{σ:Box}{h h':Heap} (x:BoxOk B L σ h) (k:∀ b o,b∈[B,L]->h.get? b=some o->h'.get? b=some o):BoxOk B L σ h':=by
 obtain ⟨⟨tk,o,ho,r⟩,⟨vs,n,hl,hi⟩,hne⟩:=x
 exact ⟨⟨tk,o,k B o (.head _) ho,r⟩,⟨vs,n,k L _ (.tail _ (.head _)) hl,ims_ints hi⟩,hne⟩
theorem BoxOk.live {B L:Addr}{σ:Box}{h:Heap} (x:BoxOk B L σ h) {a:Addr} (ha:a∈[B,L]):∃ o,h.get? a=some o∧o.cls=.type "list"∧∀ es n,o.data≠.dict es n:=by
 obtain ⟨⟨tk,o,ho,hc,n,hd⟩,⟨vs,m,hl,hi⟩,_⟩:=x
 rcases List.mem_cons.mp ha with rfl | ha
 ·exact ⟨o,ho,hc,fun es n q=>by cases hd.symm.trans q⟩
 ·obtain rfl:=List.mem_singleton.mp ha
  exact ⟨_,hl,rfl,fun es n q=>by cases q⟩
inductive Slot where
 | val (x:PV)
 | lst (a:Addr) (xs:List PV)
 | dct (a:Addr) (es:List (PV×PV))
 | tab (a:Addr) (es:List (Str×PV))
 | ref (v:Value)
 | box (B L:Addr) (σ:Box)
 | tabs (a:Addr) (ds:List (Addr×List (Str×PV)))
noncomputable def Slot.fp:Slot->List Addr
 | .lst a _=>[a]
 | .dct a _=>[a]
 | .tab a _=>[a]
 | .box B L _=>[B,L]
 | .tabs a ds=>a :: ds.map (·.1)
 | _=>[]
noncomputable def Slot.ok (c:Cx) (h:Heap) (v:Value):Slot->Prop
 | .val x=>Im h v x
 | .lst a xs=>v=.ref a∧ListAt h a xs
 | .dct a es=>v=.ref a∧DctAt c h a es
 | .tab a es=>v=.ref a∧TabAt c h a es
 | .ref u=>v=u
 | .box B L σ=>v=.ref B∧BoxOk B L σ h
 | .tabs a ds=>v=.ref a∧ListAt h a (ds.map fun d=>PV.ref d.1)∧∀ d∈ds,TabAt c h d.1 d.2
theorem ListAt.mono {h h':Heap}{a:Addr}{xs:List PV} (x:ListAt h a xs) (k:TK h h') (ka:∀ o,h.get? a=some o->h'.get? a=some o):ListAt h' a xs:=by
 obtain ⟨⟨vs,⟨o,ho,r⟩,hi⟩,hd⟩:=x
 exact ⟨⟨vs,⟨o,ka o ho,r⟩,hi.mono k⟩,fun o' e=>by cases (ka o ho).symm.trans e;exact hd _ ho⟩
open Classical in
theorem DctAt.mono {c:Cx}{h h':Heap}{a:Addr}{es:List (PV×PV)} (x:DctAt c h a es) (k:TK h h') (ka:∀ o,h.get? a=some o->h'.get? a=some o):DctAt c h' a es:=by
 obtain ⟨l,xs,⟨o,es',ep,ho,hx,hd,he,his,hn⟩,hE⟩:=x
 exact ⟨l,xs,⟨o,es',ep,ka o ho,hx,hd,he,fun y hy=>Im.mono k (his y hy),hn⟩,hE.mono k⟩
theorem TabAt.mono {c:Cx}{h h':Heap}{a:Addr}{es:List (Str×PV)} (x:TabAt c h a es) (k:TK h h') (ka:∀ o,h.get? a=some o->h'.get? a=some o):TabAt c h' a es:=by
 obtain ⟨f,⟨o,es',ep,ho,r⟩,hE⟩:=x
 exact ⟨f,⟨o,es',ep,ka o ho,r⟩,hE.mono k⟩
theorem TabAt.live {c:Cx}{h:Heap}{a:Addr}{es:List (Str×PV)} (x:TabAt c h a es):∃ o,h.get? a=some o∧o.cls=.type "dict":=by
 obtain ⟨f,⟨o,es',ep,ho,hx,r⟩,hE⟩:=x
 exact ⟨o,ho,hx.1⟩
theorem TabAt.get {c:Cx}{h:Heap}{a:Addr}{es:List (Str×PV)} (x:TabAt c h a es) {k:Str}{y:PV} (e:es.lookup k=some y):∃ g,h.MapOf (strKind c.prog c.w) a g∧∃ v,g k=some v∧Im h v y:=by
 obtain ⟨xs,hD,hE⟩:=x
 exact ⟨_,hD.mapOf,hE.get k y e⟩
theorem Slot.ok.mono {c:Cx}{h h':Heap}{v:Value}{sl:Slot} (x:sl.ok c h v) (k:TK h h') (ka:∀ a∈sl.fp,∀ o,h.get? a=some o->h'.get? a=some o):sl.ok c h' v:=by
 cases sl with
 | val y=>exact Im.mono k x
 | lst a xs=>exact ⟨x.1,x.2.mono k (ka a (.head _))⟩
 | dct a xs=>exact ⟨x.1,x.2.mono k (ka a (.head _))⟩
 | tab a xs=>exact ⟨x.1,x.2.mono k (ka a (.head _))⟩
 | ref u=>exact x
 | box B L σ=>exact ⟨x.1,x.2.stay fun b o hb e=>ka b hb o e⟩
 | tabs a ds=>exact ⟨x.1,x.2.1.mono k (ka a (.head _)),fun d hd=>(x.2.2 d hd).mono k (ka d.1 (.tail _ (List.mem_map_of_mem hd)))⟩
theorem Slot.ok.live {c:Cx}{h:Heap}{v:Value}{sl:Slot} (x:sl.ok c h v):∀ a∈sl.fp,∃ o,h.get? a=some o∧o.cls≠.type "tuple":=by
 intro a ha
 cases sl with
 | val y=>cases ha
 | lst b xs =>
  obtain rfl:=List.mem_singleton.mp ha
  obtain ⟨⟨vs,⟨o,ho,hc,_⟩,_⟩,_⟩:=x.2
  exact ⟨o,ho,by rw [hc];decide⟩
 | dct b xs =>
  obtain rfl:=List.mem_singleton.mp ha
  obtain ⟨_,ys,⟨o,es',ep,ho,hx,_⟩,_⟩:=x.2
  exact ⟨o,ho,by rw [hx.1];decide⟩
 | tab b xs =>
  obtain rfl:=List.mem_singleton.mp ha
  obtain ⟨o,ho,hx⟩:=x.2.live
  exact ⟨o,ho,by rw [hx];decide⟩
 | ref u=>cases ha
 | box B L σ =>
  obtain ⟨o,ho,hc,_⟩:=x.2.live ha
  exact ⟨o,ho,by rw [hc];decide⟩
 | tabs b ds =>
  rcases List.mem_cons.mp ha with rfl | ha
  ·obtain ⟨⟨vs,⟨o,ho,hc,_⟩,_⟩,_⟩:=x.2.1
   exact ⟨o,ho,by rw [hc];decide⟩
  ·obtain ⟨d,hd,rfl⟩:=List.mem_map.mp ha
   obtain ⟨o,ho,hx⟩:=(x.2.2 d hd).live
   exact ⟨o,ho,by rw [hx];decide⟩
structure RV where
 sl:Slot
 new:Bool:=false
noncomputable abbrev RV.im (x:PV):RV:=⟨.val x,false⟩
noncomputable def RV.ok (c:Cx) (h₀ h:Heap) (v:Value) (r:RV):Prop:=r.sl.ok c h v∧(r.new=true->∀ a∈r.sl.fp,h₀.get? a=none)
structure Fx where
 c:Cx
 A:Around
 env:Env
 frs:List Env
 H:Shared
 Z:List Addr
 zok:Box->Heap->Prop
 own:Bool
 K:List (Addr×Obj)
 T:Heap
structure Fx.Ok (f:Fx) (sc:Scope) (d:Nat):Prop where
 cx:f.c.Ok
 scope:f.env.scope=sc
 kind:sc.kind=.function
 glob:f.env.globals=mainGlobals
 blt:f.env.builtins=builtinsNs
 handled:f.A.handled=none
 room:f.A.depth+d < recursionLimit
 units:f.A.units+8 * d+60 < cLine
 frames:f.A.frames=some f.frs
 fr:∃ fenv outer L,f.frs=fenv :: outer∧fenv.frame=some L∧f.env.frame=some L∧fenv.scope.kind=.function
 base:Kp f.c.base f.H.heap
 zbase:∀ a∈f.Z,f.c.base.get? a=none
 zsame:∀ σ h h',(∀ b o,b∈f.Z->h.get? b=some o->h'.get? b=some o)->f.zok σ h->f.zok σ h'
 ztup:∀ σ h a o,a∈f.Z->f.zok σ h->h.get? a=some o->o.cls≠.type "tuple"
 zlive:∀ σ h a,a∈f.Z->f.zok σ h->∃ o,h.get? a=some o
 fz:∀ e∈f.frs,∀ L,e.frame=some L->L∉f.Z
 lnew:f.H.heap.get? f.env.locals=none
 cnew:f.own=true->∀ p∈f.env.cells,f.H.heap.get? p.2=none
 apart:f.own=true->f.env.cells.Pairwise fun x y=>x.2≠y.2
 lz:f.env.locals∉f.Z
 cz:∀ p∈f.env.cells,p.2∉f.Z∧p.2≠f.env.locals
 kz:∀ p∈f.K,p.1∉f.Z∧p.1≠f.env.locals∧∀ q∈f.env.cells,q.2≠p.1
noncomputable def VarIs (env:Env) (h:Heap) (m:Str->Option Value) (x:Str) (v:Value):Prop :=
 (env.kindOf x=some .local∧m x=some v)∨((env.kindOf x=some .cell∨env.kindOf x=some .free)∧∃ a,env.cells.lookup x=some a∧h.IsCell a (some v))
noncomputable abbrev Ab:=Str->Option RV
inductive VarAt (c:Cx) (env:Env) (h:Heap) (m:Str->Option Value) (x:Str) (r:RV):Prop
 | mk (v:Value):VarIs env h m x v->r.sl.ok c h v->VarAt c env h m x r
inductive Vars (c:Cx) (env:Env) (ρ:Ab) (h:Heap):Prop
 | mk (m:Str->Option Value):h.Ns env.locals m->(∀ x r,ρ x=some r->VarAt c env h m x r)->Vars c env ρ h
structure Inv (f:Fx) (ρ:Ab) (σ:Box) (s:Shared):Prop where
 same:Same f.H s
 keep:KpZ f.Z f.H.heap s.heap
 z:f.zok σ s.heap
 ff:s.heap.FunFrames f.c.base f.frs
 vars:Vars f.c f.env ρ s.heap
 cells:∀ p∈f.env.cells,∃ v,s.heap.IsCell p.2 v
 pin:∀ p∈f.K,s.heap.get? p.1=some p.2
 tup:TK f.T s.heap
 off:∀ x r a,ρ x=some r->a∈r.sl.fp->a≠f.env.locals∧a∉f.Z∧∀ p∈f.env.cells,p.2≠a
 mine:∀ x r a,ρ x=some r->r.new=true->a∈r.sl.fp->f.H.heap.get? a=none∧(∀ p∈f.K,p.1≠a)∧∀ y q,y≠x->ρ y=some q->a∉q.sl.fp
structure Ext (f:Fx) (s s':Shared):Prop where
 same:Same s s'
 keep:KpZ f.Z s.heap s'.heap
theorem Ext.refl (f:Fx) (s:Shared):Ext f s s:=⟨⟨_,_,rfl⟩,fun _ _ _ e=>e⟩
theorem Ext.trans {f:Fx}{s₁ s₂ s₃:Shared} (x:Ext f s₁ s₂) (y:Ext f s₂ s₃):Ext f s₁ s₃:=by
 obtain ⟨⟨h,tk,e⟩,k⟩:=x
 obtain ⟨⟨h',tk',e'⟩,k'⟩:=y
 exact ⟨⟨h',tk',by refine e'▸?_;exact e▸rfl⟩,fun b o hb q=>k' b o hb (k b o hb q)⟩
theorem Ext.of {f:Fx}{s:Shared}{h:Heap}{tk:Nat} (k:Kp s.heap h):Ext f s { s with heap:=h,toks:=tk }:=⟨⟨_,_,rfl⟩,fun b o _ e=>k b o e⟩
section
variable {f:Fx}{sc:Scope}{d:Nat}{ρ:Ab}{σ σ':Box}{s s':Shared}
theorem Inv.tk (F:f.Ok sc d) (I:Inv f ρ σ s) (x:Ext f s s'):TK s.heap s'.heap:=fun a o vs n e c dd =>
 ⟨o,x.keep a o (fun hz=>F.ztup σ s.heap a o hz I.z e c) e,c,dd⟩
theorem Inv.kb (F:f.Ok sc d) (I:Inv f ρ σ s):Kp f.c.base s.heap:=fun b o e=>I.keep b o (fun hz=>by exact nob (F.zbase b hz) e) (F.base b o e)
theorem ff_of {base h h':Heap}{l:List Env} (k:∀ e∈l,∀ b o,e.frame=some b->h.get? b=some o->(∀ vs,o.data≠.fields vs)->∃ o',h'.get? b=some o'∧∀ vs,o'.data≠.fields vs) (hl:h.FunFrames base l):h'.FunFrames base l:=by
 induction l with
 | nil=>trivial
 | cons env rest ih =>
  obtain ⟨hk,⟨L,o,hf,hn,ho,hd⟩,hr⟩:=hl
  obtain ⟨o',ho',hd'⟩:=k env (.head _) L o hf ho hd
  exact ⟨hk,⟨L,o',hf,hn,ho',hd'⟩,ih (fun e he=>k e (.tail _ he)) hr⟩
theorem IsCell.at' {h h':Heap}{c:Addr}{v:Option Value} (x:h.IsCell c v) (k:∀ o,h.get? c=some o->h'.get? c=some o):h'.IsCell c v:=let ⟨o,ho,hd⟩:=x;⟨o,k o ho,hd⟩
theorem VarIs.at {env:Env}{h h':Heap}{m:Str->Option Value}{x:Str}{v:Value} (q:VarIs env h m x v) (k:∀ p∈env.cells,∀ o,h.get? p.2=some o->h'.get? p.2=some o):VarIs env h' m x v:=by
 rcases q with q | ⟨hk,a,hl,hc⟩
 ·exact .inl q
 ·exact .inr ⟨hk,a,hl,IsCell.at' hc (k _ (mem_of_lookup hl))⟩
theorem Inv.ext (F:f.Ok sc d) (I:Inv f ρ σ s) (x:Ext f s s') (z:f.zok σ' s'.heap):Inv f ρ σ' s':=by
 have tk:=I.tk F x
 refine ⟨?_,fun b o hb e=>x.keep b o hb (I.keep b o hb e),z,?_,?_,?_,fun p hp=>x.keep _ _ (F.kz p hp).1 (I.pin p hp),I.tup.trans tk,I.off,I.mine⟩
 ·obtain ⟨h,tk,e⟩:=I.same
  obtain ⟨h',tk',e'⟩:=x.same
  exact ⟨h',tk',by rw [e'];rw [e]⟩
 ·exact ff_of (fun en he b o hf e hd=>⟨o,x.keep b o (F.fz en he b hf) e,hd⟩) I.ff
 ·obtain ⟨m,hn,hv⟩:=I.vars
  refine ⟨m,hn.at' fun o e=>x.keep _ o F.lz e,fun y sl e=>?_⟩
  obtain ⟨v,h1,h2⟩:=hv y sl e
  exact ⟨v,h1.at fun p hp o e=>x.keep _ o (F.cz p hp).1 e,h2.mono tk fun a ha o e'=>x.keep a o (I.off y sl a e ha).2.1 e'⟩
 ·intro p hp
  obtain ⟨v,hc⟩:=I.cells p hp
  exact ⟨v,IsCell.at' hc fun o e=>x.keep _ o (F.cz p hp).1 e⟩
end
end
section
noncomputable def set (ρ:Ab) (x:Str) (r:RV):Ab:=fun y=>if y=x then some r else ρ y
theorem set_ind {ρ:Ab}{x:Str}{r:RV}{P:Str->RV->Prop} (a:P x r) (b:∀ y q,y≠x->ρ y=some q->P y q):∀ y q,set ρ x r y=some q->P y q:=fun y q h=>by
 by_cases e:y=x
 ·exact e▸Option.some.inj ((if_pos e).symm.trans h)▸a
 ·exact b y q e ((if_neg e).symm.trans h)
section
variable {f:Fx}{sc:Scope}{d:Nat}{ρ:Ab}{σ σ':Box}{s s':Shared}{E:Value->Shared->Prop}
theorem tk_sameBut {h h':Heap}{b:Addr} (hs:Heap.SameBut b h h') (hb:∀ o,h.get? b=some o->o.cls=.type "tuple"->∀ vs n,o.data≠.seq vs n):TK h h':=fun a o vs n e c dd =>
 ⟨o,(hs.2 a (by rintro rfl;exact hb o e c vs n dd)).trans e,c,dd⟩
theorem ns_noseq {h:Heap}{a:Addr}{m:Str->Option Value} (hn:h.Ns a m):∀ o,h.get? a=some o->∀ vs n,o.data≠.seq vs n:=by
 obtain ⟨o,_,_,ho,hd,_⟩:=hn
 intro o' e vs n q
 cases ho.symm.trans e
 cases hd.symm.trans q
theorem cell_noseq {h:Heap}{a:Addr}{v:Option Value} (hc:h.IsCell a v):∀ o,h.get? a=some o->∀ vs n,o.data≠.seq vs n:=by
 obtain ⟨o,ho,hd⟩:=hc
 intro o' e vs n q
 cases ho.symm.trans e
 cases hd.symm.trans q
structure SlotFits (f:Fx) (ρ:Ab) (x:Str) (r:RV):Prop where
 off:∀ a∈r.sl.fp,a≠f.env.locals∧a∉f.Z∧∀ p∈f.env.cells,p.2≠a
 mine:r.new=true->∀ a∈r.sl.fp,f.H.heap.get? a=none∧∀ p∈f.K,p.1≠a
 alone:∀ y q a,y≠x->ρ y=some q->(r.new=true∨q.new=true)->a∈r.sl.fp->a∉q.sl.fp
theorem SlotFits.nofp {x:Str}{r:RV} (h:r.sl.fp=[]):SlotFits f ρ x r:=⟨fun a ha=>(by replace ha:=h▸ha;cases ha),fun _ a ha=>(by replace ha:=h▸ha;cases ha),fun _ _ a _ _ _ ha=>(by replace ha:=h▸ha;cases ha)⟩
theorem SlotFits.val {x:Str}{y:PV}:SlotFits f ρ x (.im y):=.nofp rfl
structure Kept (f:Fx) (s s':Shared):Prop where
 tk:TK s.heap s'.heap
 at':∀ b o,b≠f.env.locals->(∀ p∈f.env.cells,p.2≠b)->s.heap.get? b=some o->s'.heap.get? b=some o
theorem SlotFits.fresh (F:f.Ok sc d) (I:Inv f ρ σ s) {x:Str}{r:RV} (hz:∀ a∈r.sl.fp,a∉f.Z) (h:∀ a∈r.sl.fp,s.heap.get? a=none):SlotFits f ρ x r:=by
 refine ⟨fun a ha=>⟨?_,hz a ha,?_⟩,fun _ a ha=>⟨?_,?_⟩,fun y q a _ hy _ ha ha'=>?_⟩
 ·rintro rfl
  obtain ⟨m,⟨o,_,_,ho,_⟩,_⟩:=I.vars
  exact nob (h _ ha) ho
 ·rintro p hp rfl
  obtain ⟨v,o,ho,_⟩:=I.cells p hp
  exact nob (h _ ha) ho
 ·exact back_none (h _ ha) fun o p=>I.keep a o (hz a ha) p
 ·rintro p hp rfl
  have:=I.pin p hp
  exact nob (h _ ha) this
 ·obtain ⟨m,_,hv⟩:=I.vars
  obtain ⟨v,_,ok⟩:=hv y q hy
  obtain ⟨o,ho,_⟩:=ok.live a ha'
  exact nob (h _ ha) ho
theorem mine_set (I:Inv f ρ σ s) {x:Str}{sl:RV} (fit:SlotFits f ρ x sl) :
  ∀ y r a,set ρ x sl y=some r->r.new=true->a∈r.sl.fp->f.H.heap.get? a=none∧(∀ p∈f.K,p.1≠a)∧∀ z q,z≠y->set ρ x sl z=some q->a∉q.sl.fp:=fun y r a hy =>
 set_ind (P:=fun y r=>r.new=true->a∈r.sl.fp->f.H.heap.get? a=none∧(∀ p∈f.K,p.1≠a)∧∀ z q,z≠y->set ρ x sl z=some q->a∉q.sl.fp)
  (fun hr ha=>⟨(fit.mine hr a ha).1,(fit.mine hr a ha).2,fun z t hne hz=>fit.alone z t a hne ((if_neg hne).symm.trans hz) (.inl hr) ha⟩)
  (fun y r q hy hr ha=>⟨(I.mine y r a hy hr ha).1,(I.mine y r a hy hr ha).2.1,fun z t hne hz=>set_ind (P:=fun z t=>z≠y->a∉t.sl.fp) (fun _ h=>fit.alone y r a q hy (.inr hr) h ha) (fun z t _ hz hne=>(I.mine y r a hy hr ha).2.2 z t hne hz) z t hz hne⟩) y r hy
theorem off_set (I:Inv f ρ σ s) {x:Str}{sl:RV} (fit:SlotFits f ρ x sl):∀ y r a,set ρ x sl y=some r->a∈r.sl.fp->a≠f.env.locals∧a∉f.Z∧∀ p∈f.env.cells,p.2≠a:=fun y r a hy =>
 set_ind (P:=fun _ r=>a∈r.sl.fp->a≠f.env.locals∧a∉f.Z∧∀ p∈f.env.cells,p.2≠a) (fit.off a) (fun y r _ hy=>I.off y r a hy) y r hy
theorem Inv.storeL (F:f.Ok sc d) (I:Inv f ρ σ s) {x:Str}{v:Value}{sl:RV}{Q:Unit->Shared->Prop} (hx:f.env.kindOf x=some .local) (ok:sl.sl.ok f.c s.heap v) (fit:SlotFits f ρ x sl)
  (h:∀ s',Inv f (set ρ x sl) σ s'->Kept f s s'->Q () s'):wpAny (model f.c.prog f.c.w) f.A (storeName f.env x v) Q E s:=by
 obtain ⟨m,hn,hv⟩:=I.vars
 have hkind:f.env.scope.kind=.function:=by refine F.scope▸?_;exact F.kind
 refine wpAny_storeName_local hx hn (fun h' hn' hs=>?_) (by refine hkind▸?_;rfl)
 have tk:TK s.heap h':=tk_sameBut hs fun o e _=>ns_noseq hn o e
 obtain ⟨oL,_,_,hL,hLd,_⟩:=id hn'
 have cellNe:∀ p∈f.env.cells,∀ o,s.heap.get? p.2=some o->h'.get? p.2=some o:=fun p hp o e=>(hs.2 _ (F.cz p hp).2).trans e
 refine h _ ?_ ⟨tk,fun b o hb _ e=>(hs.2 b hb).trans e⟩
 refine ⟨?_,fun b o hb e=>(hs.2 b (by rintro rfl;exact nob F.lnew e)).trans (I.keep b o hb e),F.zsame σ s.heap h' (fun b o hb e=>(hs.2 b (by rintro rfl;exact F.lz hb)).trans e) I.z,?_,?_,?_,fun p hp=>(hs.2 _ (F.kz p hp).2.1).trans (I.pin p hp),I.tup.trans tk,?_,?_⟩
 ·obtain ⟨h₁,tk₁,e⟩:=I.same
  exact ⟨h',_,by rw [e]⟩
 ·refine ff_of (fun en he b o hf e hd=>?_) I.ff
  by_cases q:b=f.env.locals
  ·subst q;exact ⟨oL,hL,fun vs=>by refine hLd▸?_;exact fun q=>nomatch q⟩
  ·exact ⟨o,(hs.2 b q).trans e,hd⟩
 ·refine ⟨_,hn',set_ind ?_ fun y sy q hy=>?_⟩
  ·exact ⟨v,.inl ⟨hx,by simp⟩,ok.mono tk fun a ha o e=>(hs.2 a (fit.off a ha).1).trans e⟩
  ·obtain ⟨u,h1,h2⟩:=hv y sy hy
   refine ⟨u,?_,h2.mono tk fun a ha o e=>(hs.2 a (I.off y sy a hy ha).1).trans e⟩
   rcases h1 with ⟨hk,hm⟩ | ⟨hk,a,hl,hc⟩
   ·exact .inl ⟨hk,by simp only [if_neg q];exact hm⟩
   ·exact .inr ⟨hk,a,hl,IsCell.at' hc (cellNe _ (mem_of_lookup hl))⟩
 ·intro p hp
  obtain ⟨u,hc⟩:=I.cells p hp
  exact ⟨u,IsCell.at' hc (cellNe p hp)⟩
 ·exact off_set I fit
 ·exact mine_set I fit
theorem Inv.storeC (F:f.Ok sc d) (I:Inv f ρ σ s) (ho:f.own=true) {x:Str}{v:Value}{sl:RV}{Q:Unit->Shared->Prop} (hx:f.env.kindOf x=some .cell) (hc:∃ a,f.env.cells.lookup x=some a) (ok:sl.sl.ok f.c s.heap v) (fit:SlotFits f ρ x sl)
  (h:∀ s',Inv f (set ρ x sl) σ s'->Kept f s s'->Q () s'):wpAny (model f.c.prog f.c.w) f.A (storeName f.env x v) Q E s:=by
 obtain ⟨m,hn,hv⟩:=I.vars
 have hkind:f.env.scope.kind=.function:=by refine F.scope▸?_;exact F.kind
 obtain ⟨c,hc⟩:=hc
 have hmem:=mem_of_lookup hc
 obtain ⟨v₀,hcell⟩:=I.cells _ hmem
 refine wpAny_storeName_cell hkind hx hc hcell (fun h' hn' hs=>?_)
 have tk:TK s.heap h':=tk_sameBut hs fun o e _=>cell_noseq hcell o e
 have hcL:c≠f.env.locals:=(F.cz _ hmem).2
 refine h _ ?_ ⟨tk,fun b o _ hb e=>(hs.2 b (Ne.symm (hb _ hmem))).trans e⟩
 refine ⟨?_,fun b o hb e=>(hs.2 b (by rintro rfl;exact nob (F.cnew ho _ hmem) e)).trans (I.keep b o hb e),F.zsame σ s.heap h' (fun b o hb e=>(hs.2 b (by rintro rfl;exact (F.cz _ hmem).1 hb)).trans e) I.z,?_,?_,?_,fun p hp=>(hs.2 _ (Ne.symm ((F.kz p hp).2.2 _ hmem))).trans (I.pin p hp),I.tup.trans tk,?_,?_⟩
 ·obtain ⟨h₁,tk₁,e⟩:=I.same
  exact ⟨h',_,by rw [e]⟩
 ·refine ff_of (fun en he b o hf e hd=>?_) I.ff
  by_cases q:b=c
  ·subst q;obtain ⟨o',ho',hd'⟩:=hn';exact ⟨o',ho',fun vs=>by refine hd'▸?_;exact fun q=>nomatch q⟩
  ·exact ⟨o,(hs.2 b q).trans e,hd⟩
 ·refine ⟨m,hn.sameBut hs (Ne.symm hcL),set_ind ?_ fun y sy q hy=>?_⟩
  ·exact ⟨v,.inr ⟨.inl hx,c,hc,hn'⟩,ok.mono tk fun a ha o e=>(hs.2 a (Ne.symm ((fit.off a ha).2.2 _ hmem))).trans e⟩
  ·obtain ⟨u,h1,h2⟩:=hv y sy hy
   refine ⟨u,?_,h2.mono tk fun a ha o e=>(hs.2 a (Ne.symm ((I.off y sy a hy ha).2.2 _ hmem))).trans e⟩
   rcases h1 with h1 | ⟨hk,a,hl,hc'⟩
   ·exact .inl h1
   ·exact .inr ⟨hk,a,hl,hc'.sameBut hs fun e=>q (name_of_addr (F.apart ho) (mem_of_lookup hl) (e▸hmem))⟩
 ·intro p hp
  by_cases q:p.2=c
  ·exact ⟨_,q▸hn'⟩
  ·obtain ⟨u,hu⟩:=I.cells p hp
   exact ⟨u,hu.sameBut hs q⟩
 ·exact off_set I fit
 ·exact mine_set I fit
theorem Inv.storeK (F:f.Ok sc d) (I:Inv f ρ σ s) {x:Str}{v:Value}{sl:RV}{Q:Unit->Shared->Prop} (hx:sc.names.lookup x=some .local∨(f.own=true∧sc.names.lookup x=some .cell∧∃ a,f.env.cells.lookup x=some a))
  (ok:sl.sl.ok f.c s.heap v) (fit:SlotFits f ρ x sl) (h:∀ s',Inv f (set ρ x sl) σ s'->Kept f s s'->Q () s'):wpAny (model f.c.prog f.c.w) f.A (storeName f.env x v) Q E s:=by
 rcases hx with hx | ⟨ho,hx,hc⟩
 ·exact I.storeL F (by unfold Env.kindOf;refine F.scope▸?_;exact hx) ok fit h
 ·exact I.storeC F ho (by unfold Env.kindOf;refine F.scope▸?_;exact hx) hc ok fit h
theorem Inv.store (F:f.Ok sc d) (I:Inv f ρ σ s) {x:Str}{v:Value}{sl:RV}{Q:Unit->Shared->Prop} (hx:sc.names.lookup x=some .local∨(f.own=true∧sc.names.lookup x=some .cell∧∃ a,f.env.cells.lookup x=some a))
  (ok:sl.sl.ok f.c s.heap v) (fit:SlotFits f ρ x sl) (h:∀ s',Inv f (set ρ x sl) σ s'->Q () s'):wpAny (model f.c.prog f.c.w) f.A (storeName f.env x v) Q E s :=
 I.storeK F hx ok fit fun s' i _=>h s' i
theorem Inv.swap (F:f.Ok sc d) (I:Inv f ρ σ s) {x:Str}{a:Addr}{sl sl':Slot}{h':Heap}{tk:Nat} (hx:ρ x=some ⟨sl,true⟩) (ha:a∈sl.fp) (hf':SlotFits f ρ x ⟨sl',true⟩)
  (hs:Heap.SameBut a s.heap h') (hlive:∃ o,h'.get? a=some o∧∀ vs,o.data≠.fields vs) (ok:∀ v,sl.ok f.c s.heap v->sl'.ok f.c h' v):Inv f (set ρ x ⟨sl',true⟩) σ { s with heap:=h',toks:=tk }:=by
 obtain ⟨m,hn,hv⟩:=I.vars
 obtain ⟨hL,hZ,hcs⟩:=I.off x _ a hx ha
 obtain ⟨hnew,hpin,halone⟩:=I.mine x _ a hx rfl ha
 obtain ⟨v,hvx,okx⟩:=hv x _ hx
 obtain ⟨o₀,ho₀,hc₀⟩:=okx.live a ha
 have tk:TK s.heap h':=tk_sameBut hs fun o e c=>by cases sinj ho₀ e;exact absurd c hc₀
 refine ⟨?_,fun b o hb e=>(hs.2 b (by rintro rfl;exact nob hnew e)).trans (I.keep b o hb e),F.zsame σ s.heap h' (fun b o hb e=>(hs.2 b (by rintro rfl;exact hZ hb)).trans e) I.z,?_,?_,?_,fun p hp=>(hs.2 _ (hpin p hp)).trans (I.pin p hp),I.tup.trans tk,?_,?_⟩
 ·obtain ⟨h₁,tk₁,e⟩:=I.same
  exact ⟨h',_,by rw [e]⟩
 ·refine ff_of (fun en he b o hf e hd=>?_) I.ff
  by_cases q:b=a
  ·subst q;exact hlive
  ·exact ⟨o,(hs.2 b q).trans e,hd⟩
 ·refine ⟨m,hn.sameBut hs (Ne.symm hL),set_ind ?_ fun y sy q hy=>?_⟩
  ·exact ⟨v,hvx.at fun p hp o e=>(hs.2 _ (hcs p hp)).trans e,ok v okx⟩
  ·obtain ⟨u,h1,h2⟩:=hv y sy hy
   refine ⟨u,h1.at fun p hp o e=>(hs.2 _ (hcs p hp)).trans e,h2.mono tk fun b hb o e=>(hs.2 b ?_).trans e⟩
   rintro rfl
   exact halone y sy q hy hb
 ·intro p hp
  obtain ⟨u,hu⟩:=I.cells p hp
  exact ⟨u,hu.sameBut hs (hcs p hp)⟩
 ·exact off_set I hf'
 ·exact mine_set I hf'
theorem Inv.change (F:f.Ok sc d) (I:Inv f ρ σ s) {x:Str}{a:Addr}{sl sl':Slot}{h':Heap}{tk:Nat} (hx:ρ x=some ⟨sl,true⟩) (hfp:sl.fp=[a]) (hfp':sl'.fp=[a])
  (hs:Heap.SameBut a s.heap h') (hdat:∀ o,h'.get? a=some o->∀ vs,o.data≠.fields vs) (ok:∀ v,sl.ok f.c s.heap v->sl'.ok f.c h' v):Inv f (set ρ x ⟨sl',true⟩) σ { s with heap:=h',toks:=tk }:=by
 obtain ⟨m,hn,hv⟩:=I.vars
 obtain ⟨v,_,okx⟩:=hv x _ hx
 obtain ⟨o',ho',_⟩:=(ok v okx).live a (hfp'▸.head _)
 have ha:a∈sl.fp:=hfp▸.head _
 have one:∀ b,b∈sl'.fp->a=b:=fun b hb=>(List.mem_singleton.mp (hfp'▸hb:b∈[a])).symm
 have M:=I.mine x _ a hx rfl ha
 exact I.swap F hx ha ⟨fun b hb=>one b hb▸I.off x _ a hx ha,fun _ b hb=>one b hb▸⟨M.1,M.2.1⟩,fun y q b hne hy _ hb=>one b hb▸M.2.2 y q hne hy⟩ hs ⟨o',ho',hdat o' ho'⟩ ok
theorem Inv.reslot (I:Inv f ρ σ s) {x:Str}{r r':RV} (hx:ρ x=some r) (fit:SlotFits f ρ x r') (ok:∀ v,r.sl.ok f.c s.heap v->r'.sl.ok f.c s.heap v):Inv f (set ρ x r') σ s:=by
 obtain ⟨m,hn,hv⟩:=I.vars
 obtain ⟨v,a,k⟩:=hv x r hx
 exact ⟨I.same,I.keep,I.z,I.ff,⟨m,hn,set_ind ⟨v,a,ok v k⟩ fun y q _ h=>hv y q h⟩,I.cells,I.pin,I.tup,off_set I fit,mine_set I fit⟩
theorem Inv.weaken (I:Inv f ρ σ s) {x:Str}{r r':RV} (hx:ρ x=some r) (hfp:∀ a∈r'.sl.fp,a∈r.sl.fp) (hn:r'.new=true->r.new=true) (ok:∀ v,r.sl.ok f.c s.heap v->r'.sl.ok f.c s.heap v):Inv f (set ρ x r') σ s :=
 I.reslot hx ⟨fun a ha=>I.off x r a hx (hfp a ha),fun e a ha=>⟨(I.mine x r a hx (hn e) (hfp a ha)).1,(I.mine x r a hx (hn e) (hfp a ha)).2.1⟩,fun y q a hne hy hor ha haq=>hor.elim (fun e=>(I.mine x r a hx (hn e) (hfp a ha)).2.2 y q hne hy haq) fun e=>(I.mine y q a hy e haq).2.2 x r (Ne.symm hne) hx (hfp a ha)⟩ ok
theorem Inv.freeze (I:Inv f ρ σ s) {x:Str}{r:RV} (hx:ρ x=some r):Inv f (set ρ x ⟨r.sl,false⟩) σ s:=I.weaken hx (fun _ h=>h) (fun e=>absurd e Bool.false_ne_true) fun _ h=>h
end
end
section
noncomputable def KD (Z:List Addr) (h h':Heap):Prop:=∀ b o,b∉Z->h.get? b=some o->(∀ vs,o.data≠.fields vs)->∃ o',h'.get? b=some o'∧o'.cls=o.cls∧o'.dict=o.dict∧o'.data=o.data
theorem KD.of {Z:List Addr}{h h':Heap} (k:KpZ Z h h'):KD Z h h':=fun b o hb e _=>⟨o,k b o hb e,rfl,rfl,rfl⟩
theorem KD.wider {Z:List Addr}{h h':Heap} (k:KD [] h h'):KD Z h h':=fun b o _ e n=>k b o (fun h=>(List.not_mem_nil h).elim) e n
theorem KD.trans {Z:List Addr}{h₁ h₂ h₃:Heap} (x:KD Z h₁ h₂) (y:KD Z h₂ h₃):KD Z h₁ h₃:=fun b o hb e n=>by
 obtain ⟨o',e',c',dd',d'⟩:=x b o hb e n
 obtain ⟨o'',e'',c'',dd'',d''⟩:=y b o' hb e' (fun vs=>by refine d'▸?_;exact n vs)
 exact ⟨o'',e'',c''.trans c',dd''.trans dd',d''.trans d'⟩
inductive Fl1 (e:Addr) (cls:Value) (h:Heap):Prop
 | mk (oe:Obj) (vs:Array Value):h.get? e=some oe->oe.cls=cls->oe.data=.fields vs->vs[1]?=some .none->Fl1 e cls h
inductive Fl2 (base:Heap) (e:Addr) (cls:Value) (h:Heap) (m:Value):Prop
 | mk (oe:Obj) (vs:Array Value) (T:Addr) (oT:Obj) (ts:Array Value):h.get? e=some oe->oe.cls=cls->oe.data=.fields vs->vs[1]?=some (.ref T)->base.get? T=none->T≠e->h.get? T=some oT->oT.data=.fields ts->ts[3]?=some m->Fl2 base e cls h m
noncomputable def Flight (base:Heap) (e:Addr) (cls:Value) (h:Heap):Option Value->Prop
 | none=>Fl1 e cls h
 | some m=>Fl2 base e cls h m
theorem Fl2.of {base:Heap}{e:Addr}{cls:Value}{h:Heap} (t:h.Traced base e cls):Fl2 base e cls h .none:=by
 obtain ⟨oe,vs,T,oT,ts,he,hc,hd,h1,hn,hne,hT,hdT,h3⟩:=t
 exact ⟨oe,vs,T,oT,ts,he,hc,hd,h1,hn,hne,hT,hdT,h3⟩
theorem Fl2.to {base:Heap}{e:Addr}{cls:Value}{h:Heap} (t:Fl2 base e cls h .none):h.Traced base e cls:=by
 obtain ⟨oe,vs,T,oT,ts,he,hc,hd,h1,hn,hne,hT,hdT,h3⟩:=t
 exact ⟨oe,vs,T,oT,ts,he,hc,hd,h1,hn,hne,hT,hdT,h3⟩
theorem Fl2.toW {base:Heap}{e:Addr}{cls:Value}{h:Heap}{m:Value} (t:Fl2 base e cls h m):∃ a0,h.TracedAtW base e cls a0 m:=by
 obtain ⟨oe,vs,T,oT,ts,he,hc,hd,h1,r1,r2,r3,r4,r5⟩:=t
 exact ⟨_,oe,vs,T,oT,ts,he,⟨hc,Array.getElem?_eq_getElem (Nat.lt_of_succ_lt (Array.getElem?_eq_some_iff.mp h1).1)⟩,hd,h1,r1,r2,r3,r4,r5⟩
theorem Fl2.ofW {base:Heap}{e:Addr}{cls:Value}{h:Heap}{a0 m:Value} (t:h.TracedAtW base e cls a0 m):Fl2 base e cls h m:=by
 obtain ⟨oe,vs,T,oT,ts,he,hc,hd,h1,hn,hne,hT,hdT,h3⟩:=t
 exact ⟨oe,vs,T,oT,ts,he,hc.1,hd,h1,hn,hne,hT,hdT,h3⟩
structure ExcAt (c:Cx) (Z:List Addr) (frs:List Env) (h₀:Shared) (e:Addr) (mk:Option Value) (s':Shared):Prop where
 same:Same h₀ s'
 base:Kp c.base s'.heap
 new:c.base.get? e=none
 ff:s'.heap.FunFrames c.base frs
 fl:Flight c.base e (.ref c.C) s'.heap mk
 kd:KD Z h₀.heap s'.heap
inductive ExcI (c:Cx) (env:Env) (Z:List Addr) (frs:List Env) (H:Shared) (x:Value) (s':Shared):Prop
 | mk (e:Addr) (mk:Option Value):x=.ref e->ExcAt c Z frs H e mk s'->(mk=none∨mk=some .none∨∃ L,env.frame=some L∧mk=some (rawInt L))->ExcI c env Z frs H x s'
noncomputable def Exc (f:Fx) (x:Value) (s':Shared):Prop:=ExcI f.c f.env f.Z f.frs f.H x s'∧∃ m,s'.heap.Ns f.env.locals m
theorem KD.ns {Z:List Addr}{h h':Heap}{a:Addr}{m:Str->Option Value} (k:KD Z h h') (hz:a∉Z) (hn:h.Ns a m):h'.Ns a m:=by
 obtain ⟨o,es,ep,ho,hd,r⟩:=hn
 obtain ⟨o',h1,_,_,h4⟩:=k a o hz ho fun vs q=>by cases hd.symm.trans q
 exact ⟨o',es,ep,h1,h4.trans hd,r⟩
inductive Post (f:Fx) (s:Shared) (Q:RV->Box->Prop) (v:Value) (s':Shared):Prop
 | mk (r:RV) (σ':Box):Ext f s s'->f.zok σ' s'.heap->r.ok f.c s.heap s'.heap v->(∀ a∈r.sl.fp,a∉f.Z)->Q r σ'->Post f s Q v s'
noncomputable abbrev ExP (f:Fx) (X:Prop):Value->Shared->Prop:=fun x s'=>X∧Exc f x s'
noncomputable def EV (f:Fx) (ρ:Ab) (σ:Box) (e:Expr) (Q:RV->Box->Prop) (X:Prop):Prop :=
 ∀ s,Inv f ρ σ s->wpAny (model f.c.prog f.c.w) f.A (eval e f.env) (Post f s Q) (ExP f X) s
inductive PostB (f:Fx) (s:Shared) (Q:Bool->Box->Prop) (b:Bool) (s':Shared):Prop
 | mk (σ':Box):Ext f s s'->f.zok σ' s'.heap->Q b σ'->PostB f s Q b s'
noncomputable def ET (f:Fx) (ρ:Ab) (σ:Box) (e:Expr) (Q:Bool->Box->Prop) (X:Prop):Prop :=
 ∀ s,Inv f ρ σ s->wpAny (model f.c.prog f.c.w) f.A (isTrue e f.env (eval e f.env)) (PostB f s Q) (ExP f X) s
inductive RVs (c:Cx) (Z:List Addr) (h₀ h:Heap):List Value->List RV->Prop
 | nil:RVs c Z h₀ h [] []
 | cons {v:Value}{vs:List Value}{r:RV}{rs:List RV}:r.ok c h₀ h v->(∀ a∈r.sl.fp,a∉Z)->(∀ q∈rs,q.new=true->∀ a∈q.sl.fp,a∉r.sl.fp)->RVs c Z h₀ h vs rs->RVs c Z h₀ h (v :: vs) (r :: rs)
inductive RV2 (c:Cx) (Z:List Addr) (h₀ h:Heap) (vs:List Value) (r1 r2:RV):Prop
 | mk (v1 v2:Value):vs=[v1,v2]->r1.ok c h₀ h v1->(∀ a∈r1.sl.fp,a∉Z)->r2.ok c h₀ h v2->RV2 c Z h₀ h vs r1 r2
theorem RVs.two {c:Cx}{Z:List Addr}{h₀ h:Heap}{vs:List Value}{r1 r2:RV} (o:RVs c Z h₀ h vs [r1,r2]):RV2 c Z h₀ h vs r1 r2:=by
 cases o with
 | cons o1 off1 _ o=>cases o with
  | cons o2 _ _ o=>cases o;exact ⟨_,_,rfl,o1,off1,o2⟩
inductive PostL (f:Fx) (s:Shared) (Q:List RV->Box->Prop) (vs:List Value) (s':Shared):Prop
 | mk (rs:List RV) (σ':Box):Ext f s s'->f.zok σ' s'.heap->RVs f.c f.Z s.heap s'.heap vs rs->Q rs σ'->PostL f s Q vs s'
noncomputable def EL (f:Fx) (ρ:Ab) (σ:Box) (es:List Expr) (Q:List RV->Box->Prop) (X:Prop):Prop :=
 ∀ s p,Inv f ρ σ s->wpAny (model f.c.prog f.c.w) f.A (spliced (backTo p (starEach es f.env))) (PostL f s Q) (ExP f X) s
inductive XN (f:Fx) (N:Ab->Box->Prop) (s':Shared):Prop
 | mk (ρ':Ab) (σ':Box):Inv f ρ' σ' s'->N ρ' σ'->XN f N s'
inductive XR (f:Fx) (R:RV->Box->Prop) (v:Value) (s':Shared):Prop
 | mk (r:RV) (σ':Box) (ρ':Ab):Inv f ρ' σ' s'->r.ok f.c f.H.heap s'.heap v->r.new=true->R r σ'->XR f R v s'
noncomputable def XP (f:Fx) (N:Ab->Box->Prop) (R:RV->Box->Prop):Flow->Shared->Prop
 | .next,s'=>XN f N s'
 | .ret v,s'=>XR f R v s'
 | _,_=>False
noncomputable def XS (f:Fx) (ρ:Ab) (σ:Box) (st:Stmt) (N:Ab->Box->Prop) (R:RV->Box->Prop) (X:Prop):Prop :=
 ∀ s,Inv f ρ σ s->wpAny (model f.c.prog f.c.w) f.A (exec st f.env) (XP f N R) (ExP f X) s
noncomputable def XL (f:Fx) (ρ:Ab) (σ:Box) (sts:List Stmt) (N:Ab->Box->Prop) (R:RV->Box->Prop) (X:Prop):Prop :=
 ∀ s,Inv f ρ σ s->wpAny (model f.c.prog f.c.w) f.A (execs sts f.env) (XP f N R) (ExP f X) s
section
variable {f:Fx}{sc:Scope}{d:Nat}{ρ:Ab}{σ:Box}{s:Shared}{Q:RV->Box->Prop}{X:Prop}{N:Ab->Box->Prop}{R:RV->Box->Prop}
theorem RV.ok.mono {c:Cx}{h₀ h h':Heap}{v:Value}{r:RV} (x:r.ok c h₀ h v) (k:TK h h') (ka:∀ a∈r.sl.fp,∀ o,h.get? a=some o->h'.get? a=some o):r.ok c h₀ h' v:=⟨x.1.mono k ka,x.2⟩
theorem rv_from {s₀ s₁:Shared}{h:Heap}{v:Value}{r:RV} (e:Ext f s₀ s₁) (off:∀ a∈r.sl.fp,a∉f.Z) (x:r.ok f.c s₁.heap h v):r.ok f.c s₀.heap h v :=
 ⟨x.1,fun q a ha=>by
  exact back_none (x.2 q a ha) fun o p=>e.keep a o (off a ha) p⟩
theorem EV.use {e:Expr}{Qc:Value->Shared->Prop}{E:Value->Shared->Prop} (F:f.Ok sc d) (h:EV f ρ σ e Q X) (I:Inv f ρ σ s) (hE:∀ x s',X∧Exc f x s'->E x s')
  (k:∀ v s' r σ',Ext f s s'->Inv f ρ σ' s'->r.ok f.c s.heap s'.heap v->(∀ a∈r.sl.fp,a∉f.Z)->Q r σ'->Qc v s'):wpAny (model f.c.prog f.c.w) f.A (eval e f.env) Qc E s :=
 wpAny_mono (h s I) (fun v s' hq_=>by obtain ⟨r,σ',e,z,ok,off,q⟩:=hq_;exact k v s' r σ' e (I.ext F e z) ok off q) hE
theorem EV.mono {e:Expr}{Q':RV->Box->Prop}{X':Prop} (h:EV f ρ σ e Q X) (k:∀ r σ',Q r σ'->Q' r σ') (kx:X->X'):EV f ρ σ e Q' X' :=
 fun s I=>wpAny_mono (h s I) (fun v s' hq_=>by obtain ⟨r,σ',e,z,ok,off,q⟩:=hq_;exact ⟨r,σ',e,z,ok,off,k r σ' q⟩) fun x s' ⟨a,b⟩=>⟨kx a,b⟩
theorem post_now {v:Value}{h:Heap}{tk:Nat}{r:RV} (I:Inv f ρ σ s) (F:f.Ok sc d) (k:Kp s.heap h) (ok:r.ok f.c s.heap h v) (off:∀ a∈r.sl.fp,a∉f.Z) (q:Q r σ):Post f s Q v { s with heap:=h,toks:=tk } :=
 ⟨r,σ,Ext.of k,F.zsame σ s.heap h (fun b o _ e=>k b o e) I.z,ok,off,q⟩
theorem post_im {v:Value}{h:Heap}{tk:Nat}{x:PV} (I:Inv f ρ σ s) (F:f.Ok sc d) (k:Kp s.heap h) (ok:Im h v x) (q:Q (.im x) σ):Post f s Q v { s with heap:=h,toks:=tk } :=
 post_now (r:=.im x) I F k ⟨ok,fun e=>(by cases e)⟩ (fun a ha=>(by cases ha)) q
theorem EV_Name (F:f.Ok sc d) {x:Str}{pos:Pos}{sl:Slot}{nw:Bool} (hρ:ρ x=some ⟨sl,nw⟩) (h:Q ⟨sl,false⟩ σ)
  (hd:(x == ("__debug__":Str))=false:=by decide) (hc:(x == ("__classdict__":Str))=false:=by decide):EV f ρ σ (.Name x pos) Q X:=fun s I=>by
 obtain ⟨m,hn,hv⟩:=I.vars
 obtain ⟨v,h1,h2⟩:=hv x _ hρ
 have hkind:f.env.scope.kind=.function:=by refine F.scope▸?_;exact F.kind
 have fin:Post f s Q v s:=⟨⟨sl,false⟩,σ,.refl ..,I.z,⟨h2,fun e=>nomatch e⟩,fun a ha=>(I.off x _ a hρ ha).2.1,h⟩
 rcases h1 with ⟨hk,hm⟩ | ⟨hk | hk,a,hl,hcl⟩
 ·exact wpAny_Name (wpAny_loadName_local hkind hk hn hm fin) hd
 ·exact wpAny_Name (wpAny_loadName_cell hkind hk hl hcl fin) hd
 ·exact wpAny_Name (wpAny_loadName_free hkind hk hl hcl fin hc) hd
noncomputable def GName (c:Cx) (x:Str) (v:Value):Prop:=c.mg x=some v∨(c.mg x=none∧c.mb x=some v)
theorem wp_GName (F:f.Ok sc d) (I:Inv f ρ σ s) {x:Str}{pos:Pos}{v:Value}{Qc:Value->Shared->Prop}{E:Value->Shared->Prop} (hx:sc.names.lookup x=some .globalImplicit) (hg:GName f.c x v) (h:Qc v s)
  (hd:(x == ("__debug__":Str))=false:=by decide):wpAny (model f.c.prog f.c.w) f.A (eval (.Name x pos) f.env) Qc E s:=by
 have hkind:f.env.scope.kind=.function:=by refine F.scope▸?_;exact F.kind
 have hk:Kp f.c.base s.heap:=I.kb F
 have hx':f.env.kindOf x=some .globalImplicit:=by unfold Env.kindOf;refine F.scope▸?_;exact hx
 refine Name_function_global hkind hx' ?_ hd
 rcases hg with hg | ⟨h1,h2⟩
 ·exact loadGlobal_global (F.glob▸F.cx.g.keeps hk) hg h
 ·exact loadGlobal_builtin (F.glob▸F.cx.g.keeps hk) h1 (F.blt▸F.cx.b.keeps hk) h2 h
theorem EV_Global (F:f.Ok sc d) {x:Str}{pos:Pos}{v:Value}{sl:Slot} (hx:sc.names.lookup x=some .globalImplicit) (hg:GName f.c x v) (ok:sl.ok f.c f.c.base v) (h:Q ⟨sl,false⟩ σ)
  (hd:(x == ("__debug__":Str))=false:=by decide):EV f ρ σ (.Name x pos) Q X:=fun s I=>by
 have hk:Kp f.c.base s.heap:=I.kb F
 refine wp_GName F I hx hg ⟨⟨sl,false⟩,σ,.refl ..,I.z,⟨ok.mono (TK.of hk) fun a _ o e=>hk a o e,fun e=>nomatch e⟩,fun a ha hz=>?_,h⟩ hd
 obtain ⟨o,ho,_⟩:=ok.live a ha
 have:=F.zbase a hz
 cases ho.symm.trans this
theorem EV_int (F:f.Ok sc d) {i:Int}{k:Nat}{pos:Pos} (h:Q (.im (.int i)) σ):EV f ρ σ (.Constant (.int i) k pos) Q X:=fun s I =>
 wpAny_Constant_int (post_im (h:=s.heap) I F (fun _ _ e=>e) (.int i _) h)
theorem EV_str (F:f.Ok sc d) {x:Str}{k:Nat}{pos:Pos} (h:Q (.im (.str x)) σ) (ho:PyData.strOk x=true:=by decide +kernel):EV f ρ σ (.Constant (.str x) k pos) Q X:=fun s I =>
 wpAny_Constant_str (post_im (h:=s.heap) I F (fun _ _ e=>e) (.str x _ ho) h)
theorem EV_none (F:f.Ok sc d) {k:Nat}{pos:Pos} (h:Q (.im .none) σ):EV f ρ σ (.Constant .none k pos) Q X:=fun s I =>
 wpAny_Constant_none (post_im (h:=s.heap) (tk:=s.toks) I F (fun _ _ e=>e) .none h)
theorem EV_bool (F:f.Ok sc d) {b:Bool}{k:Nat}{pos:Pos} (h:Q (.im (.bool b)) σ):EV f ρ σ (.Constant (.bool b) k pos) Q X:=fun s I =>
 wpAny_Constant_bool (post_im (h:=s.heap) (tk:=s.toks) I F (fun _ _ e=>e) (.bool b) h)
theorem EL_nil (F:f.Ok sc d) {Q:List RV->Box->Prop} (h:Q [] σ):EL f ρ σ [] Q X:=fun s p I=>wpAny_items_nil ⟨[],σ,.refl ..,I.z,.nil,h⟩
theorem RVs.from {s₀ s₁:Shared}{h:Heap}{vs:List Value}{rs:List RV} (e:Ext f s₀ s₁) (x:RVs f.c f.Z s₁.heap h vs rs):RVs f.c f.Z s₀.heap h vs rs:=by
 induction x with
 | nil=>exact .nil
 | cons a off ap _ ih=>exact .cons (rv_from e off a) off ap ih
theorem EL_cons (F:f.Ok sc d) {e:Expr}{rest:List Expr}{Q:List RV->Box->Prop} (h:EV f ρ σ e (fun r σ₁=>EL f ρ σ₁ rest (fun rs σ₂=>Q (r :: rs) σ₂) X) X)
  (he:starEach (e :: rest) f.env=(false,eval e f.env) :: starEach rest f.env:=by rfl):EL f ρ σ (e :: rest) Q X:=fun s p I=>by
 refine wpAny_items_cons (h.use F I (fun _ _ x=>x) fun v s' r σ' e I' ok off q=>?_) he
 refine wpAny_mono (q s' p I') (fun vs s'' hq_=>?_) fun _ _ x=>x
 obtain ⟨rs,σ'',e',z,oks,q'⟩:=hq_
 have new:∀ (vs:List Value) (rs:List RV),RVs f.c f.Z s'.heap s''.heap vs rs->∀ q∈rs,q.new=true->∀ a∈q.sl.fp,s'.heap.get? a=none:=fun vs rs h=>by
  induction h with
  | nil=>exact fun q hq=>(List.not_mem_nil hq).elim
  | cons a _ _ _ ih=>exact fun q hq hn=>(List.mem_cons.mp hq).elim (fun e=>by subst e;exact a.2 hn) fun hq=>ih q hq hn
 exact ⟨r :: rs,σ'',e.trans e',z,.cons (ok.mono (I'.tk F e') fun a ha o q=>e'.keep a o (off a ha) q) off (fun q hq hn a ha ha'=>by
  obtain ⟨o,ho,_⟩:=ok.1.live a ha'
  exact nob (new vs rs oks q hq hn a ha) ho) (oks.from e),q'⟩
noncomputable def allIm:List RV->Option (List PV)
 | []=>some []
 | ⟨.val x,_⟩ :: rs=>(allIm rs).map (x :: ·)
 | _ :: _=>none
set_option tactic.hygienic true in
theorem RVs.ims {c:Cx}{Z:List Addr}{h₀ h:Heap}{vs:List Value}{rs:List RV}{xs:List PV} (x:RVs c Z h₀ h vs rs) (e:allIm rs=some xs):Ims h vs xs:=by
 induction x generalizing xs with
 | nil=>cases Option.some.inj e;exact .nil
 | cons a off _ _ ih =>
  rename_i r rs _ _
  obtain ⟨sl,nw⟩:=r
  cases sl with
  | val y =>
   simp only [allIm,Option.map_eq_some_iff] at e
   obtain ⟨ys,e1,rfl⟩:=e
   exact .cons a.1 (ih e1)
  | _=>simp [allIm] at e
theorem EV_Tuple (F:f.Ok sc d) {es:List Expr}{k:Nat}{pos:Pos} (h:EL f ρ σ es (fun rs σ'=>∃ xs,allIm rs=some xs∧xs.length≤1000000∧Q (.im (.tup xs)) σ') X):EV f ρ σ (.Tuple es k pos) Q X:=fun s I=>by
 refine wpAny_Tuple (wpAny_mono (h s pos I) (fun vs s' hq_=>?_) fun _ _ x=>x)
 obtain ⟨rs,σ',e,z,oks,xs,ha,hl,q⟩:=hq_
 have hi:=oks.ims ha
 refine ⟨by refine hi.length▸?_;exact Nat.le_trans hl (by decide),?_⟩
 have I':=I.ext F e z
 refine ⟨.im (.tup xs),σ',e.trans (Ext.of (s:=s') (tk:=s'.toks) fun b o q=>Heap.get?_push_of_some _ q),F.zsame σ' s'.heap _ (fun b o _ q=>Heap.get?_push_of_some _ q) z,⟨?_,fun e=>(by cases e)⟩,fun a ha=>(by cases ha),q⟩
 exact Im.tup (Heap.get?_push_size _ rfl) rfl rfl (hi.mono (TK.of fun b o q=>Heap.get?_push_of_some _ q))
theorem EV_List (F:f.Ok sc d) {es:List Expr}{pos:Pos} (h:EL f ρ σ es (fun rs σ'=>∃ xs,allIm rs=some xs∧xs.length≤1000000∧∀ a,Q ⟨.lst a xs,true⟩ σ') X):EV f ρ σ (.List es pos) Q X:=fun s I=>by
 refine wpAny_List (wpAny_mono (h s pos I) (fun vs s' hq_=>?_) fun _ _ x=>x)
 obtain ⟨rs,σ',e,z,oks,xs,ha,hl,q⟩:=hq_
 have hi:=oks.ims ha
 refine ⟨by refine hi.length▸?_;exact Nat.le_trans hl (by decide),?_⟩
 have I':=I.ext F e z
 have hz:s'.heap.objs.size∉f.Z:=fun hm=>let ⟨_,ho⟩:=F.zlive σ' s'.heap _ hm z;nob (get_size_none _) ho
 refine ⟨⟨.lst s'.heap.objs.size xs,true⟩,σ',e.trans (Ext.of (s:=s') (tk:=s'.toks) fun b o q=>Heap.get?_push_of_some _ q),F.zsame σ' s'.heap _ (fun b o _ q=>Heap.get?_push_of_some _ q) z,⟨⟨rfl,⟨vs.toArray,⟨_,Heap.get?_push_size _ rfl,rfl,0,rfl⟩,?_⟩,fun o e=>by cases sinj (Heap.get?_push_size _ rfl) e;exact ⟨rfl,rfl⟩⟩,fun _ a ha=>?_⟩,fun a ha=>?_,q _⟩
 ·simpa using hi.mono (TK.of fun b o q=>Heap.get?_push_of_some _ q)
 ·obtain rfl:=List.mem_singleton.mp ha;exact back_none (get_size_none _) fun o q=>e.keep _ o hz q
 ·obtain rfl:=List.mem_singleton.mp ha;exact hz
end
end
section
noncomputable def Sm (n:Int):Prop:=n.natAbs < 2 ^ 4200
theorem Sm.log2 {n:Int} (h:Sm n):n.natAbs.log2 < 4200:=by
 by_cases h0:n.natAbs=0
 ·rw [h0];decide
 ·exact (Nat.log2_lt h0).mpr h
theorem intBits_le {n:Int} (h:Sm n):Builtin.Int.intBits n≤4201:=by
 have:=h.log2
 unfold Builtin.Int.intBits
 split <;> lia
theorem mulOk_of {a b:Int} (ha:Sm a) (hb:Sm b):IntMulOk a b:=by
 unfold IntMulOk
 intro h
 simp only [Bool.and_eq_true] at h
 have h1:=h.2
 unfold Builtin.Int.intTooBig at h1
 have h2:=of_decide_eq_true h1
 have e:bitsLine=134217728:=bitsLine_eq
 have:=intBits_le ha
 have:=intBits_le hb
 rw [e] at h2
 lia
set_option tactic.hygienic true in
theorem mulOk_one {a b:Int} (ha:a.natAbs < 2 ^ 62):IntMulOk a b:=by
 refine IntMulOk.of_left ?_
 unfold Builtin.Int.intBits
 split
 ·lia
 ·rename_i h
  have:a.natAbs.log2 < 62:=(Nat.log2_lt (by simpa using h)).mpr ha
  lia
noncomputable def strLt (x y:Str):Bool:=decide (x.cps.toList < y.cps.toList)
section
variable {prog:Program}{w:World}{A:Around}{E:Value->Shared->Prop}{s:Shared}{Q:Value->Shared->Prop}
theorem made_int {n:Int}{s:Shared}{Q:Value->Shared->Prop} (h:Q (.int n s.toks) { s with toks:=s.toks+1 }):(Made.int n).post Q s:=h
theorem pow_raw {a b:Int}{t u:Tok} (h0:0≤b) (h1:b≤4096) (ha:Sm a) (h:Q (.int (a ^ b.toNat) s.toks) { s with toks:=s.toks+1 }):wpAny (model prog w) A (binaryOp .Pow (.int a t) (.int b u)) Q E s:=by
 by_cases hb:b=0
 ·subst hb
  exact AutoIntOps.pow_0 (by decide) (by decide) (made_int (by simpa using h))
 have hb':¬(b == 0)=true:=by simpa using hb
 by_cases c2:(a == 0 || a == 1)=true
 ·refine AutoIntOps.pow_1 h0 hb' c2 (made_int ?_)
  have e:a ^ b.toNat=a:=by
   have hn:b.toNat≠0:=by lia
   simp only [Bool.or_eq_true,beq_iff_eq] at c2
   rcases c2 with rfl | rfl
   ·exact Int.zero_pow hn
   ·exact Int.one_pow
  rwa [e] at h
 by_cases c3:(a == -1)=true
 ·refine AutoIntOps.pow_2 h0 hb' c2 c3 (made_int ?_)
  have e:a ^ b.toNat=if (b % 2 == 0)=true then 1 else -1:=by
   have ha:a=-1:=by simpa using c3
   subst ha
   by_cases hp:b % 2=0
   ·rw [if_pos (by simpa using hp)]
    have:b.toNat=2 * (b.toNat / 2):=by lia
    rw [this,Int.pow_mul]
    simp [Int.one_pow]
   ·rw [if_neg (by simpa using hp)]
    have:b.toNat=2 * (b.toNat / 2)+1:=by lia
    rw [this,Int.pow_succ,Int.pow_mul]
    simp [Int.one_pow]
  rwa [e] at h
 ·refine AutoIntOps.pow_4 h0 hb' c2 c3 ?_ (made_int h)
  unfold Builtin.Int.intTooBig
  rw [bitsLine_eq]
  have:=intBits_le ha
  have h2:((Builtin.Int.intBits a:Nat):Int) * b≤4201 * 4096:=by
   have h3:((Builtin.Int.intBits a:Nat):Int)≤4201:=by lia
   exact Int.mul_le_mul h3 h1 h0 (by decide)
  simp only [decide_eq_true_eq]
  lia
set_option tactic.hygienic true in
theorem addTup_raw {a b:Addr}{xs ys:List PV} (hx:Im s.heap (.ref a) (.tup xs)) (hy:Im s.heap (.ref b) (.tup ys)) (hsz:xs.length+ys.length≤1000000)
  (h:∀ v h',(Kp s.heap h')->Im h' v (.tup (xs ++ ys))->Q v { s with heap:=h' }):wpAny (model prog w) A (binaryOp .Add (.ref a) (.ref b)) Q E s:=by
 have hx':=hx
 have hy':=hy
 cases hx with
 | tup ho hc hd r =>
 cases hy with
 | tup ho2 hc2 hd2 r2 =>
 rename_i o vs n o2 ws n2
 obtain ⟨cls,dd,data,sl⟩:=o
 obtain ⟨cls2,dd2,data2,sl2⟩:=o2
 simp only at hc hd hc2 hd2
 subst hc hd hc2 hd2
 have l1:=r.length
 have l2:=r2.length
 by_cases hv:vs.toList=[]
 ·have hv':vs.isEmpty=true:=by simpa using hv
  rw [hv] at r;cases r
  exact concat_meets ⟨_,ho,rfl⟩ ⟨_,ho2,rfl⟩ noFill_tuple_add seq_tuple_add PySem.F.slot_tuple_add PySem.F.entry_tuple_add (PySem.F.args_tuple_add_2 _ _)
   (tuple_addW0 a b vs ws n n2 dd dd2 sl sl2 hv') ⟨ho,ho2,h _ _ (fun _ _ e=>e) (hy')⟩
 ·have hv':¬ vs.isEmpty=true:=by simpa using hv
  by_cases hw:ws.toList=[]
  ·have hw':ws.isEmpty=true:=by simpa using hw
   rw [hw] at r2;cases r2
   exact concat_meets ⟨_,ho,rfl⟩ ⟨_,ho2,rfl⟩ noFill_tuple_add seq_tuple_add PySem.F.slot_tuple_add PySem.F.entry_tuple_add (PySem.F.args_tuple_add_2 _ _)
    (tuple_addW1 a b vs ws n n2 dd dd2 sl sl2 hv' hw') ⟨ho,ho2,h _ _ (fun _ _ e=>e) (by simpa using hx')⟩
  ·have hw':¬ ws.isEmpty=true:=by simpa using hw
   have hl:vs.size+ws.size≤sizeLine:=by
    have:sizeLine=16777216:=by decide
    have e1:vs.toList.length=vs.size:=by simp
    have e2:ws.toList.length=ws.size:=by simp
    lia
   refine concat_meets ⟨_,ho,rfl⟩ ⟨_,ho2,rfl⟩ noFill_tuple_add seq_tuple_add PySem.F.slot_tuple_add PySem.F.entry_tuple_add (PySem.F.args_tuple_add_2 _ _)
    (tuple_addW2 a b vs ws n n2 dd dd2 sl sl2 hv' hw' hl) ⟨ho,ho2,h _ _ (fun _ _ e=>Heap.get?_push_of_some _ e) ?_⟩
   refine Im.tup (Heap.get?_push_size _ rfl) rfl rfl ?_
   have k:TK s.heap (s.heap.push { cls:=.type "tuple",data:=.seq (vs ++ ws) }):=TK.of fun _ _ e=>Heap.get?_push_of_some _ e
   simpa using (r.append r2).mono k
theorem addLst_raw {a b:Addr}{xs ys:List PV} (hx:ListAt s.heap a xs) (hy:ListAt s.heap b ys) (hsz:xs.length+ys.length≤1000000)
  (h:∀ c h',(Kp s.heap h')->s.heap.get? c=none->ListAt h' c (xs ++ ys)->Q (.ref c) { s with heap:=h' }):wpAny (model prog w) A (binaryOp .Add (.ref a) (.ref b)) Q E s:=by
 obtain ⟨⟨vs,⟨⟨cls,dd,data,sl⟩,ho,hc,n,hd⟩,r⟩,_⟩:=hx
 obtain ⟨⟨ws,⟨⟨cls2,dd2,data2,sl2⟩,ho2,hc2,n2,hd2⟩,r2⟩,_⟩:=hy
 simp only at hc hd hc2 hd2
 subst hc hd hc2 hd2
 have l1:=r.length
 have l2:=r2.length
 have hl:vs.size+ws.size≤sizeLine:=by
  have:sizeLine=16777216:=by decide
  have e1:vs.toList.length=vs.size:=by simp
  have e2:ws.toList.length=ws.size:=by simp
  lia
 refine concat_meets ⟨_,ho,rfl⟩ ⟨_,ho2,rfl⟩ noFill_list_add seq_list_add PySem.F.slot_list_add PySem.F.entry_list_add (PySem.F.args_list_add_2 _ _) (list_addW a b vs ws n n2 dd dd2 sl sl2 hl) ⟨ho,ho2,?_⟩
 refine h _ _ (fun _ _ e=>Heap.get?_push_of_some _ e) (get_size_none _) ⟨⟨vs ++ ws,⟨_,Heap.get?_push_size _ rfl,rfl,0,rfl⟩,?_⟩,fun o e=>by cases (Heap.get?_push_size _ rfl).symm.trans e;exact ⟨rfl,rfl⟩⟩
 have k:TK s.heap (s.heap.push { cls:=.type "list",data:=.seq (vs ++ ws) }):=TK.of fun _ _ e=>Heap.get?_push_of_some _ e
 simpa using (r.append r2).mono k
noncomputable def Giv (c:Cx) (s:Shared) (K:RV->Prop) (Q:Value->Shared->Prop):Prop :=
 ∀ r v h' tk,K r->(Kp s.heap h')->r.ok c s.heap h' v->(r.sl.fp=[]∨r.new=true)->Q v { s with heap:=h',toks:=tk }
theorem Giv.im {c:Cx}{K:RV->Prop}{x:PV} (h:Giv c s K Q) (k:K (.im x)) {v:Value}{h':Heap}{tk:Nat} (kp:Kp s.heap h') (hi:Im h' v x):Q v { s with heap:=h',toks:=tk } :=
 h (.im x) v h' tk k kp ⟨hi,fun e=>(by cases e)⟩ (.inl rfl)
theorem Giv.imS {c:Cx}{K:RV->Prop}{x:PV} (h:Giv c s K Q) (k:K (.im x)) {v:Value}{tk:Nat} (hi:Im s.heap v x):Q v { s with toks:=tk }:=h.im k (fun _ _ e=>e) hi
noncomputable def BinQ (op:Operator) (r1 r2:RV) (K:RV->Prop):Prop:=∀ (c:Cx) (prog:Program) (w:World) (A:Around) (E Q:Value->Shared->Prop) (s:Shared) (v1 v2:Value), r1.sl.ok c s.heap v1->r2.sl.ok c s.heap v2->Giv c s K Q->wpAny (model prog w) A (binaryOp op v1 v2) Q E s
section
variable {R:RV->Prop}{a b:Int}{xs ys:List PV}{n1 n2:Bool}
theorem BinQ.ints {op:Operator} (h:∀ {c:Cx}{prog:Program}{w:World}{A:Around}{E Q:Value->Shared->Prop}{s:Shared} (t u:Tok),Giv c s R Q->wpAny (model prog w) A (binaryOp op (.int a t) (.int b u)) Q E s):BinQ op ⟨.val (.int a),n1⟩ ⟨.val (.int b),n2⟩ R:=fun _ _ _ _ _ _ _ _ _ o1 o2 g=>by
 obtain ⟨t,rfl⟩:=Im.toInt o1
 obtain ⟨u,rfl⟩:=Im.toInt o2
 exact h t u g
theorem b_add (k:R (.im (.int (a+b)))):BinQ .Add ⟨.val (.int a),n1⟩ ⟨.val (.int b),n2⟩ R:=.ints fun _ _ h=>P.add_int (h.imS k (.int _ _))
theorem b_sub (k:R (.im (.int (a - b)))):BinQ .Sub ⟨.val (.int a),n1⟩ ⟨.val (.int b),n2⟩ R:=.ints fun _ _ h=>P.sub_int (h.imS k (.int _ _))
theorem b_mul (h1:IntMulOk a b) (k:R (.im (.int (a * b)))):BinQ .Mult ⟨.val (.int a),n1⟩ ⟨.val (.int b),n2⟩ R:=.ints fun _ _ h=>P.mul_int (h.imS k (.int _ _)) h1
theorem b_div (h1:b≠0) (h2:Sm b) (k:R (.im (.int (a.fdiv b)))):BinQ .FloorDiv ⟨.val (.int a),n1⟩ ⟨.val (.int b),n2⟩ R :=
 have h3:=PyProof.noPylong_of_log2 (by have:=h2.log2;lia)
 .ints fun _ _ h=>floordiv_int h1 (h.imS k (.int _ _)) (.inl h3)
theorem b_mod (h1:b≠0) (k:R (.im (.int (a.fmod b)))):BinQ .Mod ⟨.val (.int a),n1⟩ ⟨.val (.int b),n2⟩ R:=.ints fun _ _ h=>mod_int' h1 (h.imS k (.int _ _))
theorem b_pow (h1:0≤b) (h2:b≤4096) (h3:Sm a) (k:R (.im (.int (a ^ b.toNat)))):BinQ .Pow ⟨.val (.int a),n1⟩ ⟨.val (.int b),n2⟩ R:=.ints fun _ _ h=>pow_raw h1 h2 h3 (h.imS k (.int _ _))
theorem b_tup (h1:xs.length+ys.length≤1000000) (k:R (.im (.tup (xs ++ ys)))):BinQ .Add ⟨.val (.tup xs),n1⟩ ⟨.val (.tup ys),n2⟩ R:=fun _ _ _ _ _ _ s _ _ o1 o2 h=>by
 obtain ⟨_,_,_,_,_,_,_,_,rfl⟩:=Im.toTup o1
 obtain ⟨_,_,_,_,_,_,_,_,rfl⟩:=Im.toTup o2
 exact addTup_raw o1 o2 h1 fun v h' kp hi=>h.im (tk:=s.toks) k kp hi
theorem b_lst {u v:Addr} (h1:xs.length+ys.length≤1000000) (k:∀ c,R ⟨.lst c (xs ++ ys),true⟩):BinQ .Add ⟨.lst u xs,n1⟩ ⟨.lst v ys,n2⟩ R:=fun _ _ _ _ _ _ s _ _ o1 o2 h=>by
 obtain ⟨rfl,l1⟩:=o1
 obtain ⟨rfl,l2⟩:=o2
 exact addLst_raw l1 l2 h1 fun c' h' kp hn hl=>h ⟨.lst c' _,true⟩ _ h' s.toks (k c') kp ⟨⟨rfl,hl⟩,fun _ a ha=>by obtain rfl:=List.mem_singleton.mp ha;exact hn⟩ (.inr rfl)
end
noncomputable def CmpQ (c:Cx) (op:CmpOp) (r1 r2:RV) (K:Bool->Prop):Prop:=∀ (A:Around) (E Q:Value->Shared->Prop) (s:Shared) (v1 v2:Value), r1.sl.ok c s.heap v1->r2.sl.ok c s.heap v2->A.units+60 < cLine->(∀ b tk,K b->Q (.bool b) { s with toks:=tk })->wpAny (model c.prog c.w) A (compareOp op v1 v2) Q E s
theorem Im.inner {h:Heap}{v:Value}{ys:List PV} (x:Im h v (.tup ys)):∃ vs,Ims h vs ys:=by cases x with | tup _ _ _ r=>exact ⟨_,r⟩
theorem bne_dec {α:Type} [BEq α] [LawfulBEq α] [DecidableEq α] (a b:α):(a != b)=!decide (a=b):=by by_cases h:a=b <;> simp [h]
theorem beq_dec {α:Type} [BEq α] [LawfulBEq α] [DecidableEq α] (a b:α):(a == b)=decide (a=b):=by by_cases h:a=b <;> simp [h]
theorem any_mem {ys:List PV}{x:PV} (hx:x.nb=true) (hy:PV.nbs ys=true):((PV.toDs ys).any fun y=>PyData.eqv y x.toD)=true↔x∈ys:=by
 induction ys with
 | nil=>simp [PV.toDs]
 | cons y ys ih =>
  simp only [PV.nbs,Bool.and_eq_true] at hy
  simp only [PV.toDs,List.any_cons,Bool.or_eq_true,ih hy.2,PV.eqv_iff y x hy.1 hx,List.mem_cons]
  constructor
  ·rintro (h | h)
   ·exact .inl h.symm
   ·exact .inr h
  ·rintro (h | h)
   ·exact .inl h.symm
   ·exact .inr h
theorem listReads {h:Heap}{a:Addr}{xs:List PV} (x:ListAt h a xs) (nb:PV.nbs xs=true):Reads h (.ref a) (.list (PV.toDs xs)) [a]∧PyData.canLayAll0 (PV.toDs xs)=true∧PyData.depthAll (PV.toDs xs)=PV.depths xs:=by
 obtain ⟨⟨vs,⟨o,ho,hc,n,hd⟩,r⟩,_⟩:=x
 exact ⟨.list ho hc hd (r.reads nb),r.lay⟩
theorem min_room {u a b:Nat} (h:a≤52∨b≤52) (hu:u+53 < cLine):u+min a b < cLine:=by
 rcases h with h | h
 ·have:=Nat.min_le_left a b;lia
 ·have:=Nat.min_le_right a b;lia
theorem ents_keys {h:Heap}{xs:List (PKey×Addr×Value)}{es:List (PV×PV)} (e:Ents h xs es):xs.map (fun x=>x.1.1)=es.map (·.1):=by
 induction e with
 | nil=>rfl
 | cons _ _ ih=>simp [ih]
open Classical in
theorem atKey_some {h:Heap}{xs:List (PKey×Addr×Value)}{es:List (PV×PV)} (e:Ents h xs es) (k:PKey):(atKey xs k).isSome=true↔k.1∈es.map (·.1):=by
 rw [← ents_keys e]
 unfold atKey
 rw [Option.isSome_map,List.find?_isSome]
 constructor
 ·rintro ⟨x,hx,q⟩
  exact List.mem_map.mpr ⟨x,hx,congrArg Subtype.val (of_decide_eq_true q)⟩
 ·intro q
  obtain ⟨x,hx,q⟩:=List.mem_map.mp q
  exact ⟨x,hx,decide_eq_true (Subtype.ext q)⟩
section
variable {c:Cx}{K:Bool->Prop}{a b:Int}{x y:Str}{p q:PV}{xs ys:List PV}{n1 n2:Bool}
theorem CmpQ.ints {op:CmpOp} (h:∀ {A:Around}{E Q:Value->Shared->Prop}{s:Shared} (t u:Tok),(∀ b tk,K b->Q (.bool b) { s with toks:=tk })->wpAny (model c.prog c.w) A (compareOp op (.int a t) (.int b u)) Q E s):CmpQ c op ⟨.val (.int a),n1⟩ ⟨.val (.int b),n2⟩ K:=fun _ _ _ _ _ _ o1 o2 _ g=>by
 obtain ⟨t,rfl⟩:=Im.toInt o1
 obtain ⟨u,rfl⟩:=Im.toInt o2
 exact h t u g
theorem CmpQ.strs {op:CmpOp} (h:∀ {A:Around}{E Q:Value->Shared->Prop}{s:Shared} (t u:Tok),(∀ b tk,K b->Q (.bool b) { s with toks:=tk })->wpAny (model c.prog c.w) A (compareOp op (.str x t) (.str y u)) Q E s):CmpQ c op ⟨.val (.str x),n1⟩ ⟨.val (.str y),n2⟩ K:=fun _ _ _ _ _ _ o1 o2 _ g=>by
 obtain ⟨t,rfl⟩:=Im.toStr o1
 obtain ⟨u,rfl⟩:=Im.toStr o2
 exact h t u g
theorem q_lt (k:K (decide (a < b))):CmpQ c .Lt ⟨.val (.int a),n1⟩ ⟨.val (.int b),n2⟩ K:=.ints fun _ _ h=>P.lt_int (h _ _ k)
theorem q_le (k:K (decide (a≤b))):CmpQ c .LtE ⟨.val (.int a),n1⟩ ⟨.val (.int b),n2⟩ K:=.ints fun _ _ h=>P.le_int (h _ _ k)
theorem q_gt (k:K (decide (a > b))):CmpQ c .Gt ⟨.val (.int a),n1⟩ ⟨.val (.int b),n2⟩ K:=.ints fun _ _ h=>P.gt_int (h _ _ k)
theorem q_ge (k:K (decide (a ≥ b))):CmpQ c .GtE ⟨.val (.int a),n1⟩ ⟨.val (.int b),n2⟩ K:=.ints fun _ _ h=>P.ge_int (h _ _ k)
theorem q_eq (k:K (decide (a=b))):CmpQ c .Eq ⟨.val (.int a),n1⟩ ⟨.val (.int b),n2⟩ K:=.ints fun _ _ h=>P.eq_int (h _ _ k)
theorem q_ne (k:K (!decide (a=b))):CmpQ c .NotEq ⟨.val (.int a),n1⟩ ⟨.val (.int b),n2⟩ K:=.ints fun _ _ h=>P.ne_int (bne_dec a b▸h _ _ k)
theorem q_bne {u v:Bool} (k:K (!decide (u=v))):CmpQ c .NotEq ⟨.val (.bool u),n1⟩ ⟨.val (.bool v),n2⟩ K:=fun _ _ _ s _ _ o1 o2 _ h=>by
 obtain rfl:=Im.toBool o1
 obtain rfl:=Im.toBool o2
 exact PyProof.Rows.ne_bool (bne_dec u v▸h _ s.toks k)
theorem q_slt (k:K (strLt x y)):CmpQ c .Lt ⟨.val (.str x),n1⟩ ⟨.val (.str y),n2⟩ K:=.strs fun _ _ h=>PyProof.Rows.lt_str (h _ _ k)
theorem q_seq (k:K (decide (x=y))):CmpQ c .Eq ⟨.val (.str x),n1⟩ ⟨.val (.str y),n2⟩ K:=.strs fun _ _ h=>PyProof.Rows.eq_str (beq_dec x y▸h _ _ k)
theorem q_sne (k:K (!decide (x=y))):CmpQ c .NotEq ⟨.val (.str x),n1⟩ ⟨.val (.str y),n2⟩ K:=.strs fun _ _ h=>PyProof.Rows.ne_str (bne_dec x y▸h _ _ k)
theorem q_vv (h1:p.nb=true) (h2:q.nb=true) (h3:p.depth≤50∨q.depth≤50) (k:∀ b:Bool,(b=true↔p=q)->K b):CmpQ c .Eq ⟨.val p,n1⟩ ⟨.val q,n2⟩ K:=fun _ _ _ s _ _ o1 o2 hu h =>
 SeqAt.compareEq_reads (Im.reads o1 h1) (Im.reads o2 h2) (Im.lay o1).1 (Im.lay o2).1 (by rw [(Im.lay o1).2,(Im.lay o2).2];exact min_room (by lia) (by lia)) (h _ s.toks (k _ (PV.eqv_iff _ _ h1 h2)))
theorem q_vvn (h1:p.nb=true) (h2:q.nb=true) (h3:p.depth≤50∨q.depth≤50) (k:∀ b:Bool,(b=true↔p=q)->K (!b)):CmpQ c .NotEq ⟨.val p,n1⟩ ⟨.val q,n2⟩ K:=fun _ _ _ s _ _ o1 o2 hu h =>
 SeqAt.compareNe_reads (Im.reads o1 h1) (Im.reads o2 h2) (Im.lay o1).1 (Im.lay o2).1 (by rw [(Im.lay o1).2,(Im.lay o2).2];exact min_room (by lia) (by lia)) (h _ s.toks (k _ (PV.eqv_iff _ _ h1 h2)))
theorem q_is (k:K (match p with | .none=>true | _=>false)):CmpQ c .Is ⟨.val p,n1⟩ ⟨.val .none,n2⟩ K:=fun _ _ _ s _ _ o1 o2 _ h=>by
 obtain rfl:=Im.toNone o2
 refine is_none (h _ s.toks ?_)
 cases o1 <;> exact k
theorem q_isnot (k:K (!(match p with | .none=>true | _=>false))):CmpQ c .IsNot ⟨.val p,n1⟩ ⟨.val .none,n2⟩ K:=fun _ _ _ s _ _ o1 o2 _ h=>by
 obtain rfl:=Im.toNone o2
 refine isNot_none (h _ s.toks ?_)
 cases o1 <;> exact k
theorem q_inT (h1:p.nb=true) (h2:PV.nbs ys=true) (h3:p.depth≤50) (k:∀ b:Bool,(b=true↔p∈ys)->K b):CmpQ c .In ⟨.val p,n1⟩ ⟨.val (.tup ys),n2⟩ K:=fun _ _ _ s _ _ o1 o2 hu h=>by
 obtain ⟨vs,l⟩:=Im.inner o2
 have r:=Im.reads o2 (by rw [PV.nb];exact h2)
 rw [PV.toD] at r
 exact SeqAt.in_tuple_reads r (Im.reads o1 h1) l.lay.1 (Im.lay o1).1 (by rw [(Im.lay o1).2];exact min_room (by lia) (by lia)) (h _ s.toks (k _ (any_mem h1 h2)))
theorem q_ninT (h1:p.nb=true) (h2:PV.nbs ys=true) (h3:p.depth≤50) (k:∀ b:Bool,(b=true↔p∈ys)->K (!b)):CmpQ c .NotIn ⟨.val p,n1⟩ ⟨.val (.tup ys),n2⟩ K:=fun _ _ _ s _ _ o1 o2 hu h=>by
 obtain ⟨vs,l⟩:=Im.inner o2
 have r:=Im.reads o2 (by rw [PV.nb];exact h2)
 rw [PV.toD] at r
 exact SeqAt.notIn_tuple_reads r (Im.reads o1 h1) l.lay.1 (Im.lay o1).1 (by rw [(Im.lay o1).2];exact min_room (by lia) (by lia)) (h _ s.toks (k _ (any_mem h1 h2)))
theorem q_lists {u v:Addr} (op:CmpOp) (hop:op=.Eq∨op=.NotEq) (h1:PV.nbs xs=true) (h2:PV.nbs ys=true) (h3:PV.depths xs≤50∨PV.depths ys≤50) (k:∀ b:Bool,(b=true↔xs=ys)->K (if op=.Eq then b else !b)):CmpQ c op ⟨.lst u xs,n1⟩ ⟨.lst v ys,n2⟩ K:=fun _ _ _ s _ _ o1 o2 hu h=>by
 obtain ⟨rfl,l⟩:=o1
 obtain ⟨rfl,m⟩:=o2
 obtain ⟨r,l1,l2⟩:=listReads l h1
 obtain ⟨r',m1,m2⟩:=listReads m h2
 have e:(PyData.eqv (.list (PV.toDs xs)) (.list (PV.toDs ys)))=true↔xs=ys:=by rw [PyData.eqv];exact PV.eqvs_iff _ _ h1 h2
 rcases hop with rfl | rfl
 ·exact SeqAt.compareEq_reads r r' (by rw [PyData.canLay0];exact l1) (by rw [PyData.canLay0];exact m1) (by simp only [PyData.depth,l2,m2];exact min_room (by lia) (by lia)) (h _ s.toks (k _ e))
 ·exact SeqAt.compareNe_reads r r' (by rw [PyData.canLay0];exact l1) (by rw [PyData.canLay0];exact m1) (by simp only [PyData.depth,l2,m2];exact min_room (by lia) (by lia)) (h _ s.toks (k _ e))
theorem q_lne {u v:Addr} (h1:PV.nbs xs=true) (h2:PV.nbs ys=true) (h3:PV.depths xs≤50∨PV.depths ys≤50) (k:∀ b:Bool,(b=true↔xs=ys)->K (!b)):CmpQ c .NotEq ⟨.lst u xs,n1⟩ ⟨.lst v ys,n2⟩ K:=q_lists .NotEq (.inr rfl) h1 h2 h3 k
theorem q_ninL {u:Addr} (h1:p.nb=true) (h2:PV.nbs ys=true) (h3:p.depth≤50) (k:∀ b:Bool,(b=true↔p∈ys)->K (!b)):CmpQ c .NotIn ⟨.val p,n1⟩ ⟨.lst u ys,n2⟩ K:=fun _ _ _ s _ _ o1 o2 hu h=>by
 obtain ⟨rfl,l⟩:=o2
 obtain ⟨r,l1,l2⟩:=listReads l h2
 exact SeqAt.notIn_list_reads r (Im.reads o1 h1) l1 (Im.lay o1).1 (by rw [(Im.lay o1).2];exact min_room (by lia) (by lia)) (h _ s.toks (k _ (any_mem h1 h2)))
open Classical in
theorem q_inD {u:Addr}{es:List (PV×PV)} (h1:PV.key 8 (.tup xs)=true) (k:∀ b:Bool,(b=true↔.tup xs∈es.map (·.1))->K b):CmpQ c .In ⟨.val (.tup xs),n1⟩ ⟨.dct u es,n2⟩ K:=fun A _ _ _ _ _ o1 o2 hu h=>by
 obtain ⟨rfl,lo,zs,hm,hE⟩:=o2
 have b1:Im _ _ _:=o1
 cases o1
 exact wpAny_in_heap (k:=⟨_,h1⟩) (by show A.units+1+20 < cLine;lia) b1 lo hm (h _ _ (k _ (atKey_some hE ⟨_,h1⟩)))
end
end
end
section
section
variable {f:Fx}{sc:Scope}{d:Nat}{ρ:Ab}{σ:Box}{s:Shared}{Q:RV->Box->Prop}{X:Prop}{N:Ab->Box->Prop}{R:RV->Box->Prop}
theorem Fx.Ok.u60 (F:f.Ok sc d):f.A.units+60 < cLine:=by have:=F.units;lia
theorem post_giv (F:f.Ok sc d) {s₀:Shared}{σ₁:Box} (e:Ext f s₀ s) (z:f.zok σ₁ s.heap) {K:RV->Prop} (k:∀ r,K r->Q r σ₁):Giv f.c s K (Post f s₀ Q):=fun r v h' tk kr kp ok hfp=>by
 have zz:∀ a∈r.sl.fp,r.new=true->a∉f.Z:=fun a ha hn hz=>by
  obtain ⟨o,ho⟩:=F.zlive σ₁ s.heap a hz z
  exact nob (ok.2 hn a ha) ho
 have off:∀ a∈r.sl.fp,a∉f.Z:=fun a ha=>by
  rcases hfp with q | q
  ·replace ha:=q▸ha;cases ha
  ·exact zz a ha q
 exact ⟨r,σ₁,e.trans (Ext.of kp),F.zsame σ₁ s.heap h' (fun b o _ e=>kp b o e) z,rv_from e off ok,off,k r kr⟩
theorem two (F:f.Ok sc d) {l r:Expr}{Q₂:RV->RV->Box->Prop}{T:Value->Value->Shared->Prop}
  (h:EV f ρ σ l (fun r1 σ1=>EV f ρ σ1 r (fun r2 σ2=>Q₂ r1 r2 σ2) X) X) (I:Inv f ρ σ s)
  (k:∀ v1 v2 s' r1 r2 σ',Ext f s s'->Inv f ρ σ' s'->r1.ok f.c s.heap s'.heap v1->r2.ok f.c s.heap s'.heap v2->Q₂ r1 r2 σ'->T v1 v2 s') :
  wpAny (model f.c.prog f.c.w) f.A (eval l f.env) (fun v1 s1=>wpAny (model f.c.prog f.c.w) f.A (eval r f.env) (fun v2 s2=>T v1 v2 s2) (ExP f X) s1) (ExP f X) s :=
 h.use F I (fun _ _ x=>x) fun v1 s1 r1 σ1 e1 I1 ok1 off1 q1=>EV.use F q1 I1 (fun _ _ x=>x) fun v2 s2 r2 σ2 e2 I2 ok2 off2 q2 =>
  k v1 v2 s2 r1 r2 σ2 (e1.trans e2) I2 (ok1.mono (I1.tk F e2) fun a ha o q=>e2.keep a o (off1 a ha) q) (rv_from e1 off2 ok2) q2
theorem EV_Bin (F:f.Ok sc d) {l r:Expr}{op:Operator}{pos:Pos} (h:EV f ρ σ l (fun r1 σ1=>EV f ρ σ1 r (fun r2 σ2=>BinQ op r1 r2 fun x=>Q x σ2) X) X):EV f ρ σ (.BinOp l op r pos) Q X:=fun s I =>
 wpAny_BinOp (two F h I fun v1 v2 s' r1 r2 σ' e I' o1 o2 q=>q _ _ _ _ _ _ _ _ _ o1.1 o2.1 (post_giv F e I'.z fun _ k=>k))
theorem EV_Cmp (F:f.Ok sc d) {l r:Expr}{op:CmpOp}{pos:Pos} (h:EV f ρ σ l (fun r1 σ1=>EV f ρ σ1 r (fun r2 σ2=>CmpQ f.c op r1 r2 fun b=>Q (.im (.bool b)) σ2) X) X)
  (hm:behindInMarks op r=false:=by with_unfolding_all rfl):EV f ρ σ (.Compare l [op] [r] pos) Q X:=fun s I =>
 wpAny_Compare1 (two F h I fun v1 v2 s' r1 r2 σ' e I' o1 o2 q=>q _ _ _ _ _ _ o1.1 o2.1 F.u60 fun b tk k =>
  ⟨.im (.bool b),σ',e.trans (Ext.of fun _ _ e=>e),I'.z,⟨.bool b,fun e=>(by cases e)⟩,fun a ha=>(by cases ha),k⟩) hm
theorem ET_Cmp (F:f.Ok sc d) {l r:Expr}{op:CmpOp}{pos:Pos}{Q:Bool->Box->Prop} (h:EV f ρ σ l (fun r1 σ1=>EV f ρ σ1 r (fun r2 σ2=>CmpQ f.c op r1 r2 fun b=>Q b σ2) X) X)
  (hm:behindInMarks op r=false:=by with_unfolding_all rfl):ET f ρ σ (.Compare l [op] [r] pos) Q X:=fun s I =>
 wpAny_isTrue_Compare1 (two F h I fun v1 v2 s' r1 r2 σ' e I' o1 o2 q=>q _ _ _ _ _ _ o1.1 o2.1 F.u60 fun b tk k=>wpAny_truthy_bool ⟨σ',e.trans (Ext.of fun _ _ e=>e),I'.z,k⟩) hm
theorem ET_val (F:f.Ok sc d) {e:Expr}{Q:Bool->Box->Prop} (h:EV f ρ σ e (fun r σ'=>∃ b,r.sl=.val (.bool b)∧Q b σ') X)
  (he:isTrue e f.env (eval e f.env)=(do let v ← eval e f.env;standAt e.pos;holding [v] (truthy v)):=by rfl):ET f ρ σ e Q X:=fun s I =>
 wpAny_isTrue_value (h.use F I (fun _ _ x=>x) fun v s' r σ' ex I' ok off ⟨b,hb,q⟩=>by
  have a:=ok.1
  replace a:=hb▸a
  cases a
  exact wpAny_truthy_bool ⟨σ',ex,I'.z,q⟩) he
theorem ET.use {e:Expr}{Q:Bool->Box->Prop}{Qc:Bool->Shared->Prop}{E:Value->Shared->Prop} (F:f.Ok sc d) (h:ET f ρ σ e Q X) (I:Inv f ρ σ s) (hE:∀ x s',X∧Exc f x s'->E x s')
  (k:∀ b s' σ',Ext f s s'->Inv f ρ σ' s'->Q b σ'->Qc b s'):wpAny (model f.c.prog f.c.w) f.A (isTrue e f.env (eval e f.env)) Qc E s :=
 wpAny_mono (h s I) (fun b s' hq_=>by obtain ⟨σ',e,z,q⟩:=hq_;exact k b s' σ' e (I.ext F e z) q) hE
theorem ET_Not (F:f.Ok sc d) {x:Expr}{pos:Pos}{Q:Bool->Box->Prop} (h:ET f ρ σ x (fun b σ'=>Q (!b) σ') X):ET f ρ σ (.UnaryOp .Not x pos) Q X:=fun s I =>
 wpAny_isTrue_Not (wpAny_mono (h s I) (fun b s' hq_=>by obtain ⟨σ',e,z,q⟩:=hq_;exact ⟨σ',e,z,q⟩) fun _ _ x=>x)
noncomputable def EA (f:Fx) (ρ:Ab) (σ:Box) (op:BoolOp) (es:List Expr) (Q:Bool->Box->Prop) (X:Prop):Prop :=
 ∀ s,Inv f ρ σ s->wpAny (model f.c.prog f.c.w) f.A (allTrue op es f.env) (PostB f s Q) (ExP f X) s
theorem PostB.trans {f:Fx}{s s':Shared}{Q:Bool->Box->Prop} (e:Ext f s s') {b:Bool}{s'':Shared} (x:PostB f s' Q b s''):PostB f s Q b s'':=let ⟨σ,e',z,q⟩:=x;⟨σ,e.trans e',z,q⟩
theorem EA_and_nil {Q:Bool->Box->Prop} (h:Q true σ):EA f ρ σ .And [] Q X:=fun s I=>wpAny_allTrue_And_nil ⟨σ,.refl ..,I.z,h⟩
theorem EA_or_nil {Q:Bool->Box->Prop} (h:Q false σ):EA f ρ σ .Or [] Q X:=fun s I=>wpAny_allTrue_Or_nil ⟨σ,.refl ..,I.z,h⟩
theorem EA_and (F:f.Ok sc d) {x:Expr}{r:List Expr}{Q:Bool->Box->Prop} (h:ET f ρ σ x (fun b σ'=>(b=true->EA f ρ σ' .And r Q X)∧(b=false->Q false σ')) X):EA f ρ σ .And (x :: r) Q X:=fun s I =>
 wpAny_allTrue_And_cons (h.use F I (fun _ _ x=>x) fun b s' σ' e I' q=>by
  cases b with
  | true=>exact wpAny_mono (q.1 rfl s' I') (fun b s'' p=>p.trans e) fun _ _ x=>x
  | false=>exact ⟨σ',e,I'.z,q.2 rfl⟩)
theorem EA_or (F:f.Ok sc d) {x:Expr}{r:List Expr}{Q:Bool->Box->Prop} (h:ET f ρ σ x (fun b σ'=>(b=true->Q true σ')∧(b=false->EA f ρ σ' .Or r Q X)) X):EA f ρ σ .Or (x :: r) Q X:=fun s I =>
 wpAny_allTrue_Or_cons (h.use F I (fun _ _ x=>x) fun b s' σ' e I' q=>by
  cases b with
  | true=>exact ⟨σ',e,I'.z,q.1 rfl⟩
  | false=>exact wpAny_mono (q.2 rfl s' I') (fun b s'' p=>p.trans e) fun _ _ x=>x)
theorem ET_BoolOp {op:BoolOp}{es:List Expr}{pos:Pos}{Q:Bool->Box->Prop} (h:EA f ρ σ op es Q X):ET f ρ σ (.BoolOp op es pos) Q X:=fun s I=>wpAny_isTrue_BoolOp (h s I)
noncomputable def EB (f:Fx) (ρ:Ab) (σ:Box) (p:Pos) (op:BoolOp) (es:List Expr) (Q:RV->Box->Prop) (X:Prop):Prop :=
 ∀ s,Inv f ρ σ s->wpAny (model f.c.prog f.c.w) f.A (boolOp p op (es.map fun e=>eval e f.env)) (Post f s Q) (ExP f X) s
theorem Post.trans {s':Shared} (e:Ext f s s') {v:Value}{s'':Shared} (x:Post f s' Q v s''):Post f s Q v s'':=let ⟨r,σ,e',z,ok,off,q⟩:=x;⟨r,σ,e.trans e',z,rv_from e off ok,off,q⟩
theorem EB_last {p:Pos}{op:BoolOp}{e:Expr} (h:EV f ρ σ e Q X):EB f ρ σ p op [e] Q X:=h
theorem EB_and (F:f.Ok sc d) {p:Pos}{e e':Expr}{r:List Expr} (h:EV f ρ σ e (fun r1 σ'=>∃ b,r1.sl=.val (.bool b)∧(b=true->EB f ρ σ' p .And (e' :: r) Q X)∧(b=false->Q (.im (.bool false)) σ')) X):EB f ρ σ p .And (e :: e' :: r) Q X:=fun s I=>by
 show wpAny _ _ (do
  let v ← eval e f.env
  standAt p
  let t ← holding [v] (truthy v)
  match BoolOp.And,t with
  | .And,false | .Or,true=>pure v
  | _,_=>boolOp p .And ((e' :: r).map fun e=>eval e f.env)) _ _ s
 refine wpAny_bind (h.use F I (fun _ _ x=>x) fun v s' r1 σ' ex I' ok off ⟨b,hb,q⟩=>wpAny_bind (wpAny_standAt (wpAny_bind (wpAny_holding ?_))))
 have a:=ok.1
 replace a:=hb▸a
 cases a
 refine wpAny_truthy_bool ?_
 cases b with
 | true=>exact wpAny_mono (q.1 rfl s' I') (fun _ _ p=>p.trans ex) fun _ _ x=>x
 | false=>exact wpAny_pure ⟨.im (.bool false),σ',ex,I'.z,⟨.bool false,fun e=>(by cases e)⟩,fun a ha=>(by cases ha),q.2 rfl⟩
theorem EB_or (F:f.Ok sc d) {p:Pos}{e e':Expr}{r:List Expr} (h:EV f ρ σ e (fun r1 σ'=>∃ b,r1.sl=.val (.bool b)∧(b=true->Q (.im (.bool true)) σ')∧(b=false->EB f ρ σ' p .Or (e' :: r) Q X)) X):EB f ρ σ p .Or (e :: e' :: r) Q X:=fun s I=>by
 show wpAny _ _ (do
  let v ← eval e f.env
  standAt p
  let t ← holding [v] (truthy v)
  match BoolOp.Or,t with
  | .And,false | .Or,true=>pure v
  | _,_=>boolOp p .Or ((e' :: r).map fun e=>eval e f.env)) _ _ s
 refine wpAny_bind (h.use F I (fun _ _ x=>x) fun v s' r1 σ' ex I' ok off ⟨b,hb,q⟩=>wpAny_bind (wpAny_standAt (wpAny_bind (wpAny_holding ?_))))
 have a:=ok.1
 replace a:=hb▸a
 cases a
 refine wpAny_truthy_bool ?_
 cases b with
 | true=>exact wpAny_pure ⟨.im (.bool true),σ',ex,I'.z,⟨.bool true,fun e=>(by cases e)⟩,fun a ha=>(by cases ha),q.1 rfl⟩
 | false=>exact wpAny_mono (q.2 rfl s' I') (fun _ _ p=>p.trans ex) fun _ _ x=>x
theorem EV_BoolOp {op:BoolOp}{es:List Expr}{pos:Pos} (h:EB f ρ σ pos op es Q X) (he:eval (.BoolOp op es pos) f.env=boolOp pos op (es.map fun e=>eval e f.env):=by rfl):EV f ρ σ (.BoolOp op es pos) Q X:=fun s I=>by
 refine wp_eq he ?_;exact h s I
theorem EV_IfExp (F:f.Ok sc d) {t a b:Expr}{pos:Pos} (h:ET f ρ σ t (fun c σ'=>(c=true->EV f ρ σ' a Q X)∧(c=false->EV f ρ σ' b Q X)) X):EV f ρ σ (.IfExp t a b pos) Q X:=fun s I =>
 wpAny_IfExp (h.use F I (fun _ _ x=>x) fun c s' σ' e I' q=>by
  cases c with
  | true=>exact wpAny_mono (q.1 rfl s' I') (fun _ _ p=>p.trans e) fun _ _ x=>x
  | false=>exact wpAny_mono (q.2 rfl s' I') (fun _ _ p=>p.trans e) fun _ _ x=>x)
theorem EV_Neg (F:f.Ok sc d) {x:Expr}{pos:Pos} (h:EV f ρ σ x (fun r σ'=>∃ a,r.sl=.val (.int a)∧Q (.im (.int (-a))) σ') X):EV f ρ σ (.UnaryOp .USub x pos) Q X:=fun s I =>
 wpAny_UnaryOp (h.use F I (fun _ _ x=>x) fun v s' r σ' e I' ok off ⟨a,ha,q⟩=>by
  have b:=ok.1
  replace b:=ha▸b
  obtain ⟨_,rfl⟩:=Im.toInt b
  exact P.neg_int ⟨.im (.int (-a)),σ',e.trans (Ext.of fun _ _ e=>e),I'.z,⟨.int _ _,fun e=>(by cases e)⟩,fun a ha=>(by cases ha),q⟩)
theorem EV_Not (F:f.Ok sc d) {x:Expr}{pos:Pos} (h:EV f ρ σ x (fun r σ'=>∃ b,r.sl=.val (.bool b)∧Q (.im (.bool (!b))) σ') X):EV f ρ σ (.UnaryOp .Not x pos) Q X:=fun s I =>
 wpAny_UnaryOp (h.use F I (fun _ _ x=>x) fun v s' r σ' e I' ok off ⟨a,ha,q⟩=>by
  have b:=ok.1
  replace b:=ha▸b
  cases b
  exact not_value (wpAny_truthy_bool ⟨.im (.bool (!a)),σ',e,I'.z,⟨.bool _,fun e=>(by cases e)⟩,fun a ha=>(by cases ha),q⟩))
noncomputable def idx? (k:Int) (n:Nat):Option Nat:=seqIndex? k n
theorem seqIndex_nat {k:Int}{n:Nat} (h0:0≤k) (h:k.toNat < n):seqIndex? k n=some k.toNat:=by
 unfold seqIndex?
 have h1:¬ k < 0:=by lia
 have h2:k < n:=by lia
 simp [h1,h0,h2]
noncomputable def SubQ (r1 r2:RV) (K:RV->Prop):Prop:=∀ (c:Cx) (A:Around) (E Q:Value->Shared->Prop) (s:Shared) (value slice:Expr) (v1 v2:Value),r1.sl.ok c s.heap v1->r2.sl.ok c s.heap v2 ->
 (∀ v1 v2,subscripted slice false v1 v2=operate [v1,v2] (getItem v1 v2))->Giv c s K Q->wpAny (model c.prog c.w) A (subscriptTail value slice v1 v2) Q E s
section
variable {R:RV->Prop}{xs:List PV}{n1 n2:Bool}
theorem s_tup {k:Int}{x:PV} (hx:xs[k.toNat]?=some x) (r:R (.im x)) (h1:0≤k:=by decide) (h2:k < 2 ^ 63:=by decide):SubQ ⟨.val (.tup xs),n1⟩ ⟨.val (.int k),n2⟩ R:=fun _ _ _ _ _ _ _ _ _ o1 o2 hs h=>by
 obtain ⟨_,rfl⟩:=Im.toInt o2
 cases o1 with
 | @tup _ o vs n _ ho hc hd i =>
 obtain ⟨v,hv,hi⟩:=i.get _ x hx
 exact item_tupleT (l:=vs.toList) ⟨o,ho,hc,n,hd⟩ (by lia) h2 (by refine i.length▸?_;exact seqIndex_nat h1 (List.getElem?_eq_some_iff.mp hx).1) hv (h.imS r hi) (hs _ _)
theorem s_lst {k:Int}{x:PV}{u:Addr} (hx:xs[k.toNat]?=some x) (r:R (.im x)) (h1:0≤k:=by decide) (h2:k < 2 ^ 63:=by decide):SubQ ⟨.lst u xs,n1⟩ ⟨.val (.int k),n2⟩ R:=fun _ _ _ _ _ _ _ _ _ o1 o2 hs h=>by
 obtain ⟨_,rfl⟩:=Im.toInt o2
 obtain ⟨rfl,⟨vs,hl,i⟩,_⟩:=o1
 obtain ⟨v,hv,hi⟩:=i.get _ x hx
 exact tail_any hl.typeIs slot_list_getitem.lookup (wpAny_getItem_list hl h1 h2 (by simpa using hv) (h.imS r hi)) (hs _ _)
theorem s_tab {k:Str}{x:PV}{u:Addr}{es:List (Str×PV)} (hx:es.lookup k=some x) (r:R (.im x)):SubQ ⟨.tab u es,n1⟩ ⟨.val (.str k),n2⟩ R:=fun c _ _ _ _ _ _ _ _ o1 o2 hs h=>by
 obtain ⟨_,rfl⟩:=Im.toStr o2
 obtain ⟨rfl,ht⟩:=o1
 obtain ⟨g,hm,v,hv,hi⟩:=ht.get hx
 exact tail_any hm.typeIs slot_dict_getitem.lookup (wpAny_getItem_of (strKind_is c.prog c.w _ _) hm hv (h.imS r hi)) (hs _ _)
end
theorem EV_Sub (F:f.Ok sc d) {l r:Expr}{pos:Pos} (h:EV f ρ σ l (fun r1 σ1=>EV f ρ σ1 r (fun r2 σ2=>SubQ r1 r2 fun x=>Q x σ2) X) X)
  (hs:∀ v1 v2,subscripted r false v1 v2=operate [v1,v2] (getItem v1 v2):=by intro _ _;with_unfolding_all rfl):EV f ρ σ (.Subscript l r pos) Q X:=fun s I =>
 Subscript_ (two F h I fun v1 v2 s' r1 r2 σ' e I' o1 o2 q=>q _ _ _ _ _ _ _ _ _ o1.1 o2.1 hs (post_giv F e I'.z fun _ k=>k))
theorem XL_nil (h:N ρ σ):XL f ρ σ [] N R X:=fun s I=>wpAny_execs_nil ⟨ρ,σ,I,h⟩
theorem XL_cons {st:Stmt}{r:List Stmt} (h:XS f ρ σ st (fun ρ' σ'=>XL f ρ' σ' r N R X) R X):XL f ρ σ (st :: r) N R X:=fun s I =>
 wpAny_execs_cons (wpAny_mono (h s I) (fun fl s' x=>by
  cases fl with
  | next=>obtain ⟨ρ',σ',I',q⟩:=x;exact q s' I'
  | ret v=>exact x
  | brk=>exact x
  | cont=>exact x) fun _ _ x=>x)
theorem XS_Return (F:f.Ok sc d) {e:Expr}{pos:Pos} (h:EV f ρ σ e (fun r σ'=>(r.new=true∨r.sl.fp=[]∨∀ a∈r.sl.fp,f.H.heap.get? a=none)∧R { r with new:=true } σ') X):XS f ρ σ (.Return (some e) pos) N R X:=fun s I =>
 wpAny_Return_some (h.use F I (fun _ _ x=>x) fun v s' r σ' ex I' ok off ⟨hn,q⟩=>⟨{ r with new:=true },σ',ρ,I',⟨ok.1,fun _ a ha=>by
  rcases hn with hn | hn | hn
  ·exact back_none (ok.2 hn a ha) fun o p=>I.keep a o (off a ha) p
  ·replace ha:=hn▸ha;cases ha
  ·exact hn a ha⟩,rfl,q⟩)
theorem XS_Pass {pos:Pos} (h:N ρ σ):XS f ρ σ (.Pass pos) N R X:=fun s I=>wpAny_Pass ⟨ρ,σ,I,h⟩
theorem XS_If (F:f.Ok sc d) {t:Expr}{a b:List Stmt}{pos:Pos} (h:ET f ρ σ t (fun c σ'=>(c=true->XL f ρ σ' a N R X)∧(c=false->XL f ρ σ' b N R X)) X):XS f ρ σ (.If t a b pos) N R X:=fun s I =>
 wpAny_If (h.use F I (fun _ _ x=>x) fun c s' σ' e I' q=>by
  cases c with
  | true=>exact q.1 rfl s' I'
  | false=>exact q.2 rfl s' I')
noncomputable def Stores (f:Fx) (sc:Scope) (x:Str):Prop:=sc.names.lookup x=some .local∨(f.own=true∧sc.names.lookup x=some .cell∧∃ a,f.env.cells.lookup x=some a)
theorem rv_fits (F:f.Ok sc d) {s₀:Shared} (e:Ext f s₀ s) (I₀:Inv f ρ σ s₀) {σ':Box} (I:Inv f ρ σ' s) {x:Str}{r:RV}{v:Value} (ok:r.ok f.c s₀.heap s.heap v) (off:∀ a∈r.sl.fp,a∉f.Z) (hn:r.new=true∨r.sl.fp=[]):SlotFits f ρ x r:=by
 rcases hn with hn | hn
 ·exact SlotFits.fresh F I₀ (x:=x) (r:=r) off (ok.2 hn)
 ·exact .nofp hn
theorem XS_Assign (F:f.Ok sc d) {x:Str}{p pos:Pos}{e:Expr} (hx:Stores f sc x) (h:EV f ρ σ e (fun r σ'=>(r.new=true∨r.sl.fp=[])∧N (set ρ x r) σ') X)
  (hs:swapsWith e (some (.Name x p)) pos.line f.env=pure false:=by rfl):XS f ρ σ (.Assign [.Name x p] e pos) N R X:=fun s I =>
 wpAny_Assign_Name (h.use F I (fun _ _ x=>x) fun v s' r σ' ex I' ok off hq_=>by obtain ⟨hn,q⟩:=hq_;exact I'.store F hx ok.1 (rv_fits F ex I I' ok off hn) fun s'' I''=>⟨_,σ',I'',q⟩) hs
theorem XS_Aug (F:f.Ok sc d) {x:Str}{p pos:Pos}{e:Expr}{a:Int} (hx:Stores f sc x) {nw:Bool} (hρ:ρ x=some ⟨.val (.int a),nw⟩) (h:EV f ρ σ e (fun r σ'=>∃ b,r.sl=.val (.int b)∧N (set ρ x (.im (.int (a+b)))) σ') X)
  (hd:(x == ("__debug__":Str))=false:=by decide) (hc:(x == ("__classdict__":Str))=false:=by decide):XS f ρ σ (.AugAssign (.Name x p) .Add e pos) N R X:=fun s I=>by
 have hn:EV f ρ σ (.Name x p) (fun r σ'=>r=⟨.val (.int a),false⟩∧σ'=σ) X:=EV_Name F hρ ⟨rfl,rfl⟩ hd hc
 refine wpAny_AugAssign_Name (wpAny_mono (Q:=Post f s fun r σ'=>r=⟨.val (.int a),false⟩∧σ'=σ) (E:=ExP f X) ?_ (fun v s' ⟨r,σ',ex,z,ok,off,e1,e2⟩=>?_) fun _ _ x=>x)
 ·obtain ⟨m,hm,hv⟩:=I.vars
  obtain ⟨v,h1,h2⟩:=hv x _ hρ
  have hkind:f.env.scope.kind=.function:=by refine F.scope▸?_;exact F.kind
  have fin:Post f s (fun r σ'=>r=⟨.val (.int a),false⟩∧σ'=σ) v s:=⟨⟨.val (.int a),false⟩,σ,.refl ..,I.z,⟨h2,fun e=>nomatch e⟩,fun a ha=>(I.off x _ a hρ ha).2.1,rfl,rfl⟩
  rcases h1 with ⟨hk,hm'⟩ | ⟨hk | hk,b,hl,hcl⟩
  ·exact wpAny_loadName_local hkind hk hm hm' fin
  ·exact wpAny_loadName_cell hkind hk hl hcl fin
  ·exact wpAny_loadName_free hkind hk hl hcl fin hc
 ·subst e1 e2
  have I':=I.ext F ex z
  have o1:=ok.1
  obtain ⟨_,rfl⟩:=Im.toInt o1
  refine h.use F I' (fun _ _ x=>x) fun v2 s2 r2 σ2 ex2 I2 ok2 off2 hq_=>?_
  obtain ⟨b,hb,q⟩:=hq_
  have o2:=ok2.1
  replace o2:=hb▸o2
  obtain ⟨_,rfl⟩:=Im.toInt o2
  refine P.iadd_int ?_
  have I3:=I2.ext F (s':={ s2 with toks:=s2.toks+1 }) (σ':=σ2) (Ext.of fun _ _ e=>e) I2.z
  exact I3.store F hx (sl:=.im (.int (a+b))) (.int _ _) .val fun s'' I''=>⟨_,σ2,I'',q⟩
end
end
section
inductive FnDef (c:Cx) (name:Str) (params:Arguments) (body:List Stmt) (scope:Scope):Prop
 | mk (a:Addr) (o:Obj) (pm code doc:Value):c.mg name=some (.ref a)->c.base.get? a=some o->o.data=.func (docDef name params body scope pm code doc)->c.base.CodeRec code name->FnDef c name params body scope
inductive Args (c:Cx) (h:Heap):List Value->List Slot->Prop
 | nil:Args c h [] []
 | cons {v:Value}{vs:List Value}{sl:Slot}{sls:List Slot}:sl.ok c h v->Args c h vs sls->Args c h (v :: vs) (sl :: sls)
theorem RVs.args {c:Cx}{Z:List Addr}{h₀ h:Heap}{vs:List Value}{rs:List RV} (x:RVs c Z h₀ h vs rs):Args c h vs (rs.map (·.sl)):=by
 induction x with
 | nil=>exact .nil
 | cons a _ _ _ ih=>exact .cons a.1 ih
structure CallEnv (c:Cx) (A:Around) (frs:List Env) (d:Nat) (s:Shared):Prop where
 cx:c.Ok
 handled:A.handled=none
 frames:A.frames=some frs
 room:A.depth+d < recursionLimit
 units:A.units+8 * d+60 < cLine
 base:Kp c.base s.heap
 ff:s.heap.FunFrames c.base frs
inductive FnPost (c:Cx) (s:Shared) (Q:RV->Prop) (v:Value) (s':Shared):Prop
 | mk (r:RV):Same s s'->(Kp s.heap s'.heap)->r.ok c s.heap s'.heap v->r.new=true->Q r->FnPost c s Q v s'
noncomputable def FnExc (c:Cx) (frs:List Env) (s:Shared) (X:Prop) (x:Value) (s':Shared):Prop:=X∧∃ e,x=.ref e∧ExcAt c [] frs s e (some .none) s'
noncomputable def Fn (c:Cx) (d:Nat) (fn:Str) (args:List Slot) (Q:RV->Prop) (X:Prop):Prop :=
 ∀ A frs s a vals,c.mg fn=some (.ref a)->CallEnv c A frs d s->Args c s.heap vals args ->
  wpAny (model c.prog c.w) A (call (.ref a) vals) (FnPost c s Q) (FnExc c frs s X) s
theorem Fn.mono {c:Cx}{d d':Nat}{fn:Str}{args:List Slot}{Q Q':RV->Prop}{X X':Prop} (h:Fn c d fn args Q X) (hd:d≤d') (k:∀ r,r.new=true->Q r->Q' r) (kx:X->X'):Fn c d' fn args Q' X' :=
 fun A frs s a vals hm E ha=>wpAny_mono (h A frs s a vals hm ⟨E.cx,E.handled,E.frames,by have:=E.room;lia,by have:=E.units;lia,E.base,E.ff⟩ ha)
  (fun v s' hq_=>by obtain ⟨r,x1,x2,x3,x4,x5⟩:=hq_;exact ⟨r,x1,x2,x3,x4,k r x4 x5⟩) fun x s' ⟨a,b⟩=>⟨kx a,b⟩
theorem KD.of_left {Z:List Addr}{h h':Heap} (k:∀ b o,h.get? b=some o->(∀ vs,o.data≠.fields vs)->∃ sl,h'.get? b=some { o with slots:=sl }):KD Z h h':=fun b o _ e n=>by
 obtain ⟨sl,q⟩:=k b o e n
 exact ⟨_,q,rfl,rfl,rfl⟩
theorem leave_exc {c:Cx}{M:Model}{A:Around}{E:Value->Shared->Prop}{env:Env}{outer:List Env}{L e:Addr}{mk:Option Value}{h₀ s:Shared}{Q:Unit->Shared->Prop}
  (hfr:A.frames=some (env :: outer)) (hf:env.frame=some L) {Z:List Addr} (x:ExcAt c Z (env :: outer) h₀ e mk s) (hmk:mk=none∨mk=some .none∨∃ L,env.frame=some L∧mk=some (rawInt L))
  (h:∀ s',ExcAt c Z outer h₀ e (some .none) s'->Q () s'):wpAny M A (leaving env (.ref e)) Q E s:=by
 obtain ⟨⟨hh,tk,rfl⟩,hb,hn,hff,hfl,hkd⟩:=x
 have fin:∀ h',c.base.StaysIn h'->h'.FunFrames c.base (env :: outer)->h'.Traced c.base e (.ref c.C)->KD Z hh h'->Q () { h₀ with heap:=h',toks:=tk }:=fun h' a b t k =>
  h _ ⟨⟨h',tk,rfl⟩,a,hn,b.2.2,.of t,hkd.trans k⟩
 rcases hmk with rfl | rfl | ⟨L',hL',rfl⟩
 ·obtain ⟨oe,vs,he,hc,hd,h1⟩:=hfl
  exact wpAny_leaving_first hfr hff hf he hb hn hd h1 fun h' ⟨a,b,t,k⟩=>fin h' a b (hc▸t) (.of_left k)
 ·exact wpAny_leaving_next hfr hff hf (Fl2.to hfl) hb hn fun h' ⟨a,b,t,k⟩=>fin h' a b t (.of_left k)
 ·cases hf.symm.trans hL'
  obtain ⟨oe,vs,T,oT,ts,he,hc,hd,h1,hnT,hTe,hT,hdT,h3⟩:=hfl
  unfold leaving noteFrame
  simp only [hf]
  refine wpAny_bind (wpAny_bind (wpAny_field he hd h1 ?_))
  refine wp_pos (show (Value.ref T != Value.none)=true from by simp) ?_
  refine wpAny_bind (wpAny_field hT hdT h3 ?_)
  refine wp_pos (by simp) ?_
  refine wpAny_pure ?_
  unfold setFlight
  refine wpAny_bind (wpAny_field he hd h1 ?_)
  refine wp_pos (show (Value.ref T != Value.none)=true from by simp) ?_
  refine wpAny_setField hT hdT (Array.getElem?_eq_some_iff.mp h3).1 ?_
  have other:∀ b,b≠T->(hh.update T (Obj.mapFields (·.setIfInBounds 3 ((none:Option Addr).elim Value.none fun f=>rawInt f)))).get? b=hh.get? b:=fun b hb=>Heap.get?_update_other _ _ (Ne.symm hb)
  have noRecord:∀ b o,hh.get? b=some o->(∀ vs,o.data≠.fields vs)->b≠T:=fun b o hb hnf q=>by
   replace hb:=q▸hb;have hT':hh.get? T=some oT:=hT;cases hT'.symm.trans hb;exact hnf ts hdT
  refine fin _ (fun b o e'=>(other b (by rintro rfl;exact nob hnT e')).trans (hb b o e')) (hff.of_keeps fun b o e' n=>⟨o,(other b (noRecord b o e' n)).trans e',rfl⟩) ?_ (fun b o _ e' n=>⟨o,(other b (noRecord b o e' n)).trans e',rfl,rfl,rfl⟩)
  exact ⟨oe,vs,T,_,_,(other e (Ne.symm hTe)).trans he,hc,hd,h1,hnT,hTe,Heap.get?_update_self _ hT (Obj.isFreed_of_fields (Obj.data_mapFields hdT _)),Obj.data_mapFields hdT _,by
   have:=(Array.getElem?_eq_some_iff.mp h3).1
   simp [this]⟩
theorem bindL_two {k:Str->Option NameKind}{x y:Str}{v u:Value} (hne:x≠y) (hx:k x=some .local):bindL k [(x,v),(y,u)] (fun _=>none) x=some v:=by
 simp only [bindL,hx,if_true]
 split <;> simp [hne]
theorem bindL_two' {k:Str->Option NameKind}{x y:Str}{v u:Value} (hy:k y=some .local):bindL k [(x,v),(y,u)] (fun _=>none) y=some u:=by
 simp [bindL,hy]
theorem bindC_two {k:Str->Option NameKind}{x y:Str}{v u:Value} (hne:x≠y) (hx:k x≠some .local):bindC k [(x,v),(y,u)] (fun _=>none) x=some v:=by
 simp only [bindC,hx,if_false]
 split <;> simp [hne]
theorem bindC_two' {k:Str->Option NameKind}{x y:Str}{v u:Value} (hy:k y≠some .local):bindC k [(x,v),(y,u)] (fun _=>none) y=some u:=by
 simp [bindC,hy]
noncomputable def par1 (x:Str) (a:Slot):Ab:=fun z=>if z=x then some ⟨a,false⟩ else none
noncomputable def par2 (x y:Str) (a b:Slot):Ab:=fun z=>if z=x then some ⟨a,false⟩ else if z=y then some ⟨b,false⟩ else none
structure Kinds (scope:Scope) (names:List Str):Prop where
 each:∀ x∈names,scope.names.lookup x=some .local∨scope.names.lookup x=some .cell
theorem frame_ok {c:Cx}{A:Around}{frs:List Env}{d:Nat}{s:Shared}{env:Env}{scope:Scope}{L fa:Addr}{code:Value}{q:Str}{s':Shared}{m cm:Str->Option Value} (E:CallEnv c A frs (d+1) s)
  (he:env=newEnv scope L mainGlobals (cellsFrom (L+1) scope.names []) q (some fa) code none builtinsNs) (hk:scope.kind=.function) (x:InCallC s env.locals m env.cells cm s') :
  Fx.Ok { c:=c,A:=A.deeper env,env:=env,frs:=env :: frs,H:=s,Z:=[],zok:=fun _ _=>True,own:=true,K:=[],T:=s.heap } scope d:=by
 have hnew:∀ b,s.heap.objs.size≤b->s.heap.get? b=none:=fun b hb=>by
  exact none_from _ hb
 have hL:=x.toInCall.fresh
 refine { cx:=E.cx,scope:=by subst he;rfl,kind:=hk,glob:=by subst he;rfl,blt:=by subst he;rfl,handled:=E.handled,room:=?_,units:=?_,frames:=Around.frames_deeper E.frames, fr:=⟨env,frs,env.locals,rfl,by subst he;rfl,by subst he;rfl,by subst he;exact hk⟩,base:=E.base,zbase:=fun a ha=>(List.not_mem_nil ha).elim,zsame:=fun _ _ _ _ _=>trivial,ztup:=fun _ _ a _ ha=>(List.not_mem_nil ha).elim, zlive:=fun _ _ a ha=>(List.not_mem_nil ha).elim,fz:=fun _ _ L _ ha=>(List.not_mem_nil ha).elim,lnew:=hnew _ hL,cnew:=fun _ p hp=>hnew _ (Nat.le_of_lt (Nat.lt_of_le_of_lt hL (x.above p.1 p.2 hp))),apart:=fun _=>x.apart,lz:=fun ha=>(List.not_mem_nil ha).elim, cz:=fun p hp=>⟨fun ha=>(List.not_mem_nil ha).elim,Nat.ne_of_gt (x.above p.1 p.2 hp)⟩,kz:=fun p hp=>(List.not_mem_nil hp).elim }
 ·have:=E.room;show A.depth+1+d < recursionLimit;lia
 ·have:=E.units;show A.units+3+8 * d+60 < cLine;lia
theorem frame_inv {c:Cx}{A:Around}{frs:List Env}{s:Shared}{env:Env}{s':Shared}{m cm:Str->Option Value}{ρ:Ab}{scope:Scope} (hff:s.heap.FunFrames c.base frs) (hbase:Kp c.base s.heap)
  (hf:env.frame=some env.locals) (hsc:env.scope=scope) (hk:scope.kind=.function) (hnd:(env.cells.map (·.1)).Nodup)
  (x:InCallC s env.locals m env.cells cm s')
  (hv:∀ y sl,ρ y=some sl->sl.new=false∧∃ v,(env.kindOf y=some .local∧m y=some v∨env.kindOf y=some .cell∧(env.cells.lookup y).isSome=true∧cm y=some v)∧sl.sl.ok c s.heap v) :
  Inv { c:=c,A:=A.deeper env,env:=env,frs:=env :: frs,H:=s,Z:=[],zok:=fun _ _=>True,own:=true,K:=[],T:=s.heap } ρ ([],0) s':=by
 obtain ⟨h',tk,e,hk'⟩:=x.done
 have kp:Kp s.heap s'.heap:=by subst e;exact hk'
 have hnew:∀ b,s.heap.objs.size≤b->s.heap.get? b=none:=fun b hb=>by
  exact none_from _ hb
 have hL:=x.toInCall.fresh
 refine ⟨⟨h',tk,e⟩,fun b o _ e=>kp b o e,trivial,?_,⟨m,x.toInCall.ns,fun y sl hy=>?_⟩,?_,fun p hp=>(List.not_mem_nil hp).elim,TK.of kp,?_,?_⟩
 ·refine .cons (by refine hsc▸?_;refine hk▸?_;decide) hf x.toInCall.ns ?_ (ff_of (fun en he b o hf e hd=>⟨o,kp b o e,hd⟩) hff)
  exact back_none (hnew _ hL) fun o p=>hbase _ o p
 ·obtain ⟨_,v,h1,ok⟩:=hv y sl hy
  refine ⟨v,?_,ok.mono (TK.of kp) fun a _ o q=>kp a o q⟩
  rcases h1 with h1 | ⟨h1,h2,h3⟩
  ·exact .inl h1
  ·obtain ⟨a,ha⟩:=Option.isSome_iff_exists.mp h2
   exact .inr ⟨.inl h1,a,ha,h3▸x.cell y a ha⟩
 ·exact fun p hp=>⟨_,x.cell p.1 p.2 (lookup_of_mem_nodup hnd hp)⟩
 ·intro y sl a hy ha
  obtain ⟨_,v,_,ok⟩:=hv y sl hy
  obtain ⟨o,ho,_⟩:=ok.live a ha
  have lt:a < s.heap.objs.size:=Heap.lt_size ho
  exact ⟨Nat.ne_of_lt (Nat.lt_of_lt_of_le lt hL),fun ha=>(List.not_mem_nil ha).elim,fun p hp=>Nat.ne_of_gt (Nat.lt_trans (Nat.lt_of_lt_of_le lt hL) (x.above p.1 p.2 hp))⟩
 ·intro y r a hy hr
  cases ((hv y r hy).1).symm.trans hr
end
section
structure In (f:Fx) (c:Cx) (scope:Scope) (d:Nat):Prop where
 ok:f.Ok scope d
 c:f.c=c
 own:f.own=true
 cells:∀ x,scope.names.lookup x=some .cell->∃ a,f.env.cells.lookup x=some a
 z:f.Z=[]
theorem enter_of {c:Cx}{d:Nat}{fn:Str}{params:Arguments}{body:List Stmt}{scope:Scope}{sls:List Slot}{ρ:Ab}{Q:RV->Prop}{X:Prop}
  (D:FnDef c fn params body scope) (hk:scope.kind=.function) (hco:scope.isCoroutine=false) (hgen:scope.isGenerator=false) (hnd:((cellsFrom 0 scope.names []).map (·.1)).Nodup)
  (binds:List Value->List (Str×Value))
  (hbind:∀ vals h pm code doc,Args c h vals sls->bindArgs (docDef fn params body scope pm code doc) ⟨vals,[]⟩=pure (binds vals))
  (hkind:∀ vals h,Args c h vals sls->((binds vals).all fun y=>scope.names.lookup y.1 == some .local || scope.names.lookup y.1 == some .cell)=true)
  (hρ:∀ vals h (k:Str->Option NameKind),Args c h vals sls->(∀ x,k x=scope.names.lookup x)->∀ y sl,ρ y=some sl->sl.new=false∧∃ v,(k y=some .local∧bindL k (binds vals) (fun _=>none) y=some v∨k y=some .cell∧bindC k (binds vals) (fun _=>none) y=some v)∧sl.sl.ok c h v)
  (h:∀ f,In f c scope d->XL f ρ ([],0) body (fun _ _=>False) (fun r _=>Q r) X):Fn c (d+1) fn sls Q X:=by
 intro A frs s a vals hm E ha
 obtain ⟨a',o,pm,code,doc,h1,h2,h3,h4⟩:=D
 cases h1.symm.trans hm
 have hroom:A.depth < recursionLimit:=by have:=E.room;lia
 refine wpAny_call ?_
 refine codeAny_call_function hroom (E.base _ _ h2) h3 hco hgen rfl (h4.keeps E.base) ?_
 refine wp_eq (hbind vals _ pm code doc ha) ?_
 refine wpAny_pure ?_
 refine wpAny_newFunctionEnv_cells hk (kindsX (hkind vals _ ha) _) fun env he s' x=>?_
 have he':env=newEnv scope s.heap.objs.size mainGlobals (cellsFrom (s.heap.objs.size+1) scope.names []) (fn ++ ".<locals>.") (some a) code none builtinsNs:=he
 have hsc:env.scope=scope:=by refine he'▸?_;rfl
 have hfr:env.frame=some env.locals:=by refine he'▸?_;rfl
 have hcl:env.cells=cellsFrom (s.heap.objs.size+1) scope.names []:=by refine he'▸?_;rfl
 refine ⟨(E.cx.nolimit.keeps E.base).keeps x.toInCall.keep,codeAny_func ?_⟩
 have ok:=frame_ok E he' hk x
 have hnd':(env.cells.map (·.1)).Nodup:=by refine hcl▸?_;exact cellsFrom_names scope.names 0 (s.heap.objs.size+1) [] [] rfl▸hnd
 have cells:∀ y,scope.names.lookup y=some .cell->∃ a,env.cells.lookup y=some a:=fun y hy=>by
  refine hcl▸?_;exact Option.isSome_iff_exists.mp (cellsFrom_some _ _ _ (.inl hy))
 have kof:∀ y,env.kindOf y=scope.names.lookup y:=fun y=>by unfold Env.kindOf;exact hsc▸rfl
 have I:=frame_inv (A:=A) (ρ:=ρ) E.ff E.base hfr hsc hk hnd' x (fun y sl hy=>by
  obtain ⟨h0,v,h1,h2⟩:=hρ vals _ env.kindOf ha kof y sl hy
  refine ⟨h0,v,?_,h2⟩
  rcases h1 with h1 | ⟨h1,h3⟩
  ·exact .inl h1
  ·exact .inr ⟨h1,Option.isSome_iff_exists.mpr (cells y (kof y▸h1)),h3⟩)
 refine wpAny_mono (h _ ⟨ok,rfl,rfl,cells,rfl⟩ s' I) (fun fl s'' q=>?_) fun e s'' q=>?_
 ·cases fl with
  | next=>obtain ⟨_,_,_,q⟩:=q;exact q.elim
  | ret v =>
   obtain ⟨r,σ',ρ',I',ok',hn,q⟩:=q
   exact ⟨r,I'.same,fun b o e=>I'.keep b o (fun h=>(List.not_mem_nil h).elim) e,ok',hn,q⟩
  | brk=>exact q.elim
  | cont=>exact q.elim
 ·obtain ⟨hx,⟨e,mk,rfl,q,hmk⟩,_⟩:=q
  exact leave_exc ok.frames hfr q hmk fun s3 q3=>⟨hx,e,rfl,q3⟩
noncomputable abbrev LookIs (k:Str->Option NameKind) (bs:List (Str×Value)) (y:Str) (v:Value):Prop:=k y=some .local∧bindL k bs (fun _=>none) y=some v∨k y=some .cell∧bindC k bs (fun _=>none) y=some v
noncomputable abbrev LocCell (scope:Scope) (x:Str):Prop:=scope.names.lookup x=some .local∨scope.names.lookup x=some .cell
theorem LocCell.b {scope:Scope}{x:Str} (h:LocCell scope x):(scope.names.lookup x == some .local || scope.names.lookup x == some .cell)=true:=by
 rcases h with h | h <;> (refine h.symm▸?_;rfl)
theorem enter1 {c:Cx}{d:Nat}{fn x:Str}{params:Arguments}{body:List Stmt}{scope:Scope}{a:Slot}{Q:RV->Prop}{X:Prop} (D:FnDef c fn params body scope)
  (h:∀ f,In f c scope d->XL f (par1 x a) ([],0) body (fun _ _=>False) (fun r _=>Q r) X)
  (hbind:∀ v pm code doc,bindArgs (docDef fn params body scope pm code doc) ⟨[v],[]⟩=pure [(x,v)]) (hx:LocCell scope x)
  (hk:scope.kind=.function) (hco:scope.isCoroutine=false) (hgen:scope.isGenerator=false) (hnd:((cellsFrom 0 scope.names []).map (·.1)).Nodup):Fn c (d+1) fn [a] Q X:=by
 have one:∀ {h:Heap}{vals:List Value},Args c h vals [a]->∃ v,vals=[v]∧a.ok c h v:=fun ha=>by
  cases ha with
  | cons a1 r=>cases r;exact ⟨_,rfl,a1⟩
 refine enter_of D hk hco hgen hnd (fun vals=>[x].zip vals) (fun vals h pm code doc ha=>?_) (fun vals h ha=>?_) (fun vals h k ha kof y sl hy=>?_) h <;> obtain ⟨v,rfl,a1⟩:=one ha
 ·exact hbind _ _ _ _
 ·exact (Bool.and_true _).trans hx.b
 ·unfold par1 at hy
  by_cases q:y=x
  ·subst q
   cases sinj (if_pos rfl) hy
   exact ⟨rfl,v,hx.imp (fun hx=>⟨(kof _).trans hx,by simp [bindL,(kof y).trans hx]⟩) (fun hx=>⟨(kof _).trans hx,by simp [bindC,(kof y).trans hx]⟩),a1⟩
  ·exact nob (if_neg q) hy
theorem args_two {c:Cx}{h:Heap}{vals:List Value}{a b:Slot} (ha:Args c h vals [a,b]):∃ v u,vals=[v,u]∧a.ok c h v∧b.ok c h u:=by
 cases ha with
 | cons a1 r=>cases r with
  | cons a2 r=>cases r;exact ⟨_,_,rfl,a1,a2⟩
theorem two_look {c:Cx}{h:Heap}{x y:Str}{scope:Scope} (hx:LocCell scope x) (hy:LocCell scope y) (hne:x≠y) {k:Str->Option NameKind} (kof:∀ x,k x=scope.names.lookup x) {a b:Slot}{v u:Value} (oka:a.ok c h v) (okb:b.ok c h u) {z:Str}{sl:RV} (hz:par2 x y a b z=some sl) :
  sl.new=false∧(sl.sl=a∨sl.sl=b)∧∃ w,LookIs k [(x,v),(y,u)] z w∧sl.sl.ok c h w:=by
 unfold par2 at hz
 by_cases q:z=x
 ·subst q
  cases sinj (if_pos rfl) hz
  exact ⟨rfl,.inl rfl,v,hx.imp (fun hx=>⟨(kof _).trans hx,bindL_two hne ((kof _).trans hx)⟩) (fun hx=>⟨(kof _).trans hx,bindC_two hne (by refine (kof ..)▸?_;refine (hx ..)▸?_;decide)⟩),oka⟩
 ·have hz:=(if_neg q).symm.trans hz
  by_cases p:z=y
  ·subst p
   cases sinj (if_pos rfl) hz
   exact ⟨rfl,.inr rfl,u,hy.imp (fun hy=>⟨(kof _).trans hy,bindL_two' ((kof _).trans hy)⟩) (fun hy=>⟨(kof _).trans hy,bindC_two' (by refine (kof ..)▸?_;refine (hy ..)▸?_;decide)⟩),okb⟩
  ·exact nob (if_neg p) hz
theorem enter2 {c:Cx}{d:Nat}{fn x y:Str}{params:Arguments}{body:List Stmt}{scope:Scope}{a b:Slot}{Q:RV->Prop}{X:Prop} (D:FnDef c fn params body scope)
  (h:∀ f,In f c scope d->XL f (par2 x y a b) ([],0) body (fun _ _=>False) (fun r _=>Q r) X)
  (hbind:∀ v u pm code doc,bindArgs (docDef fn params body scope pm code doc) ⟨[v,u],[]⟩=pure [(x,v),(y,u)]) (hx:LocCell scope x) (hy:LocCell scope y) (hne:x≠y)
  (hk:scope.kind=.function) (hco:scope.isCoroutine=false) (hgen:scope.isGenerator=false) (hnd:((cellsFrom 0 scope.names []).map (·.1)).Nodup):Fn c (d+1) fn [a,b] Q X:=by
 refine enter_of D hk hco hgen hnd (fun vals=>[x,y].zip vals) (fun vals h pm code doc ha=>?_) (fun vals h ha=>?_) (fun vals h k ha kof z sl hz=>?_) h <;> obtain ⟨v,u,rfl,a1,a2⟩:=args_two ha
 ·exact hbind _ _ _ _ _
 ·exact Bool.and_eq_true _ _▸⟨hx.b,(Bool.and_true _).trans hy.b⟩
 ·exact (two_look hx hy hne kof a1 a2 hz).imp id (·.2)
section
variable {f:Fx}{sc:Scope}{d:Nat}{ρ:Ab}{σ:Box}{s:Shared}{Q:RV->Box->Prop}{X:Prop}
noncomputable def IsFn (c:Cx) (g:Str):Prop:=∃ params body scope,FnDef c g params body scope
theorem IsFn.name {c:Cx}{g:Str} (h:IsFn c g):∃ a o fd,c.mg g=some (.ref a)∧c.base.get? a=some o∧o.data=.func fd:=by
 obtain ⟨_,_,_,a,o,pm,code,doc,h1,h2,h3,_⟩:=h
 exact ⟨a,o,_,h1,h2,h3⟩
theorem EV_Call (F:f.Ok sc (d+1)) {g:Str}{p pos:Pos}{e:Expr}{es:List Expr} (hx:sc.names.lookup g=some .globalImplicit) (hg:IsFn f.c g)
  (h:EL f ρ σ (e :: es) (fun rs σ'=>Fn f.c d g (rs.map (·.sl)) (fun r=>Q r σ') X) X)
  (he:starEach (e :: es) f.env=(false,eval e f.env) :: starEach es f.env:=by rfl) (hd:(g == ("__debug__":Str))=false:=by decide):EV f ρ σ (.Call (.Name g p) (e :: es) [] pos) Q X:=fun s I=>by
 obtain ⟨a,o,fd,h1,h2,h3⟩:=hg.name
 refine wpAny_Call_Name_kw (wp_GName F I hx (.inl h1) ?_ hd)
 have hb:backTo pos (starEach (e :: es) f.env)=(false,eval e f.env) :: backTo pos (starEach es f.env):=by refine he▸?_;rfl
 refine hb▸?_
 refine callWith_function_kw (o:=o) (fd:=fd) (evalArgs_kw rfl ?_)
 refine hb▸?_
 refine wpAny_mono (h s pos I) (fun vs s' hq_=>?_) fun _ _ x=>x
 obtain ⟨rs,σ',ex,z,oks,q⟩:=hq_
 have I':=I.ext F ex z
 have hbase:Kp f.c.base s'.heap:=I'.kb F
 refine wpAny_evalAll_nil ⟨⟨hbase _ _ h2,h3⟩,?_⟩
 show wpAny _ _ (call (.ref a) ([] ++ vs) []) _ _ _
 have E:CallEnv f.c f.A f.frs d s':=⟨F.cx,F.handled,F.frames,by have:=F.room;lia,by have:=F.units;lia,hbase,I'.ff⟩
 refine wpAny_mono (q f.A f.frs s' a vs h1 E oks.args) (fun v s'' ⟨r,x1,x2,x3,x4,x5⟩=>?_) fun x s'' ⟨hx,e',e1,e2⟩=>?_
 ·have offz:∀ a∈r.sl.fp,a∉f.Z:=fun a ha hz=>by
   obtain ⟨o,ho⟩:=F.zlive σ' s'.heap a hz z
   exact nob (x3.2 x4 a ha) ho
  obtain ⟨h',tk,e⟩:=x1
  exact ⟨r,σ',ex.trans ⟨⟨h',tk,e⟩,fun b o _ e=>x2 b o e⟩,F.zsame σ' _ _ (fun b o _ e=>x2 b o e) z,rv_from ex offz x3,offz,x5⟩
 ·obtain ⟨m,hn,_⟩:=I'.vars
  refine ⟨hx,⟨e',some .none,e1,⟨?_,e2.base,e2.new,e2.ff,e2.fl,(KD.of I'.keep).trans e2.kd.wider⟩,.inr (.inl rfl)⟩,m,e2.kd.ns (fun h=>(List.not_mem_nil h).elim) hn⟩
  obtain ⟨h1,t1,q1⟩:=I'.same
  obtain ⟨h2,t2,q2⟩:=e2.same
  exact ⟨h2,t2,by refine q2▸?_;exact q1▸rfl⟩
end
end
section
section
variable {f:Fx}{sc:Scope}{d:Nat}{ρ:Ab}{σ:Box}{s:Shared}{Q:RV->Box->Prop}{X:Prop}{N:Ab->Box->Prop}{R:RV->Box->Prop}
theorem XS_ReturnName (F:f.Ok sc d) {x:Str}{p pos:Pos}{sl:Slot} (hρ:ρ x=some ⟨sl,true⟩) (h:R ⟨sl,true⟩ σ)
  (hd:(x == ("__debug__":Str))=false:=by decide) (hc:(x == ("__classdict__":Str))=false:=by decide):XS f ρ σ (.Return (some (.Name x p)) pos) N R X:=fun s I=>by
 have q:=XS_Return (N:=N) (R:=R) (X:=X) (pos:=pos) F (e:=.Name x p) (ρ:=ρ) (σ:=σ) (EV_Name F hρ ⟨.inr (.inr fun a ha=>(I.mine x _ a hρ rfl ha).1),h⟩ hd hc)
 exact q s I
theorem XL_freeze {x:Str}{r:RV}{sts:List Stmt} (hx:ρ x=some r) (h:XL f (set ρ x ⟨r.sl,false⟩) σ sts N R X):XL f ρ σ sts N R X:=fun s I=>h s (I.freeze hx)
theorem XS_While (F:f.Ok sc d) {test:Expr}{body:List Stmt}{pos:Pos} (J:Nat->Ab->Box->Prop) (n:Nat) (h0:J n ρ σ)
  (step:∀ n ρ σ,J n ρ σ->ET f ρ σ test (fun b σ'=>(b=true->XL f ρ σ' body (fun ρ' σ''=>∃ m,m < n∧J m ρ' σ'') R False)∧(b=false->N ρ σ')) False):XS f ρ σ (.While test body [] pos) N R X:=fun s I=>by
 refine wpAny_While (codeAny_whileLoop (fun k s'=>∃ ρ' σ',Inv f ρ' σ' s'∧J k ρ' σ') (fun k s' ⟨ρ',σ',I',hJ⟩=>?_) n ⟨ρ,σ,I,h0⟩)
 refine (step k ρ' σ' hJ).use F I' (fun x s' h=>h.1.elim) fun b s'' σ'' ex I'' q=>?_
 cases b with
 | true =>
  refine wpAny_mono (q.1 rfl s'' I'') (fun fl s3 x=>?_) fun x s3 h=>h.1.elim
  cases fl with
  | next=>obtain ⟨ρ3,σ3,I3,m,hm,hJ3⟩:=x;exact ⟨m,hm,ρ3,σ3,I3,hJ3⟩
  | ret v=>exact x
  | brk=>exact x.elim
  | cont=>exact x.elim
 | false=>exact wpAny_execs_nil ⟨ρ',σ'',I'',q.2 rfl⟩
theorem Slot.ok.cls {c:Cx}{h:Heap}{v:Value}{sl:Slot} (x:sl.ok c h v):∀ a∈sl.fp,∃ o,h.get? a=some o∧(o.cls=.type "list"∨o.cls=.type "dict"):=by
 intro a ha
 cases sl with
 | val y=>cases ha
 | lst b xs =>
  obtain rfl:=List.mem_singleton.mp ha
  obtain ⟨⟨vs,⟨o,ho,hc,_⟩,_⟩,_⟩:=x.2
  exact ⟨o,ho,.inl hc⟩
 | dct b xs =>
  obtain rfl:=List.mem_singleton.mp ha
  obtain ⟨_,ys,⟨o,es',ep,ho,hx,_⟩,_⟩:=x.2
  exact ⟨o,ho,.inr hx.1⟩
 | tab b xs =>
  obtain rfl:=List.mem_singleton.mp ha
  obtain ⟨o,ho,hx⟩:=x.2.live
  exact ⟨o,ho,.inr hx⟩
 | ref u=>cases ha
 | box B L σ =>
  obtain ⟨o,ho,hc,_⟩:=x.2.live ha
  exact ⟨o,ho,.inl hc⟩
 | tabs b ds =>
  rcases List.mem_cons.mp ha with rfl | ha
  ·obtain ⟨⟨vs,⟨o,ho,hc,_⟩,_⟩,_⟩:=x.2.1
   exact ⟨o,ho,.inl hc⟩
  ·obtain ⟨d,hd,rfl⟩:=List.mem_map.mp ha
   obtain ⟨o,ho,hx⟩:=(x.2.2 d hd).live
   exact ⟨o,ho,.inr hx⟩
structure Src (f:Fx) (I:Addr) (P:List (Addr×Obj)) (n:Nat) (Pt:Nat->Value->Prop) (St:Nat->Heap->Prop) (h:Heap):Prop where
 W:Walks f.c.prog f.c.w f.A I (I :: P.map (·.1)) [I] n Pt St
 st:St 0 h
 it:∀ i h,St i h->∃ o vs,h.get? I=some o∧o.cls≠.type "list"∧o.cls≠.type "dict"∧o.data=.fields vs
 pins:∀ p∈P,h.get? p.1=some p.2
 new:f.H.heap.get? I=none
 nz:I∉f.Z
 nP:∀ p∈P,p.1≠I∧p.1∉f.Z∧p.1≠f.env.locals∧(∀ q∈f.env.cells,q.2≠p.1)
 nK:∀ p∈f.K,p.1≠I
noncomputable abbrev Fx.pin (f:Fx) (T:Heap) (K:List (Addr×Obj)):Fx:={ f with T:=T,K:=K ++ f.K }
theorem Inv.unpin {T:Heap}{K:List (Addr×Obj)} (V:Inv (f.pin T K) ρ σ s) (ht:TK f.T T):Inv f ρ σ s :=
 ⟨V.same,V.keep,V.z,V.ff,V.vars,V.cells,fun p hp=>V.pin p (List.mem_append_right _ hp),ht.trans V.tup,V.off,fun y r a hy hr ha=>let ⟨m1,m2,m3⟩:=V.mine y r a hy hr ha;⟨m1,fun p hp=>m2 p (List.mem_append_right _ hp),m3⟩⟩
theorem pin_ok (F:f.Ok sc d) {T:Heap}{K:List (Addr×Obj)} (h:∀ p∈K,p.1∉f.Z∧p.1≠f.env.locals∧∀ q∈f.env.cells,q.2≠p.1):(f.pin T K).Ok sc d :=
 have kz:∀ p∈K ++ f.K,p.1∉f.Z∧p.1≠f.env.locals∧∀ q∈f.env.cells,q.2≠p.1:=fun p hp=>(List.mem_append.mp hp).elim (h p) (F.kz p)
 { F with kz:=kz }
theorem Inv.pinned {T:Heap}{K:List (Addr×Obj)} (V:Inv f ρ σ s) (ht:TK T s.heap) (h:∀ p∈K,s.heap.get? p.1=some p.2) (hm:∀ p∈K,∀ y r,ρ y=some r->r.new=true->p.1∉r.sl.fp):Inv (f.pin T K) ρ σ s :=
 ⟨V.same,V.keep,V.z,V.ff,V.vars,V.cells,fun p hp=>by
   rcases List.mem_append.mp hp with hp | hp
   ·exact h p hp
   ·exact V.pin p hp,ht,V.off,fun y r a hy hr ha=>by
  obtain ⟨m1,m2,m3⟩:=V.mine y r a hy hr ha
  refine ⟨m1,fun p hp=>?_,m3⟩
  rcases List.mem_append.mp hp with hp | hp
  ·rintro rfl;exact hm p hp y r hy hr ha
  ·exact m2 p hp⟩
end
end
section
section
variable {f:Fx}{sc:Scope}{d:Nat}{ρ:Ab}{σ:Box}{s:Shared}{Q:RV->Box->Prop}{X:Prop}{N:Ab->Box->Prop}{R:RV->Box->Prop}
inductive SPost (f:Fx) (M:Bool) (ρ:Ab) (s:Shared) (Q:List PV->Box->Prop) (it:Value) (s₂:Shared):Prop
 | mk (I:Addr) (P:List (Addr×Obj)) (n:Nat) (Pt:Nat->Value->Prop) (St:Nat->Heap->Prop) (xs:List PV) (σ':Box):it=.ref I->Ext f s s₂->f.zok σ' s₂.heap->Src f I P n Pt St s₂.heap->n=xs.length->(∀ i v h,i < n->Pt i v->TK s₂.heap h->∃ y,xs[i]?=some y∧Im h v y) ->
  (∀ y r,ρ y=some r->r.new=true->I∉r.sl.fp∧(M=true->∀ p∈P,p.1∉r.sl.fp))->s.heap.get? I=none->Q xs σ'->SPost f M ρ s Q it s₂
noncomputable def ES (f:Fx) (M:Bool) (ρ:Ab) (σ:Box) (iter:Expr) (Q:List PV->Box->Prop) (X:Prop):Prop :=
 ∀ s,Inv f ρ σ s->wpAny (model f.c.prog f.c.w) f.A (eval iter f.env) (fun x s₁=>wpAny (model f.c.prog f.c.w) f.A (pyIter x) (SPost f M ρ s Q) (ExP f X) s₁) (ExP f X) s
theorem src_new (F:f.Ok sc d) {σ':Box}{s₁:Shared} (I:Inv f ρ σ' s₁):f.H.heap.get? s₁.heap.objs.size=none∧s₁.heap.objs.size∉f.Z∧(∀ p∈f.K,p.1≠s₁.heap.objs.size)∧∀ y r,ρ y=some r->s₁.heap.objs.size∉r.sl.fp:=by
 have hz₀:s₁.heap.objs.size∉f.Z:=fun hz=>by
  obtain ⟨o,ho⟩:=F.zlive σ' s₁.heap _ hz I.z
  rw [get_size_none] at ho;exact non ho
 refine ⟨?_,fun hz=>?_,fun p hp e=>?_,fun y r hy ha=>?_⟩
 ·exact back_none (get_size_none _) fun o q=>I.keep _ o hz₀ q
 ·obtain ⟨o,ho⟩:=F.zlive σ' s₁.heap _ hz I.z
  rw [get_size_none] at ho;exact non ho
 ·have:=I.pin p hp
  rw [e,get_size_none] at this;exact non this
 ·obtain ⟨m,_,hv⟩:=I.vars
  obtain ⟨v,_,ok⟩:=hv y r hy
  obtain ⟨o,ho,_⟩:=ok.live _ ha
  rw [get_size_none] at ho;exact non ho
theorem place_off (F:f.Ok sc d) {σ':Box}{s₁:Shared} (I:Inv f ρ σ' s₁) {a:Addr}{o:Obj} (ho:s₁.heap.get? a=some o) (hd:∃ vs n,o.data=.seq vs n) (hz:a∉f.Z) :
  a≠s₁.heap.objs.size∧a∉f.Z∧a≠f.env.locals∧∀ q∈f.env.cells,q.2≠a:=by
 obtain ⟨vs,n,hd⟩:=hd
 refine ⟨Nat.ne_of_lt (Heap.lt_size ho),hz,?_,?_⟩
 ·rintro rfl
  obtain ⟨m,⟨oL,_,_,hL,hLd,_⟩,_⟩:=I.vars
  cases ho.symm.trans hL;cases hd.symm.trans hLd
 ·rintro q hq rfl
  obtain ⟨u,oc,hc,hcd⟩:=I.cells q hq
  cases ho.symm.trans hc;cases hd.symm.trans hcd
theorem ext_new {s₁:Shared} (ex:Ext f s s₁) (hz:s₁.heap.objs.size∉f.Z):s.heap.get? s₁.heap.objs.size=none:=by
 exact back_none (get_size_none _) fun o q=>ex.keep _ o hz q
theorem src_list (F:f.Ok sc d) {M:Bool}{Q:List PV->Box->Prop}{σ':Box}{s₁:Shared}{a:Addr}{xs:List PV} (I:Inv f ρ σ' s₁) (ex:Ext f s s₁) (hl:ListAt s₁.heap a xs) (hz:a∉f.Z)
  (hm:M=true->∀ y r,ρ y=some r->r.new=true->a∉r.sl.fp) (q:Q xs σ'):wpAny (model f.c.prog f.c.w) f.A (pyIter (.ref a)) (SPost f M ρ s Q) (ExP f X) s₁:=by
 obtain ⟨⟨vs,hL,hi⟩,_⟩:=hl
 obtain ⟨o,ho,hc,n,hd⟩:=id hL
 obtain ⟨p1,p2,p3,p4⟩:=place_off F I ho ⟨_,_,hd⟩ hz
 obtain ⟨n1,n2,n3,n4⟩:=src_new F I
 have kp:Kp s₁.heap (s₁.heap.push { cls:=.type "list_iterator",data:=.fields #[.ref a,.int 0 0] }):=fun _ _ e=>Heap.get?_push_of_some _ e
 refine wpAny_pyIter_list hL ⟨s₁.heap.objs.size,[(a,o)],vs.size,fun i v=>vs[i]?=some v,_,xs,σ',rfl,ex.trans (Ext.of (tk:=s₁.toks) kp),F.zsame σ' s₁.heap _ (fun b o _ e=>kp b o e) I.z, { W:=Walks.list F.handled _ a p1 vs,st:=⟨⟨_,Heap.get?_push_size _ rfl,rfl,rfl⟩,⟨o,kp _ _ ho,hc,n,hd⟩⟩,it:=?_,pins:=?_,new:=n1,nz:=n2,nP:=?_,nK:=n3 },?_,?_,fun y r hy hr=>⟨n4 y r hy,fun hM p hp=>?_⟩,ext_new ex n2,q⟩
 ·rintro i h ⟨⟨o',h1,h2,h3⟩,_⟩
  exact ⟨o',_,h1,by refine h2▸?_;decide,by refine h2▸?_;decide,h3⟩
 ·intro p hp;obtain rfl:=List.mem_singleton.mp hp;exact kp _ _ ho
 ·intro p hp;obtain rfl:=List.mem_singleton.mp hp;exact ⟨p1,p2,p3,p4⟩
 ·have:=hi.length;simpa using this
 ·intro i v h hlt hv k
  obtain ⟨y,h1,h2⟩:=hi.getV i v (by simpa using hv)
  exact ⟨y,h1,h2.mono ((TK.of kp).trans k)⟩
 ·obtain rfl:=List.mem_singleton.mp hp;exact hm hM y r hy hr
set_option tactic.hygienic true in
theorem src_tuple (F:f.Ok sc d) {M:Bool}{Q:List PV->Box->Prop}{σ':Box}{s₁:Shared}{v:Value}{xs:List PV} (I:Inv f ρ σ' s₁) (ex:Ext f s s₁) (hv:Im s₁.heap v (.tup xs))
  (q:Q xs σ'):wpAny (model f.c.prog f.c.w) f.A (pyIter v) (SPost f M ρ s Q) (ExP f X) s₁:=by
 cases hv with
 | tup ho hc hd hi =>
 rename_i a o vs n
 have hz:a∉f.Z:=fun hz=>F.ztup σ' s₁.heap a o hz I.z ho hc
 obtain ⟨p1,p2,p3,p4⟩:=place_off F I ho ⟨_,_,hd⟩ hz
 obtain ⟨n1,n2,n3,n4⟩:=src_new F I
 have kp:Kp s₁.heap (s₁.heap.push { cls:=.type "tuple_iterator",data:=.fields #[.ref a,.int 0 0] }):=fun _ _ e=>Heap.get?_push_of_some _ e
 refine wpAny_pyIter_tuple ⟨o,ho,hc,n,hd⟩ ⟨s₁.heap.objs.size,[(a,o)],vs.size,fun i v=>vs[i]?=some v,_,xs,σ',rfl,ex.trans (Ext.of (tk:=s₁.toks) kp),F.zsame σ' s₁.heap _ (fun b o _ e=>kp b o e) I.z, { W:=Walks.tuple F.handled _ a p1 vs,st:=⟨⟨_,Heap.get?_push_size _ rfl,rfl,rfl⟩,⟨o,kp _ _ ho,hc,n,hd⟩⟩,it:=?_,pins:=?_,new:=n1,nz:=n2,nP:=?_,nK:=n3 },?_,?_,fun y r hy hr=>⟨n4 y r hy,fun hM p hp=>?_⟩,ext_new ex n2,q⟩
 ·rintro i h ⟨⟨o',h1,h2,h3⟩,_⟩
  exact ⟨o',_,h1,by refine h2▸?_;decide,by refine h2▸?_;decide,h3⟩
 ·intro p hp;obtain rfl:=List.mem_singleton.mp hp;exact kp _ _ ho
 ·intro p hp;obtain rfl:=List.mem_singleton.mp hp;exact ⟨p1,p2,p3,p4⟩
 ·have:=hi.length;simpa using this
 ·intro i v h hlt hv k
  obtain ⟨y,h1,h2⟩:=hi.getV i v (by simpa using hv)
  exact ⟨y,h1,h2.mono ((TK.of kp).trans k)⟩
 ·obtain rfl:=List.mem_singleton.mp hp
  intro ha
  obtain ⟨m,_,hv⟩:=I.vars
  obtain ⟨u,_,ok⟩:=hv y r hy
  obtain ⟨o',ho',hc'⟩:=ok.live _ ha
  cases ho.symm.trans ho';exact hc' hc
noncomputable def IterQ (r:RV) (K:List PV->Prop):Prop :=
 match r.sl with
 | .val (.tup xs)=>K xs
 | .lst _ xs=>r.new=true∧K xs
 | _=>False
theorem ES_val (F:f.Ok sc d) {M:Bool}{iter:Expr}{Q:List PV->Box->Prop} (h:EV f ρ σ iter (fun r σ'=>IterQ r fun xs=>Q xs σ') X):ES f M ρ σ iter Q X:=fun s I =>
 h.use F I (fun _ _ x=>x) fun v s' r σ' ex I' ok off q=>by
  obtain ⟨sl,nw⟩:=r
  have a:=ok.1
  cases sl with
  | lst b xs =>
   obtain ⟨rfl,hl⟩:=a
   refine src_list F I' ex hl (off b (.head _)) (fun _ y r hy _ ha=>?_) q.2
   obtain ⟨m,_,hv⟩:=I.vars
   obtain ⟨u,_,ok'⟩:=hv y r hy
   obtain ⟨o',ho',_⟩:=ok'.live _ ha
   exact nob (ok.2 q.1 b (.head _)) ho'
  | val x=>cases x with
   | tup xs=>exact src_tuple F I' ex a q
   | _=>exact q.elim
  | _=>exact q.elim
theorem ES_Name (F:f.Ok sc d) {M:Bool}{x:Str}{p:Pos}{a:Addr}{xs:List PV}{nw:Bool}{Q:List PV->Box->Prop} (hρ:ρ x=some ⟨.lst a xs,nw⟩) (hM:M=true->nw=false) (h:Q xs σ)
  (hd:(x == ("__debug__":Str))=false:=by decide) (hc:(x == ("__classdict__":Str))=false:=by decide):ES f M ρ σ (.Name x p) Q X:=fun s I =>
 EV.use F (EV_Name F (X:=X) (Q:=fun r σ'=>r=⟨.lst a xs,false⟩∧σ'=σ) hρ ⟨rfl,rfl⟩ hd hc) I (fun _ _ x=>x) fun v s' r σ' ex I' ok off ⟨e1,e2⟩=>by
  subst e1 e2
  obtain ⟨rfl,hl⟩:=ok.1
  refine src_list F I' ex hl (off a (.head _)) (fun hm y r hy hr ha=>?_) h
  have hne:x≠y:=by rintro rfl;cases hρ.symm.trans hy;cases (hM hm).symm.trans hr
  exact (I.mine y r a hy hr ha).2.2 x _ hne hρ (.head _)
end
end
section
section
variable {f:Fx}{sc:Scope}{d:Nat}{ρ:Ab}{σ:Box}{s:Shared}{Q:RV->Box->Prop}{X:Prop}{N:Ab->Box->Prop}{R:RV->Box->Prop}
noncomputable def setAll:Ab->List Str->List RV->Ab
 | ρ,x :: xs,r :: rs=>setAll (set ρ x r) xs rs
 | ρ,_,_=>ρ
theorem SlotFits.set {x y:Str}{r q:RV} (h:SlotFits f ρ x r) (k:∀ a∈r.sl.fp,a∉q.sl.fp):SlotFits f (set ρ y q) x r :=
 ⟨h.off,h.mine,fun z t a hz ht hn ha=>by
  unfold Mine.set at ht
  by_cases e:z=y
  ·cases sinj (if_pos e) ht
   exact k a ha
  ·replace ht:=(if_neg e)▸ht
   exact h.alone z t a hz ht hn ha⟩
inductive Fits (f:Fx) (ρ:Ab) (h:Heap):List Value->List RV->Prop
 | nil:Fits f ρ h [] []
 | cons {v:Value}{vs:List Value}{r:RV}{rs:List RV}:r.sl.ok f.c h v->(∀ x,SlotFits f ρ x r)->(∀ q∈rs,∀ a∈r.sl.fp,a∉q.sl.fp)->Fits f ρ h vs rs->Fits f ρ h (v :: vs) (r :: rs)
theorem Fits.step {s s':Shared}{vs:List Value}{rs:List RV}{x:Str}{r:RV} (h:Fits f ρ s.heap vs rs) (k:Kept f s s') (hr:∀ q∈rs,∀ a∈r.sl.fp,a∉q.sl.fp):Fits f (set ρ x r) s'.heap vs rs:=by
 induction h with
 | nil=>exact .nil
 | cons ok fit al _ ih =>
  refine .cons (ok.mono k.tk fun a ha o e=>?_) (fun x=>(fit x).set fun a ha ha'=>hr _ (.head _) a ha' ha) al (ih fun q hq=>hr q (.tail _ hq))
  obtain ⟨h1,_,h2⟩:=(fit x).off a ha
  exact k.at' a o h1 h2 e
inductive Sts (f:Fx) (sc:Scope):List Str->List (Value->Sem Unit)->Prop
 | nil:Sts f sc [] []
 | cons {x:Str}{xs:List Str}{g:Value->Sem Unit}{gs:List (Value->Sem Unit)}:Stores f sc x->(∀ v Q E s,wpAny (model f.c.prog f.c.w) f.A (storeName f.env x v) Q E s->wpAny (model f.c.prog f.c.w) f.A (g v) Q E s)->Sts f sc xs gs->Sts f sc (x :: xs) (g :: gs)
theorem Sts.binds:∀ {xs:List Str},(∀ x∈xs,Stores f sc x)->Sts f sc xs (xs.map fun n=>bindName f.env n)
 | [],_=>.nil
 | x :: xs,h=>.cons (h x (.head _)) (fun v Q E s q=>wpAny_bindName q) (Sts.binds fun y hy=>h y (.tail _ hy))
theorem Sts.stores {xs:List Str}{gs:List (Value->Sem Unit)} (h:Sts f sc xs gs):∀ x∈xs,Stores f sc x:=by
 induction h with
 | nil=>intro x hx;cases hx
 | cons a _ _ ih=>intro x hx;exact (List.mem_cons.mp hx).elim (fun e=>e▸a) (ih x)
theorem store_all {E:Value->Shared->Prop} (F:f.Ok sc d) {xs:List Str}{gs:List (Value->Sem Unit)} (hg:Sts f sc xs gs) :
  ∀ (vs:List Value) (rs:List RV) (ρ:Ab) (s:Shared) (Qc:Unit->Shared->Prop),xs.length=rs.length->Inv f ρ σ s->Fits f ρ s.heap vs rs->(∀ s',Inv f (setAll ρ xs rs) σ s'->Qc () s') ->
   wpAny (model f.c.prog f.c.w) f.A (assignInOrder gs vs) Qc E s:=by
 induction hg with
 | nil =>
  intro vs rs ρ s Qc hl I hf h
  cases rs with
  | cons _ _=>cases hl
  | nil=>exact wpAny_pure (h s I)
 | cons hx hg _ ih =>
  intro vs rs ρ s Qc hl I hf h
  cases hf with
  | nil=>cases hl
  | cons ok fit al r =>
   refine wpAny_bind (wpAny_holding (hg _ _ _ s (I.storeK F hx ok (fit _) fun s' I' K=>?_)))
   exact ih _ _ _ s' Qc (Nat.succ.inj hl) I' (r.step K al) h
noncomputable def OneNew (rs:List RV):Prop:=∀ r∈rs,r.new=true∨r.sl.fp=[]
set_option tactic.hygienic true in
theorem RVs.fits (F:f.Ok sc d) {s₀:Shared} (I₀:Inv f ρ σ s₀) {h:Heap}{vs:List Value}{rs:List RV} (x:RVs f.c f.Z s₀.heap h vs rs) (hn:OneNew rs):Fits f ρ h vs rs:=by
 induction x with
 | nil=>exact .nil
 | cons ok off ap _ ih =>
  rename_i r rs _
  refine .cons ok.1 (fun x=>?_) (fun q hq a ha ha'=>?_) (ih fun r hr=>hn r (.tail _ hr))
  ·rcases hn r (.head _) with k | k
   ·exact SlotFits.fresh F I₀ off (ok.2 k)
   ·exact .nofp k
  ·rcases hn q (.tail _ hq) with k | k
   ·exact ap q hq k a ha' ha
   ·replace ha':=k▸ha';cases ha'
theorem Fits.snoc {h:Heap}{vs:List Value}{rs:List RV}{v:Value}{r:RV} (x:Fits f ρ h vs rs) (ok:r.sl.ok f.c h v) (fit:∀ x,SlotFits f ρ x r) (al:∀ q∈rs,∀ a∈q.sl.fp,a∉r.sl.fp):Fits f ρ h (vs ++ [v]) (rs ++ [r]):=by
 induction x with
 | nil=>exact .cons ok fit (fun q hq=>(List.not_mem_nil hq).elim) .nil
 | cons a b c _ ih =>
  refine .cons a b (fun q hq=>?_) (ih fun q hq=>al q (.tail _ hq))
  rcases List.mem_append.mp hq with hq | hq
  ·exact c q hq
  ·obtain rfl:=List.mem_singleton.mp hq;exact al _ (.head _)
theorem Fits.reverse {h:Heap}{vs:List Value}{rs:List RV} (x:Fits f ρ h vs rs):Fits f ρ h vs.reverse rs.reverse:=by
 induction x with
 | nil=>exact .nil
 | cons a b c _ ih =>
  simp only [List.reverse_cons]
  exact ih.snoc a b fun q hq a' ha ha'=>c q (List.mem_reverse.mp hq) a' ha' ha
theorem Fits.up {h h':Heap}{vs:List Value}{rs:List RV} (x:Fits f ρ h vs rs) (k:Kp h h'):Fits f ρ h' vs rs:=by
 induction x with
 | nil=>exact .nil
 | cons a b c _ ih=>exact .cons (a.mono (TK.of k) fun _ _ o e=>k _ o e) b c ih
theorem RVs.length {c:Cx}{Z:List Addr}{h₀ h:Heap}{vs:List Value}{rs:List RV} (x:RVs c Z h₀ h vs rs):vs.length=rs.length:=by
 induction x with
 | nil=>rfl
 | cons a b _ _ ih=>simp [ih]
theorem set_comm {x y:Str}{r q:RV} (h:x≠y):set (set ρ y q) x r=set (set ρ x r) y q:=by
 funext z
 unfold set
 by_cases e:z=x
 ·subst e;refine (if_pos rfl)▸?_;refine (if_neg h)▸?_;exact (if_pos rfl)▸rfl
 ·refine (if_neg e)▸?_
  by_cases e':z=y
  ·refine (if_pos e')▸?_;exact (if_pos e')▸rfl
  ·refine (if_neg e')▸?_;refine (if_neg e')▸?_;exact (if_neg e)▸rfl
set_option tactic.hygienic true in
theorem swapped_of {env:Env}{ts vs:List Expr}{names:List Str}{k k':Nat}{tp p':Pos} (hc:vs.all (foldedForSure 8)=true∨vs.all (constantsAlone 8)=false)
  (hn:∀ l:List Str,ts.filterMap (fun | .Name id pos=>if env.kindOf id == some .local && pos.line == (ts.head?.map (·.pos.line)).getD 0 then some id else none | _=>none)=l->l.length=ts.length->l=names) :
  swappedStores [.Tuple ts k tp] (.Tuple vs k' p') env=pure none∨swappedStores [.Tuple ts k tp] (.Tuple vs k' p') env=pure (some names):=by
 have hn':=hn _ rfl
 unfold swappedStores
 dsimp only
 split
 ·exact .inl rfl
 ·split
  ·exact .inl rfl
  ·split
   ·exact .inl rfl
   ·rename_i h
    simp only [Bool.or_eq_true,not_or,bne_iff_ne,ne_eq,Decidable.not_not] at h
    split
    ·exact .inl rfl
    ·split
     ·rename_i h1 h2
      rcases hc with hc | hc
      ·exact absurd hc h1
      ·cases hc.symm.trans h2
     ·exact .inr (congrArg (fun n=>pure (some n)) (hn' h.1))
inductive Nms:List Expr->List Str->Prop
 | nil:Nms [] []
 | cons {x:Str}{p:Pos}{ts:List Expr}{ns:List Str}:Nms ts ns->Nms (.Name x p :: ts) (x :: ns)
theorem Nms.sts {ts:List Expr}{ns:List Str} (h:Nms ts ns) (hs:∀ x∈ns,Stores f sc x):Sts f sc ns ((assignEach ts f.env).map (·.2)):=by
 induction h with
 | nil=>exact .nil
 | cons _ ih=>exact .cons (hs _ (.head _)) (fun v Q E s h=>wpAny_assign_Name h) (ih fun x hx=>hs x (.tail _ hx))
theorem Nms.len {ts:List Expr}{ns:List Str} (h:Nms ts ns) (env:Env):(assignEach ts env).length=ns.length:=by
 induction h with
 | nil=>rfl
 | cons _ ih=>exact congrArg Nat.succ ih
theorem Nms.plain {ts:List Expr}{ns:List Str} (h:Nms ts ns) (env:Env):(assignEach ts env).findIdx? (·.1)=none:=by
 induction h with
 | nil=>rfl
 | cons _ ih=>show List.findIdx? _ ((false,_) :: _)=none;rw [List.findIdx?_cons];rw [ih];rfl
theorem Nms.filter {ts:List Expr}{ns:List Str} (h:Nms ts ns) (g:Expr->Option Str) (hg:∀ x p,g (.Name x p)=none∨g (.Name x p)=some x):(ts.filterMap g).length≤ts.length∧((ts.filterMap g).length=ts.length->ts.filterMap g=ns):=by
 induction h with
 | nil=>exact ⟨Nat.le_refl _,fun _=>rfl⟩
 | @cons x p ts ns _ ih =>
  refine List.filterMap_cons▸?_
  rcases hg x p with e | e
  ·refine e▸?_;exact ⟨Nat.le_succ_of_le ih.1,fun e=>absurd e (Nat.ne_of_lt (Nat.lt_succ_of_le ih.1))⟩
  ·refine e▸?_;exact ⟨Nat.succ_le_succ ih.1,fun e=>congrArg (x :: ·) (ih.2 (Nat.succ.inj e))⟩
theorem Nms.swapped {ts:List Expr}{ns:List Str} (h:Nms ts ns) {env:Env}{vs:List Expr}{k k':Nat}{tp p':Pos} (hc:vs.all (foldedForSure 8)=true∨vs.all (constantsAlone 8)=false) :
  swappedStores [.Tuple ts k tp] (.Tuple vs k' p') env=pure none∨swappedStores [.Tuple ts k tp] (.Tuple vs k' p') env=pure (some ns) :=
 swapped_of hc fun l e hl=>e▸(h.filter _ fun x p=>(by dsimp only;split;exact .inr rfl;exact .inl rfl)).2 (e▸hl)
theorem tuple_stores (F:f.Ok sc d) {E:Value->Shared->Prop}{s':Shared}{σ':Box}{names:List Str}{vals:List Value}{rs:List RV}{gs:List (Value->Sem Unit)} (hg:Sts f sc names gs) (hl:names.length=rs.length)
  {Qc:Unit->Shared->Prop} (I:Inv f ρ σ' s') (oks:Fits f ρ s'.heap vals rs) {h':Heap}{tk:Nat}
  (k:Kp s'.heap h') (h:∀ s'',Inv f (setAll ρ names rs) σ' s''->Qc () s''):wpAny (model f.c.prog f.c.w) f.A (assignInOrder gs vals) Qc E { s' with heap:=h',toks:=tk }:=by
 have I':Inv f ρ σ' { s' with heap:=h',toks:=tk }:=I.ext F (Ext.of k) (F.zsame σ' s'.heap h' (fun b o _ e=>k b o e) I.z)
 exact store_all F hg vals rs ρ _ Qc hl I' (oks.up k) h
theorem two_ind {P:List Str->List RV->Prop} (n:P [] []) (c:∀ x xs r rs,rs.length=xs.length->P xs rs->P (x :: xs) (r :: rs)):∀ {xs:List Str}{rs:List RV},rs.length=xs.length->P xs rs:=by
 intro xs
 induction xs with
 | nil=>exact fun h=>List.eq_nil_of_length_eq_zero h▸n
 | cons x xs ih =>
  intro rs h
  cases rs with
  | nil=>exact absurd h.symm (Nat.succ_ne_zero _)
  | cons r rs=>exact c x xs r rs (Nat.succ.inj h) (ih (Nat.succ.inj h))
theorem setAll_snoc {x:Str}{r:RV}{xs:List Str}{rs:List RV}{ρ:Ab} (h:rs.length=xs.length):setAll ρ (xs ++ [x]) (rs ++ [r])=set (setAll ρ xs rs) x r :=
 two_ind (P:=fun xs rs=>∀ ρ,setAll ρ (xs ++ [x]) (rs ++ [r])=set (setAll ρ xs rs) x r) (fun _=>rfl) (fun y _ q _ _ ih ρ=>ih (set ρ y q)) h ρ
theorem setAll_out {x:Str}{r:RV}{xs:List Str}{rs:List RV}{ρ:Ab} (h:rs.length=xs.length) (hx:x∉xs):setAll (set ρ x r) xs rs=set (setAll ρ xs rs) x r :=
 two_ind (P:=fun xs rs=>∀ ρ,x∉xs->setAll (set ρ x r) xs rs=set (setAll ρ xs rs) x r) (fun _ _=>rfl) (fun y ys q qs _ ih ρ hx=>(congrArg (fun ρ=>setAll ρ ys qs) (set_comm (x:=y) (y:=x) fun e=>hx (e▸.head _))).trans (ih _ fun e=>hx (.tail _ e))) h ρ hx
theorem setAll_rev {xs:List Str}{rs:List RV}{ρ:Ab} (hn:xs.Nodup) (h:rs.length=xs.length):setAll ρ xs.reverse rs.reverse=setAll ρ xs rs :=
 two_ind (P:=fun xs rs=>xs.Nodup->setAll ρ xs.reverse rs.reverse=setAll ρ xs rs) (fun _=>rfl) (fun x xs r rs h ih hn=>by
  have hn:=List.nodup_cons.mp hn
  rw [List.reverse_cons];rw [List.reverse_cons];rw [setAll_snoc (by rw [List.length_reverse];rw [List.length_reverse];rw [h])];rw [ih hn.2]
  exact (setAll_out h hn.1).symm) h hn
theorem assign_new (F:f.Ok sc d) {ts:List Expr}{names:List Str}{vs:List Expr}{k k':Nat}{tp p' pos:Pos}
  (he:Sts f sc names ((assignEach ts f.env).map (·.2))) (hlen:(assignEach ts f.env).length=names.length) (hst:(assignEach ts f.env).findIdx? (·.1)=none)
  (hsw:swappedStores [.Tuple ts k tp] (.Tuple vs k' p') f.env=pure none∨swappedStores [.Tuple ts k tp] (.Tuple vs k' p') f.env=pure (some names))
  (hn1:names.length≤1000) (hrev:∀ rs:List RV,rs.length=names.length->setAll ρ names.reverse rs.reverse=setAll ρ names rs)
  (h:EL f ρ σ vs (fun rs σ'=>rs.length=names.length∧OneNew rs∧N (setAll ρ names rs) σ') X):XS f ρ σ (.Assign [.Tuple ts k tp] (.Tuple vs k' p') pos) N R X:=fun s I=>by
 have ev:∀ {Qc:Value->Shared->Prop},(∀ vals s' rs σ',Ext f s s'->Inv f ρ σ' s'->RVs f.c f.Z s.heap s'.heap vals rs->rs.length=names.length->OneNew rs->N (setAll ρ names rs) σ' ->
   Qc (.ref s'.heap.objs.size) { s' with heap:=s'.heap.push { cls:=.type "tuple",data:=.seq vals.toArray } })->wpAny (model f.c.prog f.c.w) f.A (eval (.Tuple vs k' p') f.env) Qc (ExP f X) s:=fun kk =>
  wpAny_Tuple (wpAny_mono (h s p' I) (fun vals s' ⟨rs,σ',e,z,oks,hl,hn,q⟩=>⟨by
   have e1:vals.length=rs.length:=oks.length
   refine e1▸?_;refine hl▸?_
   exact Nat.le_trans hn1 (by decide),kk vals s' rs σ' e (I.ext F e z) oks hl hn q⟩) fun _ _ x=>x)
 rcases hsw with hsw | hsw
 ·refine Assign_Tuple (ev fun vals s' rs σ' ex I' oks hl hn q=>?_) rfl hsw
  refine wpAny_assign_Tuple (items:=vals.toArray) F.handled ⟨_,Heap.get?_push_size _ rfl,rfl,0,rfl⟩ (by refine hlen▸?_;refine hl▸?_;refine oks.length▸?_;simp) hst fun h' hb=>?_
  refine tuple_stores F he hl.symm I' (oks.fits F I hn) (tk:=s'.toks) (fun b o e=>?_) fun s'' I''=>⟨_,σ',I'',q⟩
  exact hb b o (by
   refine (Heap.size_push ..)▸?_;exact Nat.ne_of_lt (Nat.lt_succ_of_lt (Heap.lt_size e))) (Heap.get?_push_of_some _ e)
 ·refine Assign_Tuple_swapped (ev fun vals s' rs σ' ex I' oks hl hn q=>?_) rfl hsw
  have hsz:names.length=vals.toArray.size:=by refine hl▸?_;refine oks.length▸?_;simp
  refine hsz▸?_
  refine wpAny_unpackItems_tuple (items:=vals.toArray) F.handled ⟨_,Heap.get?_push_size _ rfl,rfl,0,rfl⟩ fun h' hb=>?_
  refine tuple_stores F (Sts.binds fun x hx=>he.stores x (List.mem_reverse.mp hx)) (rs:=rs.reverse) (by simp [hl]) I' (by simpa using (oks.fits F I hn).reverse) (tk:=s'.toks) (fun b o e=>?_) fun s'' I''=>⟨_,σ',I'',by refine (hrev rs hl)▸?_;exact q⟩
  exact hb b o (by
   refine (Heap.size_push ..)▸?_;exact Nat.ne_of_lt (Nat.lt_succ_of_lt (Heap.lt_size e))) (Heap.get?_push_of_some _ e)
theorem EL.mono {es:List Expr}{Q Q':List RV->Box->Prop}{X':Prop} (h:EL f ρ σ es Q X) (k:∀ rs σ',Q rs σ'->Q' rs σ') (kx:X->X'):EL f ρ σ es Q' X' :=
 fun s p I=>wpAny_mono (h s p I) (fun v s' hq_=>by obtain ⟨r,σ',e,z,ok,q⟩:=hq_;exact ⟨r,σ',e,z,ok,k r σ' q⟩) fun x s' ⟨a,b⟩=>⟨kx a,b⟩
theorem XS_Tup (F:f.Ok sc d) {ts vs:List Expr}{ns:List Str}{k k':Nat}{tp p' pos:Pos} (hn:Nms ts ns) (hs:∀ x∈ns,Stores f sc x) (hd:ns.Nodup) (hl:ns.length≤1000) (hc:vs.all (foldedForSure 8)=true∨vs.all (constantsAlone 8)=false)
  (h:EL f ρ σ vs (fun rs σ'=>rs.length=ns.length∧OneNew rs∧N (setAll ρ ns rs) σ') X):XS f ρ σ (.Assign [.Tuple ts k tp] (.Tuple vs k' p') pos) N R X :=
 assign_new F (hn.sts hs) (hn.len _) (hn.plain _) (hn.swapped hc) hl (fun rs=>setAll_rev hd) h
set_option tactic.hygienic true in
theorem unpack_im (F:f.Ok sc d) {E:Value->Shared->Prop}{σ':Box}{s':Shared}{v:Value}{ys:List PV}{ts:List Expr}{names:List Str}{k:Nat}{tp:Pos} (I:Inv f ρ σ' s') (hv:Im s'.heap v (.tup ys)) (hl:names.length=ys.length)
  (he:Sts f sc names ((assignEach ts f.env).map (·.2))) (hlen:(assignEach ts f.env).length=names.length) (hst:(assignEach ts f.env).findIdx? (·.1)=none) {Qc:Unit->Shared->Prop}
  (h:∀ s'',Inv f (setAll ρ names (ys.map RV.im)) σ' s''->Qc () s''):wpAny (model f.c.prog f.c.w) f.A (assign (.Tuple ts k tp) f.env v) Qc E s':=by
 cases hv with
 | tup ho hc hd r =>
 rename_i a o vs n
 refine wpAny_assign_Tuple (items:=vs) F.handled ⟨o,ho,hc,n,hd⟩ (by have:=r.length;simp at this;lia) hst fun h' hb=>?_
 have kk:Kp s'.heap h':=fun b o e=>hb b o (Nat.ne_of_lt (Heap.lt_size e)) e
 have I':Inv f ρ σ' { s' with heap:=h' }:=I.ext F (Ext.of (tk:=s'.toks) kk) (F.zsame σ' s'.heap h' (fun b o _ e=>kk b o e) I.z)
 refine store_all F he vs.toList (ys.map RV.im) ρ _ Qc (by simp [hl]) I' ?_ h
 have go:∀ {vs:List Value}{ys:List PV},Ims h' vs ys->Fits f ρ h' vs (ys.map RV.im):=by
  intro vs ys r
  induction ys generalizing vs with
  | nil=>obtain rfl:=Ims.toNil r;exact .nil
  | cons y ys ih =>
   cases r with
   | cons a r=>exact .cons a (fun x=>.nofp rfl) (fun q _ a ha=>(List.not_mem_nil ha).elim) (ih r)
 exact go (r.mono (TK.of kk))
theorem XS_Unp (F:f.Ok sc d) {ts:List Expr}{ns:List Str}{e:Expr}{k:Nat}{tp pos:Pos} (hn:Nms ts ns) (hs:∀ x∈ns,Stores f sc x)
  (h:EV f ρ σ e (fun r σ'=>∃ ys,r.sl=.val (.tup ys)∧ns.length=ys.length∧N (setAll ρ ns (ys.map RV.im)) σ') X) (hw:swappedStores [.Tuple ts k tp] e f.env=pure none) (hsw:swapsWithSole [.Tuple ts k tp] e pos.line f.env=pure false):XS f ρ σ (.Assign [.Tuple ts k tp] e pos) N R X:=fun s I =>
 Assign_Tuple (h.use F I (fun _ _ x=>x) fun v s' r σ' ex I' ok off ⟨ys,hr,hl,q⟩=>by
  have o1:=ok.1
  replace o1:=hr▸o1
  exact unpack_im F I' o1 hl (hn.sts hs) (hn.len _) (hn.plain _) fun s'' I''=>⟨_,σ',I'',q⟩) hsw hw
end
end
section
section
variable {f:Fx}{sc:Scope}{d:Nat}{ρ:Ab}{σ:Box}{s:Shared}{Q:RV->Box->Prop}{X:Prop}{N:Ab->Box->Prop}{R:RV->Box->Prop}
theorem blt_name (F:f.Ok sc d) {x:Str}{v:Value} (hx:x∈bltNames) (hv:bootBuiltins x=some v):GName f.c x v:=.inr ⟨F.cx.free x hx,by refine (F.cx.hb x (fun e=>by subst e;revert hx;decide))▸?_;exact hv⟩
theorem sizeLine_ge {n:Nat} (h:n≤1000000):n≤sizeLine:=Nat.le_trans h (by decide)
theorem fitsLen {n:Nat} (h:n≤1000000):(n:Int) < 2 ^ 63:=by lia
theorem new_rv {c:Cx}{s:Shared}{h':Heap}{xs:List PV} (hl:ListAt h' s.heap.objs.size xs):RV.ok c s.heap h' (.ref s.heap.objs.size) ⟨.lst s.heap.objs.size xs,true⟩ :=
 ⟨⟨rfl,hl⟩,fun _ a ha=>by obtain rfl:=List.mem_singleton.mp ha;exact get_size_none _⟩
noncomputable def BltQ (id:String) (rs:List RV) (K:RV->Prop):Prop:=∀ (c:Cx) (A:Around) (E Q:Value->Shared->Prop) (s:Shared) (vs:List Value),A.handled=none->Args c s.heap vs (rs.map (·.sl))->Giv c s K Q->wpAny (model c.prog c.w) A (call (.builtin id) vs) Q E s
noncomputable def TypQ (id:String) (rs:List RV) (K:RV->Prop):Prop:=∀ (c:Cx) (A:Around) (E Q:Value->Shared->Prop) (s:Shared) (vs:List Value),Args c s.heap vs (rs.map (·.sl))->Giv c s K Q->wpAny (model c.prog c.w) A (call (.type id) vs) Q E s
section
variable {R:RV->Prop}{a b:Int}{xs:List PV}{n1 n2:Bool}
theorem Args.one {c:Cx}{h:Heap}{vs:List Value}{sl:Slot} (x:Args c h vs [sl]):∃ v,vs=[v]∧sl.ok c h v:=by cases x with | cons a r=>cases r;exact ⟨_,rfl,a⟩
theorem Args.pair {c:Cx}{h:Heap}{vs:List Value}{sl sl':Slot} (x:Args c h vs [sl,sl']):∃ v v',vs=[v,v']∧sl.ok c h v∧sl'.ok c h v':=by
 cases x with | cons a r =>
  obtain ⟨v,rfl,b⟩:=r.one
  exact ⟨_,_,rfl,a,b⟩
theorem Im.seq {h:Heap}{v:Value}{xs:List PV} (x:Im h v (.tup xs)):∃ a o vs n,v=.ref a∧h.get? a=some o∧o.cls=.type "tuple"∧o.data=.seq vs n∧Ims h vs.toList xs∧vs.size=xs.length:=by
 cases x with | tup ho hc hd hi=>exact ⟨_,_,_,_,rfl,ho,hc,hd,hi,by refine hi.length▸?_;exact Array.length_toList▸rfl⟩
theorem ListAt.seq {h:Heap}{a:Addr}{xs:List PV} (x:ListAt h a xs):∃ o vs n,h.get? a=some o∧o.cls=.type "list"∧o.data=.seq vs n∧Ims h vs.toList xs∧vs.size=xs.length:=by
 obtain ⟨⟨vs,⟨o,ho,hc,n,hd⟩,hi⟩,_⟩:=x
 exact ⟨o,vs,n,ho,hc,hd,hi,by refine hi.length▸?_;exact Array.length_toList▸rfl⟩
noncomputable def absI (a:Int):Int:=if a < 0 then -a else a
theorem t_abs (k:R (.im (.int (absI a)))):BltQ "abs" [⟨.val (.int a),n1⟩] R:=fun _ _ _ _ _ _ _ o h=>by
 obtain ⟨v,rfl,b⟩:=o.one
 obtain ⟨_,rfl⟩:=Im.toInt b
 refine PyProof.Rows.call_abs_int fun u tk=>?_
 exact h.imS k (by unfold absI;split <;> exact .int _ _)
theorem t_lenT (h1:xs.length≤1000000) (k:R (.im (.int xs.length))):BltQ "len" [⟨.val (.tup xs),n1⟩] R:=fun _ _ _ _ _ _ _ o h=>by
 obtain ⟨v,rfl,b⟩:=o.one
 obtain ⟨_,ob,_,_,rfl,ho,hc,hd,_,hl⟩:=Im.seq b
 exact PyProof.Rows.len_tuple ⟨_,ho,hc,_,hd⟩ (by refine hl▸?_;exact fitsLen h1) (h.imS k (by refine hl▸?_;exact .int _ _))
theorem t_lenL {u:Addr} (h1:xs.length≤1000000) (k:R (.im (.int xs.length))):BltQ "len" [⟨.lst u xs,n1⟩] R:=fun _ _ _ _ _ _ _ o h=>by
 obtain ⟨v,rfl,rfl,b⟩:=o.one
 obtain ⟨ob,_,_,ho,hc,hd,_,hl⟩:=b.seq
 exact PySem.Calls.call_len_list ⟨ob,ho,hc,_,hd⟩ (by refine hl▸?_;exact fitsLen h1) (h.imS k (by refine hl▸?_;exact .int _ _))
theorem t_max (k:R (.im (.int (if b > a then b else a)))):BltQ "max" [⟨.val (.int a),n1⟩,⟨.val (.int b),n2⟩] R:=fun _ _ _ _ _ _ hh o h=>by
 obtain ⟨v,v',rfl,o1,o2⟩:=o.pair
 obtain ⟨_,rfl⟩:=Im.toInt o1;obtain ⟨_,rfl⟩:=Im.toInt o2
 exact max_two_ints hh fun h' tk kp=>h.im k kp (by split <;> exact .int _ _)
theorem t_min (k:R (.im (.int (if b < a then b else a)))):BltQ "min" [⟨.val (.int a),n1⟩,⟨.val (.int b),n2⟩] R:=fun _ _ _ _ _ _ hh o h=>by
 obtain ⟨v,v',rfl,o1,o2⟩:=o.pair
 obtain ⟨_,rfl⟩:=Im.toInt o1;obtain ⟨_,rfl⟩:=Im.toInt o2
 exact min_two_ints hh fun h' tk kp=>h.im k kp (by split <;> exact .int _ _)
theorem list_of {c:Cx}{A:Around}{E Q:Value->Shared->Prop}{s:Shared}{a:Addr}{o:Obj}{vs:Array Value}{n:Nat} (hc:o.cls=.type "list"∨o.cls=.type "tuple") (ho:s.heap.get? a=some o) (hd:o.data=.seq vs n) (hi:Ims s.heap vs.toList xs) (hl:vs.size=xs.length) (h1:xs.length≤1000000) (k:∀ a,R ⟨.lst a xs,true⟩) (h:Giv c s R Q) :
  wpAny (model c.prog c.w) A (call (.type "list") [.ref a]) Q E s:=by
 have go:∀ n,n="list"∨n="tuple"->o.cls=.type n->wpAny (model c.prog c.w) A (call (.type "list") [.ref a]) Q E s:=fun n hn hc =>
  call_list_seq _ hn ho hc hd (fun h' c' kp hnew=>h ⟨.lst s.heap.objs.size _,true⟩ _ h' s.toks (k _) kp (new_rv ⟨⟨_,⟨_,hnew,rfl,_,rfl⟩,hi.mono (TK.of kp)⟩,fun o e=>by cases hnew.symm.trans e;exact ⟨rfl,rfl⟩⟩) (.inr rfl)) (by refine hl▸?_;exact sizeLine_ge h1)
 exact hc.elim (go _ (.inl rfl)) (go _ (.inr rfl))
theorem t_listT (h1:xs.length≤1000000) (k:∀ a,R ⟨.lst a xs,true⟩):TypQ "list" [⟨.val (.tup xs),n1⟩] R:=fun _ _ _ _ _ _ o h=>by
 obtain ⟨v,rfl,b⟩:=o.one
 obtain ⟨_,ob,_,_,rfl,ho,hc,hd,hi,hl⟩:=Im.seq b
 exact list_of (.inr hc) ho hd hi hl h1 k h
theorem t_listL {u:Addr} (h1:xs.length≤1000000) (k:∀ a,R ⟨.lst a xs,true⟩):TypQ "list" [⟨.lst u xs,n1⟩] R:=fun _ _ _ _ _ _ o h=>by
 obtain ⟨v,rfl,rfl,b⟩:=o.one
 obtain ⟨ob,_,_,ho,hc,hd,hi,hl⟩:=b.seq
 exact list_of (.inl hc) ho hd hi hl h1 k h
theorem t_tuple {u:Addr} (h1:xs.length≤1000000) (k:R (.im (.tup xs))):TypQ "tuple" [⟨.lst u xs,n1⟩] R:=fun _ _ _ _ s _ o h=>by
 obtain ⟨v,rfl,rfl,b⟩:=o.one
 obtain ⟨ob,_,_,ho,hc,hd,hi,hl⟩:=b.seq
 refine call_tuple_list ⟨ob,ho,hc,_,hd⟩ (fun h' kp=>h.im (tk:=s.toks) k (fun b o e=>Heap.get?_push_of_some _ (kp b o e)) ?_) (by refine hl▸?_;exact sizeLine_ge h1)
 exact .tup (Heap.get?_push_size _ rfl) rfl rfl (hi.mono (TK.of fun b o e=>Heap.get?_push_of_some _ (kp b o e)))
end
theorem giv_post (F:f.Ok sc d) {s₀ s₁:Shared}{σ':Box} (e:Ext f s₀ s₁) (z:f.zok σ' s₁.heap) {K:RV->Prop} (k:∀ r,K r->Q r σ'):Giv f.c s₁ K (Post f s₀ Q):=post_giv F e z k
theorem EV_Blt (F:f.Ok sc d) {g:Str}{id:String}{p pos:Pos}{e:Expr}{es:List Expr} (hx:sc.names.lookup g=some .globalImplicit) (hg:g∈bltNames) (hv:bootBuiltins g=some (.builtin id))
  (h:EL f ρ σ (e :: es) (fun rs σ'=>BltQ id rs fun r=>Q r σ') X)
  (he:starEach (e :: es) f.env=(false,eval e f.env) :: starEach es f.env:=by rfl) (hp:(backTo pos (starEach es f.env)).any (·.1)=false:=by rfl) (hd:(g == ("__debug__":Str))=false:=by decide):EV f ρ σ (.Call (.Name g p) (e :: es) [] pos) Q X:=fun s I=>by
 refine wpAny_Call_Name_kw (wp_GName F I hx (blt_name F hg hv) ?_ hd)
 refine PyProof.Rows.callWith_builtin1 (wpAny_mono (h s pos I) (fun vs s' hq_=>?_) fun _ _ x=>x) he hp
 obtain ⟨rs,σ',ex,z,oks,q⟩:=hq_
 exact q _ _ _ _ _ _ F.handled oks.args (giv_post F ex z fun _ k=>k)
theorem EV_Typ (F:f.Ok sc d) {g:Str}{id:String}{p pos:Pos}{e:Expr}{es:List Expr} (hx:sc.names.lookup g=some .globalImplicit) (hg:g∈bltNames) (hv:bootBuiltins g=some (.type id))
  (h:EL f ρ σ (e :: es) (fun rs σ'=>TypQ id rs fun r=>Q r σ') X)
  (he:starEach (e :: es) f.env=(false,eval e f.env) :: starEach es f.env:=by rfl) (hp:(backTo pos (starEach es f.env)).any (·.1)=false:=by rfl) (hd:(g == ("__debug__":Str))=false:=by decide):EV f ρ σ (.Call (.Name g p) (e :: es) [] pos) Q X:=fun s I=>by
 refine wpAny_Call_Name_kw (wp_GName F I hx (blt_name F hg hv) ?_ hd)
 refine PyProof.Rows.callWith_type1 (wpAny_mono (h s pos I) (fun vs s' hq_=>?_) fun _ _ x=>x) he hp
 obtain ⟨rs,σ',ex,z,oks,q⟩:=hq_
 exact q _ _ _ _ _ _ oks.args (giv_post F ex z fun _ k=>k)
theorem wp_type1 (F:f.Ok sc d) {g:Str}{id:String}{p pos:Pos}{e:Expr}{K:RV->Box->Prop}{P:Value->Shared->Prop} (hx:sc.names.lookup g=some .globalImplicit) (hg:g∈bltNames) (hv:bootBuiltins g=some (.type id)) (hd:(g == ("__debug__":Str))=false)
  (h:EV f ρ σ e K X) (he:starEach [e] f.env=(false,eval e f.env) :: starEach [] f.env) (I:Inv f ρ σ s) (k:∀ v s₁ r σ',Ext f s s₁->Inv f ρ σ' s₁->r.ok f.c s.heap s₁.heap v->K r σ'->wpAny (model f.c.prog f.c.w) f.A (call (.type id) [v]) P (ExP f X) s₁) :
  wpAny (model f.c.prog f.c.w) f.A (eval (.Call (.Name g p) [e] [] pos) f.env) P (ExP f X) s :=
 wpAny_Call_Name_kw (wp_GName F I hx (blt_name F hg hv) (PyProof.Rows.callWith_type1 (wpAny_items_cons (h.use F I (fun _ _ x=>x) fun v s₁ r σ' ex I' ok _ q=>wpAny_items_nil (k v s₁ r σ' ex I' ok q)) he) he rfl) hd)
theorem wp_blt1 (F:f.Ok sc d) {g:Str}{id:String}{p pos:Pos}{e:Expr}{K:RV->Box->Prop}{P:Value->Shared->Prop} (hx:sc.names.lookup g=some .globalImplicit) (hg:g∈bltNames) (hv:bootBuiltins g=some (.builtin id)) (hd:(g == ("__debug__":Str))=false)
  (h:EV f ρ σ e K X) (he:starEach [e] f.env=(false,eval e f.env) :: starEach [] f.env) (I:Inv f ρ σ s) (k:∀ v s₁ r σ',Ext f s s₁->Inv f ρ σ' s₁->r.ok f.c s.heap s₁.heap v->K r σ'->wpAny (model f.c.prog f.c.w) f.A (call (.builtin id) [v]) P (ExP f X) s₁) :
  wpAny (model f.c.prog f.c.w) f.A (eval (.Call (.Name g p) [e] [] pos) f.env) P (ExP f X) s :=
 wpAny_Call_Name_kw (wp_GName F I hx (blt_name F hg hv) (PyProof.Rows.callWith_builtin1 (wpAny_items_cons (h.use F I (fun _ _ x=>x) fun v s₁ r σ' ex I' ok _ q=>wpAny_items_nil (k v s₁ r σ' ex I' ok q)) he) he rfl) hd)
theorem blt_len:bootBuiltins "len"=some (.builtin "len"):=by decide +kernel
theorem blt_range:bootBuiltins "range"=some (.type "range"):=by decide +kernel
theorem blt_dict:bootBuiltins "dict"=some (.type "dict"):=by decide +kernel
end
end
section
section
variable {f:Fx}{sc:Scope}{d:Nat}{ρ:Ab}{σ:Box}{s:Shared}{Q:RV->Box->Prop}{X:Prop}{N:Ab->Box->Prop}{R:RV->Box->Prop}
end
end
section
structure Drw (f:Fx) (I:Addr) (ws:List Addr) (tgt:Expr) (fp:List Addr) (n:Nat) (xs:List PV) (T:Heap) (St:Nat->Heap->Prop) (Mid:Nat->Value->Heap->Prop):Prop where
 frame:∀ i h h',St i h->(∀ b∈fp,∀ o,h.get? b=some o->h'.get? b=some o)->St i h'
 item:∀ i (s:Shared) (Q:Option Value->Shared->Prop) (E:Value->Shared->Prop),i < n->St i s.heap ->
  (∀ v h' tk,Mid i v h'->(KpZ ws s.heap h')->Q (some v) { s with heap:=h',toks:=tk })->wpAny (model f.c.prog f.c.w) f.A (pyNext (.ref I)) Q E s
 go:∀ i v (s:Shared) (Q:Unit->Shared->Prop) (E:Value->Shared->Prop),i < n->Mid i v s.heap->TK T s.heap ->
  (∀ h' y,xs[i]?=some y->Im h' v y->St (i+1) h'->(KpZ ws s.heap h')->Q () { s with heap:=h' })->wpAny (model f.c.prog f.c.w) f.A (letOwnedTupleGo tgt (.ref I) v) Q E s
 done:∀ (s:Shared) (Q:Option Value->Shared->Prop) (E:Value->Shared->Prop),St n s.heap ->
  (∀ h' tk,(KpZ ws s.heap h')->Q none { s with heap:=h',toks:=tk })->wpAny (model f.c.prog f.c.w) f.A (pyNext (.ref I)) Q E s
 self:∀ i (s:Shared) (Q:Value->Shared->Prop) (E:Value->Shared->Prop),St i s.heap->Q (.ref I) s->wpAny (model f.c.prog f.c.w) f.A (pyIter (.ref I)) Q E s
structure SrcT (f:Fx) (I:Addr) (ws:List Addr) (P:List (Addr×Obj)) (tgt:Expr) (xs:List PV) (St:Nat->Heap->Prop) (Mid:Nat->Value->Heap->Prop) (h:Heap):Prop where
 W:Drw f I ws tgt (ws ++ P.map (·.1)) xs.length xs h St Mid
 st:St 0 h
 it:∀ i h,St i h->∀ b∈ws,∃ o vs,h.get? b=some o∧o.cls≠.type "list"∧o.cls≠.type "dict"∧o.data=.fields vs
 pins:∀ p∈P,h.get? p.1=some p.2
 new:∀ b∈ws,f.H.heap.get? b=none
 nz:∀ b∈ws,b∉f.Z
 nP:∀ p∈P,p.1∉ws∧p.1∉f.Z∧p.1≠f.env.locals∧(∀ q∈f.env.cells,q.2≠p.1)
 nK:∀ p∈f.K,p.1∉ws
inductive SPostT (f:Fx) (M:Bool) (tgt:Expr) (ρ:Ab) (s:Shared) (Q:List PV->Box->Prop) (it:Value) (s₂:Shared):Prop
 | mk (I:Addr) (ws:List Addr) (P:List (Addr×Obj)) (xs:List PV) (St:Nat->Heap->Prop) (Mid:Nat->Value->Heap->Prop) (σ':Box):it=.ref I->Ext f s s₂->f.zok σ' s₂.heap->SrcT f I ws P tgt xs St Mid s₂.heap ->
  (∀ y r,ρ y=some r->(∀ b∈ws,b∉r.sl.fp)∧(r.new=true->M=true->∀ p∈P,p.1∉r.sl.fp))->(∀ b∈ws,s.heap.get? b=none)->Q xs σ'->SPostT f M tgt ρ s Q it s₂
section
variable {f:Fx}{sc:Scope}{d:Nat}{ρ:Ab}{σ:Box}{s:Shared}{Q:RV->Box->Prop}{X:Prop}{N:Ab->Box->Prop}{R:RV->Box->Prop}
theorem SPost.T {M:Bool}{Q:List PV->Box->Prop}{it:Value}{s₂:Shared}{x:Str}{px:Pos}{σ₀:Box} (F:f.Ok sc d) (I₀:Inv f ρ σ₀ s) (h:SPost f M ρ s Q it s₂):SPostT f M (.Name x px) ρ s Q it s₂:=by
 obtain ⟨I,P,n,Pt,St,xs,σ',rfl,ex,z,S,hn,hPt,hm,hnew,q⟩:=h
 subst hn
 have one:∀ {p:Addr->Prop},p I->∀ b∈[I],p b:=fun {p} h b hb=>by obtain rfl:=List.mem_singleton.mp hb;exact h
 refine ⟨I,[I],P,xs,St,fun i v h=>Pt i v∧St (i+1) h,σ',rfl,ex,z,⟨⟨S.W.frame,fun i s Q E hi hs k=>S.W.item i s Q E hi hs fun v h' tk h1 h2 h3=>k v h' tk ⟨h1,h2⟩ h3, fun i v s Q E hi hm ht k=>?_,S.W.done,S.W.self⟩,S.st,fun i h hs=>one (S.it i h hs),S.pins,one S.new,one S.nz,fun p hp=>⟨by simpa using (S.nP p hp).1,(S.nP p hp).2⟩,fun p hp=>by simpa using S.nK p hp⟩,fun y r hy=>?_,one hnew,q⟩
 ·obtain ⟨y,h1,h2⟩:=hPt i v s.heap hi hm.1 ht
  exact wpAny_pure (k s.heap y h1 h2 hm.2 fun _ _ _ e=>e)
 ·refine ⟨one fun ha=>?_,fun hr=>(hm y r hy hr).2⟩
  have I₂:=I₀.ext F ex z
  obtain ⟨m,_,hv⟩:=I₂.vars
  obtain ⟨v,_,ok⟩:=hv y r hy
  obtain ⟨o,ho,hc⟩:=ok.cls I ha
  obtain ⟨o',vs,h1,h2,h3,_⟩:=S.it 0 s₂.heap S.st
  cases ho.symm.trans h1
  rcases hc with hc | hc
  ·exact h2 hc
  ·exact h3 hc
inductive Tgt (f:Fx) (sc:Scope):Expr->List Str->(PV->List PV->Prop)->Prop
 | name {x:Str}{p:Pos}:Stores f sc x->Tgt f sc (.Name x p) [x] (fun y ys=>ys=[y])
 | pair {x y:Str}{p q tp:Pos}{k:Nat}:Stores f sc x->Stores f sc y->Tgt f sc (.Tuple [.Name x p,.Name y q] k tp) [x,y] (fun v ys=>∃ a b,v=.tup [a,b]∧ys=[a,b])
theorem Tgt.assign {E:Value->Shared->Prop} (F:f.Ok sc d) {tgt:Expr}{names:List Str}{sp:PV->List PV->Prop} (h:Tgt f sc tgt names sp) (I:Inv f ρ σ s) {v:Value}{y:PV}{ys:List PV} (hv:Im s.heap v y) (hs:sp y ys)
  {Qc:Unit->Shared->Prop} (k:∀ s',Inv f (setAll ρ names (ys.map RV.im)) σ s'->Qc () s'):wpAny (model f.c.prog f.c.w) f.A (assign tgt f.env v) Qc E s:=by
 cases h with
 | name hx =>
  subst hs
  exact wpAny_assign_Name (I.store F hx (sl:=.im y) hv .val fun s' I'=>k s' I')
 | pair hx hy =>
  obtain ⟨a,b,rfl,rfl⟩:=hs
  exact unpack_im F I hv rfl ((Nms.cons (.cons .nil)).sts fun z hz=>by
   cases hz with
   | head=>exact hx
   | tail _ hz=>cases hz with
    | head=>exact hy
    | tail _ hz=>nomatch hz) rfl rfl k
theorem Inv.forget {ρ₂:Ab} (V:Inv f ρ₂ σ s) (h:∀ x r,ρ x=some r->ρ₂ x=some r):Inv f ρ σ s:=by
 refine ⟨V.same,V.keep,V.z,V.ff,?_,V.cells,V.pin,V.tup,fun x r a hx=>V.off x r a (h x r hx),fun x r a hx hr ha=>?_⟩
 ·obtain ⟨m,hn,hv⟩:=V.vars
  exact ⟨m,hn,fun x r hx=>hv x r (h x r hx)⟩
 ·obtain ⟨m1,m2,m3⟩:=V.mine x r a (h x r hx) hr ha
  exact ⟨m1,m2,fun y q hne hy=>m3 y q hne (h y q hy)⟩
theorem Inv.alter {T:Heap}{a:Addr}{o₀:Obj}{P:List (Addr×Obj)}{h':Heap}{tk:Nat} (F:f.Ok sc d) (V:Inv (f.pin T ((a,o₀) :: P)) ρ σ s) (hnew:f.H.heap.get? a=none) (hz:a∉f.Z) (hK:∀ p∈f.K,p.1≠a) (hP:∀ p∈P,p.1≠a)
  (hfp:∀ y r,ρ y=some r->a∉r.sl.fp) (hL:f.env.locals≠a) (hC:∀ q∈f.env.cells,q.2≠a) (hfr:∀ e∈f.frs,e.frame≠some a) (h₀:o₀.cls=.type "tuple"->∀ vs n,o₀.data≠.seq vs n) (k:KpN a s.heap h') :
  Inv (f.pin T P) ρ σ { s with heap:=h',toks:=tk }:=by
 have hI:s.heap.get? a=some o₀:=V.pin (a,o₀) (.head _)
 have tk':TK s.heap h':=fun b o vs n e c dd=>⟨o,k b o (by rintro rfl;cases hI.symm.trans e;exact h₀ c _ _ dd) e,c,dd⟩
 obtain ⟨m,hn,hv⟩:=V.vars
 refine ⟨?_,fun b o hb e=>k b o (by rintro rfl;exact nob (show f.H.heap.get? b=none from hnew) e) (V.keep b o hb e),F.zsame σ s.heap h' (fun b o hb e=>k b o (by rintro rfl;exact hz hb) e) V.z,?_,⟨m,hn.at' fun o e=>k _ o hL e,fun y r hy=>?_⟩,?_,?_,V.tup.trans tk',V.off,?_⟩
 ·obtain ⟨h₁,tk₁,e⟩:=V.same
  exact ⟨h',_,by rw [e]⟩
 ·exact ff_of (fun en he b o hf e hd=>⟨o,k b o (by rintro rfl;exact hfr en he hf) e,hd⟩) V.ff
 ·obtain ⟨u,h1,h2⟩:=hv y r hy
  exact ⟨u,h1.at fun p hp o e=>k _ o (hC p hp) e,h2.mono tk' fun b hb o e=>k b o (by rintro rfl;exact hfp y r hy hb) e⟩
 ·intro p hp
  obtain ⟨u,hu⟩:=V.cells p hp
  exact ⟨u,IsCell.at' hu fun o e=>k _ o (hC p hp) e⟩
 ·intro p hp
  refine k _ _ ?_ (V.pin p (.tail _ hp))
  rcases List.mem_append.mp hp with hp | hp
  ·exact hP p hp
  ·exact hK p hp
 ·intro y r b hy hr hb
  obtain ⟨m1,m2,m3⟩:=V.mine y r b hy hr hb
  exact ⟨m1,fun p hp=>m2 p (.tail _ hp),m3⟩
theorem Inv.moveW {T:Heap}{K K':List (Addr×Obj)}{ws:List Addr}{h':Heap}{tk:Nat} (F:f.Ok sc d) (V:Inv (f.pin T K) ρ σ s) (hnew:∀ b∈ws,f.H.heap.get? b=none) (hz:∀ b∈ws,b∉f.Z) (hfK:∀ p∈f.K,p.1∉ws)
  (h₀:∀ b∈ws,∃ o vs,s.heap.get? b=some o∧o.cls≠.type "list"∧o.cls≠.type "dict"∧o.data=.fields vs) (k:KpZ ws s.heap h')
  (hK':∀ p∈K',h'.get? p.1=some p.2) (hsub:∀ p∈K',p.1∈ws∨p∈K):Inv (f.pin T K') ρ σ { s with heap:=h',toks:=tk }:=by
 have nf:∀ b o,s.heap.get? b=some o->(∀ vs,o.data≠.fields vs)->b∉ws:=fun b o e n hb=>by
  obtain ⟨o',vs,h1,_,_,h4⟩:=h₀ b hb
  cases e.symm.trans h1;exact n vs h4
 have tk':TK s.heap h':=fun b o vs n e c dd=>⟨o,k b o (nf b o e fun vs q=>by cases dd.symm.trans q) e,c,dd⟩
 obtain ⟨m,hn,hv⟩:=V.vars
 have hL:f.env.locals∉ws:=by
  obtain ⟨o,_,_,ho,hd,_⟩:=id hn
  exact nf _ o ho fun vs q=>by cases hd.symm.trans q
 have hC:∀ p∈f.env.cells,p.2∉ws:=fun p hp=>by
  obtain ⟨u,o,ho,hd⟩:=V.cells p hp
  exact nf _ o ho fun vs q=>by cases hd.symm.trans q
 have hS:∀ y r,ρ y=some r->∀ a∈r.sl.fp,a∉ws:=fun y r hy a ha hb=>by
  obtain ⟨u,_,h2⟩:=hv y r hy
  obtain ⟨o',ho',hc⟩:=h2.cls a ha
  obtain ⟨o,vs,h1,h3,h4,_⟩:=h₀ a hb
  cases ho'.symm.trans h1
  rcases hc with hc | hc
  ·exact h3 hc
  ·exact h4 hc
 refine ⟨?_,fun b o hb e=>k b o (fun hw=>by exact nob (show f.H.heap.get? b=none from hnew b hw) e) (V.keep b o hb e),F.zsame σ s.heap h' (fun b o hb e=>k b o (fun hw=>hz b hw hb) e) V.z,?_,⟨m,hn.at' fun o e=>k _ o hL e,fun y r hy=>?_⟩,?_,?_,V.tup.trans tk',V.off,?_⟩
 ·obtain ⟨h₁,tk₁,e⟩:=V.same
  exact ⟨h',_,by rw [e]⟩
 ·refine ff_of (fun en he b o hf e hd=>⟨o,k b o (nf b o e hd) e,hd⟩) V.ff
 ·obtain ⟨u,h1,h2⟩:=hv y r hy
  exact ⟨u,h1.at fun p hp o e=>k _ o (hC p hp) e,h2.mono tk' fun a ha o e=>k a o (hS y r hy a ha) e⟩
 ·intro p hp
  obtain ⟨u,hu⟩:=V.cells p hp
  exact ⟨u,IsCell.at' hu fun o e=>k _ o (hC p hp) e⟩
 ·intro p hp
  rcases List.mem_append.mp hp with hp | hp
  ·exact hK' p hp
  ·exact k _ _ (hfK p hp) (V.pin p (List.mem_append_right _ hp))
 ·intro y r a hy hr ha
  obtain ⟨m1,m2,m3⟩:=V.mine y r a hy hr ha
  refine ⟨m1,fun p hp=>?_,m3⟩
  rcases List.mem_append.mp hp with hp | hp
  ·rcases hsub p hp with hw | hq
   ·exact fun e=>hS y r hy a ha (e▸hw)
   ·exact m2 p (List.mem_append_left _ hq)
  ·exact m2 p (List.mem_append_right _ hp)
noncomputable def wpins (ws:List Addr) (h:Heap):List (Addr×Obj):=ws.filterMap fun b=>(h.get? b).map fun o=>(b,o)
theorem wpins_at {ws:List Addr}{h:Heap}:∀ p∈wpins ws h,p.1∈ws∧h.get? p.1=some p.2:=fun p hp=>by
 obtain ⟨b,hb,e⟩:=List.mem_filterMap.mp hp
 obtain ⟨o,ho,rfl⟩:=Option.map_eq_some_iff.mp e
 exact ⟨hb,ho⟩
theorem wpins_mem {ws:List Addr}{h:Heap}{b:Addr}{o:Obj} (hb:b∈ws) (ho:h.get? b=some o):(b,o)∈wpins ws h:=List.mem_filterMap.mpr ⟨b,hb,by refine ho▸?_;rfl⟩
end
end
section
inductive HeldI (c:Cx) (env:Env) (Z:List Addr) (frs:List Env) (H:Shared) (x:Value) (s':Shared):Prop
 | mk (e L:Addr):x=.ref e->env.frame=some L->ExcAt c Z frs H e (some (rawInt L)) s'->HeldI c env Z frs H x s'
noncomputable def Held (g:Fx) (x:Value) (s':Shared):Prop:=HeldI g.c g.env g.Z g.frs g.H x s'∧∃ m,s'.heap.Ns g.env.locals m
section
variable {f:Fx}{sc:Scope}{d:Nat}{ρ:Ab}{σ:Box}{s:Shared}{X:Prop}
theorem noteFrame_same {e:Value}{env env':Env} (h:env.frame=env'.frame):noteFrame e env=noteFrame e env':=by
 unfold noteFrame PySem.frameOf
 exact h▸rfl
theorem note_exc {E:Value->Shared->Prop} (F:f.Ok sc d) {x:Value}{Q:Unit->Shared->Prop} (h:Exc f x s) (hz:f.env.locals∉f.Z) (k:∀ s',Held f x s'->Q () s'):wpAny (model f.c.prog f.c.w) f.A (noteFrame x f.env) Q E s:=by
 obtain ⟨⟨e,mk,rfl,q,hmk⟩,m,hm⟩:=h
 obtain ⟨⟨hh,tk,rfl⟩,hb,hn,hff,hfl,hkd⟩:=q
 obtain ⟨fenv,outer,L,hfrs,hf,hf',hkk⟩:=F.fr
 have hfr:=F.frames
 rw [hfrs] at hfr hff
 refine wp_eq (noteFrame_same (hf'.trans hf.symm)) ?_
 have fin:∀ a0 h',Heap.NotedW f.c.base (fenv :: outer) e (.ref f.c.C) a0 (rawInt L) hh h'->Q () { f.H with heap:=h',toks:=tk }:=fun a0 h' ⟨x1,x2,x3,x4⟩=>by
  have kd2:KD f.Z hh h':=.of_left x4
  refine k _ ⟨⟨e,L,rfl,hf',⟨⟨h',tk,rfl⟩,x1,hn,by rw [hfrs];exact x2,Fl2.ofW x3,hkd.trans kd2⟩⟩,m,kd2.ns hz hm⟩
 rcases hmk with rfl | rfl | ⟨L',hL',rfl⟩
 ·obtain ⟨oe,vs,he,hc,hd,h1⟩:=hfl
  have hsz:=(Array.getElem?_eq_some_iff.mp h1).1
  unfold noteFrame
  simp only [hf]
  refine wpAny_bind (wpAny_field he hd h1 ?_)
  refine wp_neg (by decide) ?_
  refine wpAny_entryW hfr hff hf he hb hn hd hsz (a0:=vs[0]) (by simp) fun h' q=>fin _ h' (hc▸q)
 ·obtain ⟨_,t⟩:=Fl2.toW hfl
  exact wpAny_noteFrame_onW hfr hff hf t hb hn fun h' q=>fin _ h' q
 ·cases hf'.symm.trans hL'
  obtain ⟨_,t⟩:=Fl2.toW hfl
  refine wpAny_noteFrame_againW hf t (k _ ⟨⟨e,L,rfl,hf',⟨⟨hh,tk,rfl⟩,hb,hn,by rw [hfrs];exact hff,hfl,hkd⟩⟩,m,hm⟩)
theorem pass_held {α:Type}{E:Value->Shared->Prop}{what:String}{x:Value}{env:Env} (hf:env.frame=f.env.frame) (h:Held f x s) {Q:α->Shared->Prop} (k:∀ s',Held f x s'->E x s'):wpAny (model f.c.prog f.c.w) f.A (PySem.passOn what x env:Sem α) Q E s:=by
 obtain ⟨⟨e,L,rfl,hL,q⟩,m,hm⟩:=h
 obtain ⟨⟨hh,tk,rfl⟩,hb,hn,hff,⟨oe,vs,T,oT,ts,he,hc,hd,h1,hnT,hTe,hT,hdT,h3⟩,hkd⟩:=q
 unfold PySem.passOn
 refine wpAny_bind (wpAny_field he hd h1 ?_)
 refine wp_neg (show ¬ ((Value.ref T == Value.none)=true) from by simp) ?_
 have other:∀ b,b≠T->(hh.update T (Obj.mapFields (·.setIfInBounds 3 ((some L:Option Addr).elim Value.none fun f=>rawInt f)))).get? b=hh.get? b:=fun b hb=>Heap.get?_update_other _ _ (Ne.symm hb)
 have noRecord:∀ b o,hh.get? b=some o->(∀ vs,o.data≠.fields vs)->b≠T:=fun b o hb hnf q=>by
  replace hb:=q▸hb;have hT':hh.get? T=some oT:=hT;cases hT'.symm.trans hb;exact hnf ts hdT
 have hsz3:3 < ts.size:=(Array.getElem?_eq_some_iff.mp h3).1
 have fin:Held f (.ref e) { f.H with heap:=hh.update T (Obj.mapFields (·.setIfInBounds 3 ((some L:Option Addr).elim Value.none fun f=>rawInt f))),toks:=tk }:=by
  have kd2:KD [] hh (hh.update T (Obj.mapFields (·.setIfInBounds 3 ((some L:Option Addr).elim Value.none fun f=>rawInt f)))):=fun b o _ e' n=>⟨o,(other b (noRecord b o e' n)).trans e',rfl,rfl,rfl⟩
  refine ⟨⟨e,L,rfl,hL,⟨⟨_,tk,rfl⟩,fun b o e'=>(other b (by rintro rfl;exact nob hnT e')).trans (hb b o e'),hn,hff.of_keeps fun b o e' n=>⟨o,(other b (noRecord b o e' n)).trans e',rfl⟩,?_,hkd.trans kd2.wider⟩⟩,m,kd2.ns (fun h=>(List.not_mem_nil h).elim) hm⟩
  exact ⟨oe,vs,T,_,_,(other e (Ne.symm hTe)).trans he,hc,hd,h1,hnT,hTe,Heap.get?_update_self _ hT (Obj.isFreed_of_fields (Obj.data_mapFields hdT _)),Obj.data_mapFields hdT _,by simp [hsz3]⟩
 refine wpAny_bind (m:=setFlight (.ref e) env.frame) ?_
 refine hf▸?_;refine hL▸?_
 unfold setFlight
 refine wpAny_bind (wpAny_field he hd h1 ?_)
 refine wp_pos (show (Value.ref T != Value.none)=true from by simp) ?_
 exact wpAny_setField hT hdT hsz3 (wpAny_throw (k _ fin))
end
end
section
structure Sub0 (g f:Fx):Prop where
 c:g.c=f.c
 z:g.Z=f.Z
 zok:g.zok=f.zok
 h:g.H=f.H
structure Sub (g f:Fx):Prop where
 c:g.c=f.c
 z:g.Z=f.Z
 zok:g.zok=f.zok
 pins:∀ p∈f.K,g.H.heap.get? p.1=some p.2
structure Elt (α:Type) where
 is:RV->α->Prop
 im:α->PV
 sl:α->Slot
 h1:∀ {r a},is r a->r.sl=sl a
 h2:∀ {r a b},is r a->b∈(sl a).fp->r.new=true
 h3:∀ {c h v a},(sl a).ok c h v->Im h v (im a)
@[reducible] noncomputable def Elt.val:Elt PV:=⟨fun r x=>r.sl=.val x,fun x=>x,.val,id,fun _ h=>(List.not_mem_nil h).elim,id⟩
@[reducible] noncomputable def Elt.tab:Elt (Addr×List (Str×PV)):=⟨fun r t=>r=⟨.tab t.1 t.2,true⟩,fun t=>.ref t.1,fun t=>.tab t.1 t.2,fun h=>congrArg RV.sl h,fun h _=>congrArg RV.new h,fun h=>h.1▸Im.ref _⟩
noncomputable def CBodyE {α:Type} (e:Elt α) (f:Fx) (ρ:Ab) (σ:Box) (ifs:List Expr) (elt:Expr) (Q:List α->Box->Prop) (X:Prop):Prop :=
 match ifs with
 | []=>EV f ρ σ elt (fun r σ'=>∃ x,e.is r x∧Q [x] σ') X
 | [c]=>ET f ρ σ c (fun b σ'=>(b=true->EV f ρ σ' elt (fun r σ'=>∃ x,e.is r x∧Q [x] σ') X)∧(b=false->Q [] σ')) X
 | _=>False
@[reducible] noncomputable def CBody (f:Fx) (ρ:Ab) (σ:Box) (ifs:List Expr) (elt:Expr) (Q:List PV->Box->Prop) (X:Prop):Prop:=CBodyE .val f ρ σ ifs elt Q X
section
variable {prog:Program}{w:World}{A:Around}{R:Result->Shared->Prop}{s:Shared}
theorem comp_turns {elt target iter:Expr}{ifs:List Expr}{scope:Scope}{pos:Pos}{it acc:Value}{env:Env} (I:Nat->Shared->Prop)
  (turn:∀ n s,I n s->wpAny (model prog w) A (pyNext it) (fun r s₁=>match r with
   | none=>R (.ok .next) s₁
   | some v=>wpAny (model prog w) A (letOwnedTupleGo target it v) (fun _ s₁'=>wpAny (model prog w) A (assign target env v) (fun _ s₂ =>
     wpAny (model prog w) A (forIn ifs true fun c r=>if r=true then do let ok ← isTrue c env (eval c env);pure (ForInStep.yield ok) else pure (ForInStep.yield r)) (fun ok s₃ =>
      if ok=true then wpAny (model prog w) A (eval elt env) (fun x s₄ =>
       wpAny (model prog w) A (call (.builtin "list.append") [acc,x]) (fun _ s₅=>∃ m,m < n∧I m s₅) (notedBy (model prog w) A env fun e s'=>R (.error e) s') s₄) (notedBy (model prog w) A env fun e s'=>R (.error e) s') s₃
      else ∃ m,m < n∧I m s₃) (notedBy (model prog w) A env fun e s'=>R (.error e) s') s₂) (notedBy (model prog w) A env fun e s'=>R (.error e) s') s₁') (notedBy (model prog w) A env fun e s'=>R (.error e) s') s₁) (notedBy (model prog w) A env fun e s'=>R (.error e) s') s)
  (n:Nat) (h:I n s):codeAny (model prog w) A (.compLoop (.ListComp elt [⟨target,iter,ifs,0⟩] scope pos) 0 it acc env) R s:=by
 refine codeAny_loop rfl I (fun n s hI=>?_) n h
 show wpAny _ A ((compTurn (.ListComp elt [⟨target,iter,ifs,0⟩] scope pos) 0 it acc env).onRaise (fun x=>do noteFrame x env;theTreesLotGoes x)) _ _ s
 refine wpAny_noted ?_
 refine (compTurn_list ..)▸?_
 refine wpAny_bind (wpAny_standAt (wpAny_bind (wpAny_mono (turn n s hI) (fun r s₁ h₁=>?_) fun _ _ x=>x)))
 cases r with
 | none=>exact wpAny_pure h₁
 | some v =>
  refine wpAny_bind (wpAny_mono h₁ (fun _ s₁' h₁'=>wpAny_bind (wpAny_mono h₁' (fun _ s₂ h₂=>wpAny_bind (wpAny_mono h₂ (fun ok s₃ h₃=>?_) fun _ _ x=>x)) fun _ _ x=>x)) fun _ _ x=>x)
  cases ok with
  | false=>exact wpAny_pure ⟨rfl,h₃⟩
  | true=>exact wpAny_bind (wpAny_bind (wpAny_mono h₃ (fun x s₄ h₄=>wpAny_bind (wpAny_mono h₄ (fun _ s₅ h₅=>wpAny_pure (wpAny_pure ⟨rfl,h₅⟩)) fun _ _ x=>x)) fun _ _ x=>x))
end
section
variable {f:Fx}{sc:Scope}{d:Nat}{ρ:Ab}{σ:Box}{s:Shared}{X:Prop}
theorem list_ne_tuple:Value.type "list"≠Value.type "tuple":=by decide
theorem frs_ne (F:f.Ok sc d) (I:Inv f ρ σ s) {a:Addr} (h:s.heap.get? a=none):∀ e∈f.frs,e.frame≠some a:=by
 intro e he q
 have:=I.ff
 obtain ⟨_,o,ho,_⟩:=this.mem (List.mem_filterMap.mpr ⟨e,he,q⟩)
 exact nob h ho
theorem noteE (F:f.Ok sc d) {Q:Value->Shared->Prop} (k:∀ x s',X->Held f x s'->Q x s'):∀ x s',ExP f X x s'->notedBy (model f.c.prog f.c.w) f.A f.env Q x s':=fun x s' ⟨hx,he⟩ =>
 note_exc F he F.lz fun s'' h=>k x s'' hx h
theorem Inv.repin {T T':Heap}{K K':List (Addr×Obj)} (V:Inv (f.pin T K) ρ σ s) (hn:∀ y r,ρ y=some r->r.new=false) (ht:TK T' s.heap) (h:∀ p∈K',s.heap.get? p.1=some p.2):Inv (f.pin T' K') ρ σ s :=
 ⟨V.same,V.keep,V.z,V.ff,V.vars,V.cells,fun p hp=>(List.mem_append.mp hp).elim (h p) fun q=>V.pin p (List.mem_append_right _ q),ht,V.off,fun y r a hy hr _=>nomatch hr.symm.trans (hn y r hy)⟩
theorem Inv.reK {T:Heap}{K K':List (Addr×Obj)} (V:Inv (f.pin T K) ρ σ s) (h:∀ p∈K',s.heap.get? p.1=some p.2∧∃ o,(p.1,o)∈K):Inv (f.pin T K') ρ σ s :=
 ⟨V.same,V.keep,V.z,V.ff,V.vars,V.cells,fun p hp=>(List.mem_append.mp hp).elim (fun q=>(h p q).1) fun q=>V.pin p (List.mem_append_right _ q),V.tup,V.off,fun y r a hy hr ha =>
  have m:=V.mine y r a hy hr ha
  ⟨m.1,fun p hp=>(List.mem_append.mp hp).elim (fun q=>let ⟨o,ho⟩:=(h p q).2;m.2.1 (p.1,o) (List.mem_append_left _ ho)) fun q=>m.2.1 p (List.mem_append_right _ q),m.2.2⟩⟩
theorem ws_off (V:Inv f ρ σ s) {b:Addr}{o:Obj}{vs:Array Value} (ho:s.heap.get? b=some o) (hd:o.data=.fields vs):b≠f.env.locals∧∀ q∈f.env.cells,q.2≠b:=by
 refine ⟨?_,fun q hq e=>?_⟩
 ·rintro rfl
  obtain ⟨m,⟨oL,_,_,hL,hLd,_⟩,_⟩:=V.vars
  cases sinj ho hL
  cases hd.symm.trans hLd
 ·obtain ⟨u,oc,hc,hcd⟩:=V.cells q hq
  subst e
  cases sinj ho hc
  cases hd.symm.trans hcd
theorem SrcT.noF {tgt:Expr}{I:Addr}{ws:List Addr}{P:List (Addr×Obj)}{xs:List PV}{St:Nat->Heap->Prop}{Mid:Nat->Value->Heap->Prop}{T h:Heap}{i:Nat} (S:SrcT f I ws P tgt xs St Mid T) (hst:St i h) {b:Addr}{o:Obj} (e:h.get? b=some o) (n:∀ vs,o.data≠.fields vs):b∉ws:=fun hb=>by
 obtain ⟨o',vs,h1,_,_,h4⟩:=S.it i h hst b hb
 cases sinj e h1
 exact n vs h4
theorem Tgt.pin {tgt:Expr}{names:List Str}{sp:PV->List PV->Prop}{T:Heap}{K:List (Addr×Obj)} (h:Tgt f sc tgt names sp):Tgt (f.pin T K) sc tgt names sp:=by
 cases h with
 | name a=>exact .name a
 | pair a b=>exact .pair a b
theorem inc_all:∀ (ns:List Str) (rs:List RV) (ρ:Ab) (x:Str) (r:RV),ρ x=some r->x∉ns->setAll ρ ns rs x=some r
 | [],[],_,_,_,h,_=>h
 | [],_ :: _,_,_,_,h,_=>h
 | _ :: _,[],_,_,_,h,_=>h
 | n :: ns,q :: rs,ρ,x,r,h,hx=>inc_all ns rs _ x r ((if_neg fun e:x=n=>hx (e▸.head _)).trans h) fun h'=>hx (.tail _ h')
end
structure LD where
 f:Fx
 ρ:Ab
 I:Addr
 D:Addr
 ws:List Addr
 P:List (Addr×Obj)
 xs:List PV
 St:Nat->Heap->Prop
 Mid:Nat->Value->Heap->Prop
 α:Type
 e:Elt α
 J:Nat->List α->Box->Prop
noncomputable def LD.pins (L:LD) (vs:Array Value) (c:Nat) (h:Heap) (G:List (Addr×Obj)):List (Addr×Obj):=(L.D,{ cls:=.type "list",data:=.seq vs c }) :: (wpins L.ws h ++ (L.P ++ G))
structure Fresh (L:LD) (a:Addr):Prop where
 w:a∉L.ws
 z:a∉L.f.Z
 l:a≠L.f.env.locals
 c:∀ q∈L.f.env.cells,q.2≠a
 d:a≠L.D
 n:L.f.H.heap.get? a=none
structure LpH (L:LD) (sc:Scope) (d:Nat) (tgt:Expr) (T:Heap):Prop where
 F:L.f.Ok sc d
 S:SrcT L.f L.I L.ws L.P tgt L.xs L.St L.Mid T
 D1:L.f.H.heap.get? L.D=none
 D2:L.D∉L.f.Z
 D3:∀ p∈L.f.K,p.1≠L.D
 D4:L.D∉L.ws
 D5:∀ p∈L.P,p.1≠L.D
 D6:∀ y r,L.ρ y=some r->L.D∉r.sl.fp
 D7:L.f.env.locals≠L.D
 D8:∀ q∈L.f.env.cells,q.2≠L.D
 D9:∀ e∈L.f.frs,e.frame≠some L.D
 nn:∀ y r,L.ρ y=some r->r.new=false
structure LI (L:LD) (T:Heap) (i:Nat) (ts:List L.α) (σ:Box) (s:Shared) (vs:Array Value) (c:Nat) (G:List (Addr×Obj)):Prop where
 len:ts.length≤i
 st:L.St i s.heap
 inv:Inv (L.f.pin T (L.pins vs c s.heap G)) L.ρ σ s
 j:L.J i ts σ
 ims:Ims s.heap vs.toList (ts.map L.e.im)
 g:∀ p∈G,Fresh L p.1
 own:∀ t∈ts,(∃ v,(L.e.sl t).ok L.f.c s.heap v)∧∀ a∈(L.e.sl t).fp,∃ o,(a,o)∈G
inductive LK (L:LD) (T:Heap) (k:Nat) (s:Shared):Prop
 | mk (i:Nat) (ts:List L.α) (σ:Box) (vs:Array Value) (c:Nat) (G:List (Addr×Obj)):k=L.xs.length+1 - i->i≤L.xs.length->LI L T i ts σ s vs c G->LK L T k s
structure LM (L:LD) (h:Heap) (i:Nat):Prop where
 st:L.St (i+1) h
 pp:∀ p∈L.P,h.get? p.1=some p.2
theorem step_lt {n i:Nat} (h:i < n):n+1 - (i+1) < n+1 - i:=Nat.sub_lt_sub_left (Nat.lt_succ_of_lt h) (Nat.lt_succ_self i)
section
variable {L:LD}{sc:Scope}{d:Nat}{tgt:Expr}{T:Heap}{i:Nat}{ts:List L.α}{σ:Box}{s:Shared}{vs:Array Value}{c:Nat}{G:List (Addr×Obj)}
theorem mem_pins {h:Heap}{m:Addr×Obj->Prop} (hD:m (L.D,{ cls:=.type "list",data:=.seq vs c })) (hw:∀ p∈wpins L.ws h,m p) (hP:∀ p∈L.P,m p) (hG:∀ p∈G,m p):∀ p∈L.pins vs c h G,m p:=fun p hp=>by
 rcases List.mem_cons.mp hp with rfl | hp
 ·exact hD
 ·exact (List.mem_append.mp hp).elim (hw p) fun hp=>(List.mem_append.mp hp).elim (hP p) (hG p)
theorem in_w {h:Heap}{p:Addr×Obj} (hp:p∈wpins L.ws h):p∈L.pins vs c h G ++ L.f.K:=.tail _ (List.mem_append_left _ (List.mem_append_left _ hp))
theorem in_P {h:Heap}{p:Addr×Obj} (hp:p∈L.P):p∈L.pins vs c h G ++ L.f.K:=.tail _ (List.mem_append_left _ (List.mem_append_right _ (List.mem_append_left _ hp)))
theorem in_G {h:Heap}{p:Addr×Obj} (hp:p∈G):p∈L.pins vs c h G ++ L.f.K:=.tail _ (List.mem_append_left _ (List.mem_append_right _ (List.mem_append_right _ hp)))
theorem own_keep {h h':Heap}{t:L.α} (x:(∃ v,(L.e.sl t).ok L.f.c h v)∧∀ a∈(L.e.sl t).fp,∃ o,(a,o)∈G) (k:TK h h') (p1:∀ p∈G,h.get? p.1=some p.2) (p2:∀ p∈G,h'.get? p.1=some p.2):(∃ v,(L.e.sl t).ok L.f.c h' v)∧∀ a∈(L.e.sl t).fp,∃ o,(a,o)∈G :=
 ⟨let ⟨v,ok⟩:=x.1;⟨v,ok.mono k fun a ha o e=>by
  obtain ⟨o',ho⟩:=x.2 a ha
  cases sinj e (p1 _ ho)
  exact p2 _ ho⟩,x.2⟩
theorem LI.gp (I:LI L T i ts σ s vs c G):∀ p∈G,s.heap.get? p.1=some p.2:=fun p hp=>I.inv.pin p (in_G hp)
theorem LI.moved (H:LpH L sc d tgt T) (I:LI L T i ts σ s vs c G) {h':Heap}{tk:Nat} (k:KpZ L.ws s.heap h'):Inv (L.f.pin T []) L.ρ σ { s with heap:=h',toks:=tk } :=
 Inv.moveW H.F I.inv H.S.new H.S.nz H.S.nK (H.S.it i _ I.st) k (fun _ h=>(List.not_mem_nil h).elim) fun _ h=>(List.not_mem_nil h).elim
theorem LI.tk (H:LpH L sc d tgt T) (I:LI L T i ts σ s vs c G) {h':Heap} (k:KpZ L.ws s.heap h'):TK s.heap h':=fun b ob vs n e c dd=>⟨ob,k b ob (H.S.noF I.st e fun vs q=>nomatch dd.symm.trans q) e,c,dd⟩
theorem LI.draw (H:LpH L sc d tgt T) (I:LI L T i ts σ s vs c G) {names:List Str}{sp:PV->List PV->Prop} (hT:Tgt L.f sc tgt names sp) (hlt:i < L.xs.length) (hsp:∀ y∈L.xs,∃ zs,sp y zs∧zs.length=names.length) {B:Unit->Shared->Prop}{N:Shared->Prop}{E:Value->Shared->Prop}
  (k:∀ h₂ y zs s₃,L.xs[i]?=some y->sp y zs->(L.f.pin s.heap (L.pins vs c h₂ G)).Ok sc d->LM L h₂ i->Inv (L.f.pin s.heap (L.pins vs c h₂ G)) (setAll L.ρ names (zs.map RV.im)) σ s₃->B () s₃) :
  wpAny (model L.f.c.prog L.f.c.w) L.f.A (pyNext (.ref L.I)) (fun r s₁=>match r with
   | none=>N s₁
   | some v=>wpAny (model L.f.c.prog L.f.c.w) L.f.A (letOwnedTupleGo tgt (.ref L.I) v) (fun _ s₁'=>wpAny (model L.f.c.prog L.f.c.w) L.f.A (assign tgt L.f.env v) B E s₁') E s₁) E s:=by
 refine H.S.W.item i s _ _ hlt I.st fun v h₁ tk₁ hMid hk₁=>?_
 refine H.S.W.go i v _ _ _ hlt hMid (I.inv.tup.trans (I.tk H hk₁)) fun h₂ y hy him hst₂ hk₂=>?_
 have hk:KpZ L.ws s.heap h₂:=fun b o hb e=>hk₂ b o hb (hk₁ b o hb e)
 have V:=I.moved H (tk:=tk₁) hk
 have pp:∀ p∈L.P,h₂.get? p.1=some p.2:=fun p hp=>hk _ _ (H.S.nP p hp).1 (I.inv.pin p (in_P hp))
 have V1:Inv (L.f.pin s.heap (L.pins vs c h₂ G)) L.ρ σ { s with heap:=h₂,toks:=tk₁ }:=V.repin H.nn (I.tk H hk) (mem_pins (hk _ _ H.D4 (I.inv.pin _ (.head _))) (fun p hp=>(wpins_at p hp).2) pp fun p hp=>hk _ _ (I.g p hp).w (I.gp p hp))
 have F1:(L.f.pin s.heap (L.pins vs c h₂ G)).Ok sc d:=pin_ok H.F (mem_pins ⟨H.D2,Ne.symm H.D7,H.D8⟩ (fun p hp=>by
  have hw:=(wpins_at p hp).1
  obtain ⟨o,vs,ho,_,_,hd⟩:=H.S.it (i+1) h₂ hst₂ p.1 hw
  exact ⟨H.S.nz _ hw,ws_off V ho hd⟩) (fun p hp=>(H.S.nP p hp).2) fun p hp=>⟨(I.g p hp).z,(I.g p hp).l,(I.g p hp).c⟩)
 obtain ⟨zs,hzs,_⟩:=hsp y (List.mem_of_getElem? hy)
 exact hT.pin.assign F1 V1 him hzs fun s₃ V3=>k h₂ y zs s₃ hy hzs F1 ⟨hst₂,pp⟩ V3
theorem LM.back (H:LpH L sc d tgt T) (M:LM L h₂ i) {T':Heap}{ρ₅:Ab} (V:Inv (L.f.pin T' (L.pins vs c h₂ G)) ρ₅ σ s) {h₆:Heap} (k:KpN L.D s.heap h₆):L.St (i+1) h₆ :=
 H.S.W.frame (i+1) h₂ h₆ M.st fun b hb o e=>(List.mem_append.mp hb).elim (fun hb=>k b o (fun q=>H.D4 (q▸hb)) (V.pin (b,o) (in_w (wpins_mem hb e)))) fun hb=>by
  obtain ⟨p,hp,rfl⟩:=List.mem_map.mp hb
  cases sinj e (M.pp p hp)
  exact k _ _ (H.D5 p hp) (V.pin p (in_P hp))
theorem LM.fresh (H:LpH L sc d tgt T) (M:LM L h₂ i) {T':Heap}{ρ₅:Ab} (V:Inv (L.f.pin T' (L.pins vs c h₂ G)) ρ₅ σ s) {b:Addr} (hb:s.heap.get? b=none) (hz:b∉L.f.Z):Fresh L b where
 w hw:=by
  obtain ⟨o,_,ho,_⟩:=H.S.it (i+1) h₂ M.st b hw
  exact nob hb (V.pin (b,o) (in_w (wpins_mem hw ho)))
 z:=hz
 l:=by
  rintro rfl
  obtain ⟨m,⟨oL,_,_,hL,_⟩,_⟩:=V.vars
  exact nob hb hL
 c q hq:=by
  rintro rfl
  obtain ⟨u,oc,hc,_⟩:=V.cells q hq
  exact nob hb hc
 d:=by
  rintro rfl
  exact nob hb (V.pin _ (.head _))
 n:=by
  exact back_none hb fun o q=>V.keep b o hz q
theorem LI.skip (H:LpH L sc d tgt T) (I:LI L T i ts σ s vs c G) (M:LM L h₂ i) (hlt:i < L.xs.length) {ρ₄:Ab}{σ₄:Box}{s₄:Shared} (V:Inv (L.f.pin s.heap (L.pins vs c h₂ G)) ρ₄ σ₄ s₄) (inc:∀ x r,L.ρ x=some r->ρ₄ x=some r) (hJ:L.J (i+1) (ts ++ []) σ₄) :
  ∃ m,m < L.xs.length+1 - i∧LK L T m s₄ :=
 have p2:∀ p∈G,s₄.heap.get? p.1=some p.2:=fun p hp=>V.pin p (in_G hp)
 ⟨_,step_lt hlt,i+1,ts,σ₄,vs,c,G,rfl,hlt,Nat.le_succ_of_le I.len,M.back H V fun _ _ _ e=>e, (V.forget inc).repin H.nn (I.inv.tup.trans V.tup) (mem_pins (V.pin _ (.head _)) (fun p hp=>(wpins_at p hp).2) (fun p hp=>V.pin p (in_P hp)) p2), List.append_nil ts▸hJ,I.ims.mono V.tup,I.g,fun t ht=>own_keep (I.own t ht) V.tup I.gp p2⟩
theorem LI.take (H:LpH L sc d tgt T) (I:LI L T i ts σ s vs c G) (M:LM L h₂ i) (hlt:i < L.xs.length) (hlen:L.xs.length≤1000000) {ρ₃ ρ₅:Ab}{σ₃ σ₅:Box}{s₃ s₅:Shared} (V3:Inv (L.f.pin s.heap (L.pins vs c h₂ G)) ρ₃ σ₃ s₃) (V:Inv (L.f.pin s.heap (L.pins vs c h₂ G)) ρ₅ σ₅ s₅)
  (inc:∀ x r,L.ρ x=some r->ρ₅ x=some r) {r:RV}{v:Value}{a:L.α} (ok:r.ok L.f.c s₃.heap s₅.heap v) (off:∀ a∈r.sl.fp,a∉L.f.Z) (his:L.e.is r a) (hJ:L.J (i+1) (ts ++ [a]) σ₅) {E:Value->Shared->Prop} :
  wpAny (model L.f.c.prog L.f.c.w) L.f.A (call (.builtin "list.append") [.ref L.D,v]) (fun _ s'=>∃ m,m < L.xs.length+1 - i∧LK L T m s') E s₅:=by
 have h1:=L.e.h1 his
 have hok:=ok.1
 replace hok:=h1▸hok
 have fr:∀ b∈(L.e.sl a).fp,Fresh L b:=fun b hb=>M.fresh H V3 (ok.2 (L.e.h2 his hb) b (h1▸hb)) (off b (h1▸hb))
 have hl:vs.toList.length≤1000000:=I.ims.length▸List.length_map (f:=L.e.im)▸Nat.le_trans I.len (Nat.le_trans (Nat.le_of_lt hlt) hlen)
 refine wpAny_list_append_plain (hsz:=sizeLine_ge (n:=vs.size) (Nat.le_trans (Array.length_toList▸hl) (by decide))) ⟨c,V.pin _ (.head _)⟩ fun h₆ ⟨c₆,hD⟩ hs=>?_
 have k:KpN L.D s₅.heap h₆:=fun b o hb e=>(hs.2 b hb).trans e
 have V6:Inv (L.f.pin s.heap []) L.ρ σ₅ { s₅ with heap:=h₆ } :=
  ((V.forget inc).repin (K':=[(L.D,{ cls:=.type "list",data:=.seq vs c })]) H.nn V.tup fun p hp=>List.mem_singleton.mp hp▸V.pin _ (.head _)).alter (tk:=s₅.toks) H.F H.D1 H.D2 H.D3 (fun p hp=>(List.not_mem_nil hp).elim) H.D6 H.D7 H.D8 H.D9 (fun c=>absurd c list_ne_tuple) k
 have tk:TK s₅.heap h₆:=fun b ob ws n e c dd=>⟨ob,k b ob (by
  rintro rfl
  cases sinj e (V.pin _ (.head _))
  exact absurd c list_ne_tuple) e,c,dd⟩
 have hG:∀ p∈G ++ wpins (L.e.sl a).fp s₅.heap,h₆.get? p.1=some p.2:=fun p hp=>(List.mem_append.mp hp).elim (fun hp=>k _ _ (I.g p hp).d (V.pin p (in_G hp))) fun hp=>k _ _ (fr _ (wpins_at p hp).1).d (wpins_at p hp).2
 refine ⟨_,step_lt hlt,i+1,ts ++ [a],σ₅,vs.push v,c₆,G ++ wpins (L.e.sl a).fp s₅.heap,rfl,hlt,by refine List.length_append▸?_;exact Nat.succ_le_succ I.len,M.back H V k, V6.repin H.nn (I.inv.tup.trans (V.tup.trans tk)) (mem_pins hD (fun p hp=>(wpins_at p hp).2) (fun p hp=>k _ _ (H.D5 p hp) (V.pin p (in_P hp))) hG),hJ,?_,fun p hp=>(List.mem_append.mp hp).elim (I.g p) fun hp=>fr _ (wpins_at p hp).1,fun t ht=>?_⟩
 ·rw [Array.toList_push];rw [List.map_append]
  exact (I.ims.mono (V.tup.trans tk)).append (.cons ((L.e.h3 hok).mono tk) .nil)
 ·have up:∀ {t:L.α}{K:List (Addr×Obj)},(∀ p∈K,p∈G ++ wpins (L.e.sl a).fp s₅.heap)->(∃ v,(L.e.sl t).ok L.f.c h₆ v)∧(∀ a∈(L.e.sl t).fp,∃ o,(a,o)∈K)->(∃ v,(L.e.sl t).ok L.f.c h₆ v)∧∀ b∈(L.e.sl t).fp,∃ o,(b,o)∈G ++ wpins (L.e.sl a).fp s₅.heap:=fun hK x=>⟨x.1,fun b hb=>let ⟨o,ho⟩:=x.2 b hb;⟨o,hK _ ho⟩⟩
  rcases List.mem_append.mp ht with ht | ht
  ·exact up (fun p hp=>List.mem_append_left _ hp) (own_keep (I.own t ht) (V.tup.trans tk) I.gp fun p hp=>hG p (List.mem_append_left _ hp))
  ·cases List.mem_singleton.mp ht
   exact up (fun p hp=>List.mem_append_right _ hp) ⟨⟨v,hok.mono tk fun b hb o e=>k b o (fr b hb).d e⟩,fun b hb=>let ⟨o,ho,_⟩:=hok.live b hb;⟨o,wpins_mem hb ho⟩⟩
theorem LI.elt (H:LpH L sc d tgt T) (I:LI L T i ts σ s vs c G) (M:LM L h₂ i) (hlt:i < L.xs.length) (hlen:L.xs.length≤1000000) (F:(L.f.pin s.heap (L.pins vs c h₂ G)).Ok sc d) {ρ₃:Ab}{σ₃:Box}{s₃:Shared} (V:Inv (L.f.pin s.heap (L.pins vs c h₂ G)) ρ₃ σ₃ s₃) (inc:∀ x r,L.ρ x=some r->ρ₃ x=some r)
  {elt:Expr}{X:Prop}{R:Result->Shared->Prop} (err:∀ x s',X->Held L.f x s'->R (.error x) s') (h:EV (L.f.pin s.heap (L.pins vs c h₂ G)) ρ₃ σ₃ elt (fun r σ'=>∃ x,L.e.is r x∧L.J (i+1) (ts ++ [x]) σ') X) :
  wpAny (model L.f.c.prog L.f.c.w) L.f.A (eval elt L.f.env) (fun v s₄=>wpAny (model L.f.c.prog L.f.c.w) L.f.A (call (.builtin "list.append") [.ref L.D,v]) (fun _ s'=>∃ m,m < L.xs.length+1 - i∧LK L T m s') (notedBy (model L.f.c.prog L.f.c.w) L.f.A L.f.env fun e s'=>R (.error e) s') s₄) (notedBy (model L.f.c.prog L.f.c.w) L.f.A L.f.env fun e s'=>R (.error e) s') s₃ :=
 EV.use (f:=L.f.pin s.heap (L.pins vs c h₂ G)) F h V (noteE F err) fun _ _ _ _ _ V5 ok off ⟨_,hr,hJ⟩=>I.take H M hlt hlen V V5 inc ok off hr hJ
theorem comp_loop {elt iter:Expr}{ifs:List Expr}{scope:Scope}{pos:Pos}{names:List Str}{sp:PV->List PV->Prop}{X:Prop}{R:Result->Shared->Prop} (H:LpH L sc d tgt s.heap) (hT:Tgt L.f sc tgt names sp) (V:Inv L.f L.ρ σ s) (hD:s.heap.PlainList L.D #[])
  (hρn:∀ x r,L.ρ x=some r->x∉names) (hlen:L.xs.length≤1000000) (h0:L.J 0 [] σ)
  (step:∀ g,Sub0 g L.f->g.env=L.f.env->g.Ok sc d->∀ i y ts zs σ,L.xs[i]?=some y->sp y zs->L.J i ts σ->ts.length≤i->CBodyE L.e g (setAll L.ρ names (zs.map RV.im)) σ ifs elt (fun ts' σ'=>L.J (i+1) (ts ++ ts') σ') X)
  (hsp:∀ y∈L.xs,∃ zs,sp y zs∧zs.length=names.length)
  (ok:∀ ts σ' s',L.J L.xs.length ts σ'->Inv L.f L.ρ σ' s'->ListAt s'.heap L.D (ts.map L.e.im)->(∀ t∈ts,(∃ v,(L.e.sl t).ok L.f.c s'.heap v)∧∀ a∈(L.e.sl t).fp,Fresh L a)->R (.ok .next) s') (err:∀ x s',X->Held L.f x s'->R (.error x) s') :
  codeAny (model L.f.c.prog L.f.c.w) L.f.A (.compLoop (.ListComp elt [⟨tgt,iter,ifs,0⟩] scope pos) 0 (.ref L.I) (.ref L.D) L.f.env) R s:=by
 obtain ⟨c0,hD0⟩:=hD
 refine comp_turns (LK L s.heap) (fun k s' h=>?_) (L.xs.length+1)
  ⟨0,[],σ,#[],c0,[],rfl,Nat.zero_le _,Nat.le_refl _,H.S.st,V.pinned (TK.refl _) (mem_pins hD0 (fun p hp=>(wpins_at p hp).2) H.S.pins fun p hp=>(List.not_mem_nil hp).elim) (fun p _ y r hy hr=>nomatch hr.symm.trans (H.nn y r hy)),h0,.nil,fun p hp=>(List.not_mem_nil hp).elim,fun t ht=>(List.not_mem_nil ht).elim⟩
 obtain ⟨i,ts,σ',vs,c,G,rfl,hi,I⟩:=h
 by_cases hlt:i < L.xs.length
 ·refine I.draw H hT hlt hsp fun h₂ y zs s₃ hy hzs F1 M V3=>?_
  have body:=step (L.f.pin s'.heap (L.pins vs c h₂ G)) ⟨rfl,rfl,rfl,rfl⟩ rfl F1 i y ts zs σ' hy hzs I.j I.len
  have inc:∀ x r,L.ρ x=some r->setAll L.ρ names (zs.map RV.im) x=some r:=fun x r h=>inc_all names _ _ x r h (hρn x r h)
  cases ifs with
  | nil=>exact wpAny_tests_nil (I.elt H M hlt hlen F1 V3 inc err body)
  | cons c' r=>cases r with
   | cons _ _=>exact body.elim
   | nil =>
    refine wpAny_tests_one (ET.use (f:=L.f.pin s'.heap (L.pins vs c h₂ G)) F1 body V3 (noteE F1 err) fun b s₄ σ₄ _ V4 q=>?_)
    cases b with
    | true=>exact I.elt H M hlt hlen F1 V4 inc err (q.1 rfl)
    | false=>exact I.skip H M hlt V4 inc (q.2 rfl)
 ·obtain rfl:=Nat.le_antisymm hi (Nat.le_of_not_lt hlt)
  refine H.S.W.done s' _ _ I.st fun h₁ tk₁ hk₁=>?_
  have e1:=hk₁ _ _ H.D4 (I.inv.pin _ (.head _))
  refine ok ts σ' _ I.j ((I.moved H hk₁).unpin V.tup) ⟨⟨vs,⟨_,e1,rfl,c,rfl⟩,I.ims.mono (I.tk H hk₁)⟩,fun o e=>?_⟩ fun t ht=>?_
  ·cases sinj e1 e
   exact ⟨rfl,rfl⟩
  ·have x:=own_keep (I.own t ht) (I.tk H hk₁) I.gp fun p hp=>hk₁ _ _ (I.g p hp).w (I.gp p hp)
   exact ⟨x.1,fun a ha=>let ⟨o,ho⟩:=x.2 a ha;I.g _ ho⟩
end
end
section
noncomputable def relS (scope sc:Scope):Scope:={ scope with names:=scope.names.map fun (n,k)=>if (k == .free && sc.names.lookup n == some .cell) then (n,.cell) else (n,k) }
noncomputable def clOf (names:List (Str×NameKind)) (cells:List (Str×Addr)):List (Str×Addr):=names.foldl (fun cs x=>if x.2 == .free then (match cells.lookup x.1 with | some a=>(x.1,a) :: cs | none=>cs) else cs) []
noncomputable def Fx.compF (f:Fx) (scope:Scope) (cl:List (Str×Addr)) (C:Addr) (s₂:Shared):Fx:={ f with env:=compEnvC scope cl C f.env,H:=s₂,own:=false,K:=[],T:=s₂.heap }
noncomputable def compAb (scope:Scope) (ρ:Ab):Ab:=fun y=>if scope.names.lookup y=some .free then (ρ y).map (fun r=>⟨r.sl,false⟩) else none
section
variable {f:Fx}{sc:Scope}{d:Nat}{ρ:Ab}{σ:Box}{s:Shared}{X:Prop}
theorem relabel_eq (F:f.Ok sc d) (scope:Scope):relabel scope f.env=relS scope sc:=by
 unfold relabel relS Env.kindOf
 refine F.scope.symm▸?_;refine F.kind.symm▸?_
 simp
theorem relS_free:∀ {names:List (Str×NameKind)}{sc:Scope}{y:Str},names.lookup y=some .free->sc.names.lookup y=some .cell ->
  (names.map fun (n,k)=>if (k == NameKind.free && sc.names.lookup n == some .cell) then (n,NameKind.cell) else (n,k)).lookup y=some .cell
 | [],_,_,h,_=>by simp at h
 | (n,k) :: r,sc,y,h,hc=>by
  show List.lookup y ((if (k == NameKind.free && sc.names.lookup n == some .cell)=true then (n,NameKind.cell) else (n,k)) :: _)=_
  cases hx:y == n with
  | true =>
   have e:y=n:=by simpa using hx
   subst e
   simp only [List.lookup_cons,beq_self_eq_true] at h
   cases h
   rw [if_pos (by rw [hc];rfl)]
   simp [List.lookup_cons]
  | false =>
   simp only [List.lookup_cons,hx] at h
   have ih:=@relS_free r sc y h hc
   by_cases q:(k == NameKind.free && sc.names.lookup n == some .cell)=true
   ·refine (if_pos q)▸?_;simp only [List.lookup_cons,hx];exact ih
   ·refine (if_neg q)▸?_;simp only [List.lookup_cons,hx];exact ih
theorem lookup_some_of_mem {β:Type}:∀ {l:List (Str×β)}{y:Str}{a:β},(y,a)∈l->∃ b,l.lookup y=some b
 | (n,b) :: r,y,a,h=>by
  rw [List.lookup_cons]
  cases hx:y == n with
  | true=>exact ⟨b,rfl⟩
  | false =>
   rcases List.mem_cons.mp h with e | h
   ·cases e;simp at hx
   ·exact lookup_some_of_mem h
theorem closureFor_eq {env:Env}{scope:Scope} (h:∀ x∈scope.names,x.2=.free->∃ a,env.cells.lookup x.1=some a):closureFor scope env=pure (clOf scope.names env.cells):=by
 unfold closureFor clOf
 generalize ([]:List (Str×Addr))=acc
 obtain ⟨k,names,a,b,c⟩:=scope
 simp only at h ⊢
 induction names generalizing acc with
 | nil=>rfl
 | cons x r ih =>
  obtain ⟨n,kk⟩:=x
  rw [List.forIn_cons]
  by_cases hk:kk=.free
  ·subst hk
   obtain ⟨a,ha⟩:=h _ (.head _) rfl
   simp only [beq_self_eq_true,if_true,List.foldl_cons,ha]
   unfold cellOf
   refine ha▸?_
   simp only [pure_bind]
   exact ih _ (fun x hx=>h x (.tail _ hx))
  ·have e:(kk == NameKind.free)=false:=by simpa using hk
   simp only [e,Bool.false_eq_true,if_false,List.foldl_cons,pure_bind]
   exact ih _ (fun x hx=>h x (.tail _ hx))
set_option tactic.hygienic true in
theorem clOf_sound (names:List (Str×NameKind)) (cells:List (Str×Addr)):∀ p∈clOf names cells,cells.lookup p.1=some p.2:=by
 unfold clOf
 have:∀ (acc:List (Str×Addr)),(∀ p∈acc,cells.lookup p.1=some p.2)->∀ p∈names.foldl (fun cs x=>if x.2 == .free then (match cells.lookup x.1 with | some a=>(x.1,a) :: cs | none=>cs) else cs) acc,cells.lookup p.1=some p.2:=by
  induction names with
  | nil=>intro acc h;exact h
  | cons x r ih =>
   intro acc h
   refine List.foldl_cons.symm▸?_
   refine ih _ ?_
   split
   ·split
    ·rename_i a ha
     intro p hp
     rcases List.mem_cons.mp hp with rfl | hp
     ·exact ha
     ·exact h p hp
    ·exact h
   ·exact h
 exact this [] (fun p hp=>(List.not_mem_nil hp).elim)
theorem clOf_there {names:List (Str×NameKind)}{cells:List (Str×Addr)}{y:Str}{a:Addr} (hm:(y,NameKind.free)∈names) (ha:cells.lookup y=some a):(clOf names cells).lookup y=some a:=by
 have key:(y,a)∈clOf names cells:=by
  unfold clOf
  have mono:∀ (names:List (Str×NameKind)) (acc:List (Str×Addr)),(y,a)∈acc->(y,a)∈names.foldl (fun cs x=>if x.2 == .free then (match cells.lookup x.1 with | some a=>(x.1,a) :: cs | none=>cs) else cs) acc:=by
   intro names
   induction names with
   | nil=>intro acc h;exact h
   | cons x r ih =>
    intro acc h
    rw [List.foldl_cons]
    refine ih _ ?_
    split
    ·split
     ·exact .tail _ h
     ·exact h
    ·exact h
  have:∀ (acc:List (Str×Addr)),(y,a)∈names.foldl (fun cs x=>if x.2 == .free then (match cells.lookup x.1 with | some a=>(x.1,a) :: cs | none=>cs) else cs) acc:=by
   induction names with
   | nil=>cases hm
   | cons x r ih =>
    intro acc
    refine List.foldl_cons▸?_
    rcases List.mem_cons.mp hm with e | hm
    ·refine mono r _ ?_
     refine e▸?_
     simp [ha]
    ·exact ih hm _
  exact this []
 cases hl:(clOf names cells).lookup y with
 | none =>
  obtain ⟨b,hb⟩:=lookup_some_of_mem key
  exact nob hl hb
 | some b =>
  have:=clOf_sound names cells (y,b) (mem_of_lookup hl)
  rw [ha] at this;exact this.symm
structure CScope (scope sc:Scope):Prop where
 kind:scope.kind=.function
 free:∀ x∈scope.names,x.2=.free->scope.names.lookup x.1=some .free∧sc.names.lookup x.1=some .cell
 loc:∀ x∈scope.names,x.2=.local->scope.names.lookup x.1=some .local
 cell:∀ x∈scope.names,x.2≠.cell
theorem comp_ok (F:f.Ok sc d) {scope:Scope} (cs:CScope scope sc) {σ₀:Box}{s₀ s₂:Shared}{C:Addr} (I₀:Inv f ρ σ₀ s₀) (ex:Ext f s₀ s₂) (I₂:Inv f ρ σ s₂) (hC:s₂.heap.get? C=none):(f.compF scope (clOf scope.names f.env.cells) C s₀).Ok (relS scope sc) d:=by
 have cl:=clOf_sound scope.names f.env.cells
 have live:∀ p∈clOf scope.names f.env.cells,∃ o,s₂.heap.get? p.2=some o:=fun p hp=>by
  obtain ⟨v,o,ho,_⟩:=I₂.cells p (mem_of_lookup (cl p hp))
  exact ⟨o,ho⟩
 refine { cx:=F.cx,scope:=relabel_eq F scope,kind:=cs.kind,glob:=F.glob,blt:=F.blt,handled:=F.handled,room:=F.room,units:=F.units,frames:=F.frames,fr:=?_,base:=fun b o e=>Inv.kb (f:=f) F I₀ b o e,zbase:=F.zbase,zsame:=F.zsame,ztup:=F.ztup,zlive:=F.zlive,fz:=F.fz, lnew:=?_,cnew:=fun h=>(nomatch h),apart:=fun h=>(nomatch h),lz:=fun hz=>?_,cz:=fun p hp=>⟨(F.cz p (mem_of_lookup (cl p hp))).1,?_⟩,kz:=fun p hp=>(List.not_mem_nil hp).elim }
 ·obtain ⟨fenv,outer,L,h1,h2,h3,h4⟩:=F.fr
  exact ⟨fenv,outer,L,h1,h2,h3,h4⟩
 ·show s₀.heap.get? C=none
  cases q:s₀.heap.get? C with
  | none=>rfl
  | some o =>
   have:=ex.keep C o (fun hz=>by obtain ⟨o,ho⟩:=F.zlive σ s₂.heap _ hz I₂.z;exact nob hC ho) q
   exact nob hC this
 ·obtain ⟨o,ho⟩:=F.zlive σ s₂.heap _ hz I₂.z
  have ho':s₂.heap.get? C=some o:=ho
  exact nob hC ho'
 ·obtain ⟨o,ho⟩:=live p hp
  intro e
  have e':p.2=C:=e
  rw [e',hC] at ho;exact non ho
theorem comp_inv (F:f.Ok sc d) {scope:Scope} (cs:CScope scope sc) {σ₀:Box}{s₀ s₂:Shared}{C:Addr} (I₀:Inv f ρ σ₀ s₀) (ex:Ext f s₀ s₂) (I₂:Inv f ρ σ s₂) (hC:s₂.heap.get? C=none) {h₄:Heap}{tk:Nat}{m:Str->Option Value} (hn:h₄.Ns C m) (kp:Kp s₂.heap h₄) :
  Inv (f.compF scope (clOf scope.names f.env.cells) C s₀) (compAb scope ρ) σ { s₂ with heap:=h₄,toks:=tk }:=by
 have cl:=clOf_sound scope.names f.env.cells
 have back:∀ y r,compAb scope ρ y=some r->scope.names.lookup y=some .free∧∃ r₀,ρ y=some r₀∧r=⟨r₀.sl,false⟩:=fun y r hy=>by
  unfold compAb at hy
  by_cases q:scope.names.lookup y=some .free
  ·rw [if_pos q] at hy
   obtain ⟨r₀,h1,h2⟩:=Option.map_eq_some_iff.mp hy
   exact ⟨q,r₀,h1,h2.symm⟩
  ·exact nob (if_neg q) hy
 obtain ⟨hh,tt,es⟩:=ex.same
 refine ⟨⟨h₄,tk,by refine es▸?_;rfl⟩,fun b o hb e=>kp b o (ex.keep b o hb e),F.zsame σ s₂.heap h₄ (fun b o _ e=>kp b o e) I₂.z,ff_of (fun en he b o hf e hd=>⟨o,kp b o e,hd⟩) I₂.ff,⟨m,hn,fun y r hy=>?_⟩,fun p hp=>?_,fun p hp=>(List.not_mem_nil hp).elim,(I₀.tk F ex).trans (TK.of kp),fun y r a hy ha=>?_,fun y r a hy hr _=>?_⟩
 ·obtain ⟨hf,r₀,h1,rfl⟩:=back y r hy
  obtain ⟨m₀,hn₀,hv⟩:=I₂.vars
  obtain ⟨v,h2,ok⟩:=hv y r₀ h1
  have hmem:=mem_of_lookup hf
  have hcell:=(cs.free _ hmem rfl).2
  have hk:f.env.kindOf y=some .cell:=by unfold Env.kindOf;refine F.scope▸?_;exact hcell
  refine ⟨v,?_,ok.mono (TK.of kp) fun a _ o e=>kp a o e⟩
  rcases h2 with ⟨hk',_⟩ | ⟨_,a,hl,hc⟩
  ·cases hk.symm.trans hk'
  ·refine .inr ⟨.inl ?_,a,clOf_there hmem hl,IsCell.at' hc fun o e=>kp _ o e⟩
   show (relabel scope f.env).names.lookup y=some .cell
   refine (relabel_eq F ..)▸?_
   exact relS_free hf hcell
 ·obtain ⟨v,hc⟩:=I₂.cells p (mem_of_lookup (cl p hp))
  exact ⟨v,IsCell.at' hc fun o e=>kp _ o e⟩
 ·obtain ⟨hf,r₀,h1,rfl⟩:=back y r hy
  obtain ⟨o1,o2,o3⟩:=I₂.off y r₀ a h1 ha
  refine ⟨?_,o2,fun p hp=>o3 p (mem_of_lookup (cl p hp))⟩
  intro e
  have e':a=C:=e
  obtain ⟨m₀,_,hv⟩:=I₂.vars
  obtain ⟨v,_,ok⟩:=hv y r₀ h1
  obtain ⟨o,ho,_⟩:=ok.live a ha
  rw [e',hC] at ho;exact non ho
 ·obtain ⟨_,r₀,_,rfl⟩:=back y r hy
  cases hr
end
end
section
section
variable {f:Fx}{sc:Scope}{d:Nat}{ρ:Ab}{σ:Box}{s:Shared}{X:Prop}{Q:RV->Box->Prop}{N:Ab->Box->Prop}{R:RV->Box->Prop}
noncomputable def EST (f:Fx) (M:Bool) (tgt:Expr) (ρ:Ab) (σ:Box) (iter:Expr) (Q:List PV->Box->Prop) (X:Prop):Prop :=
 ∀ s,Inv f ρ σ s->wpAny (model f.c.prog f.c.w) f.A (eval iter f.env) (fun x s₁=>wpAny (model f.c.prog f.c.w) f.A (pyIter x) (SPostT f M tgt ρ s Q) (ExP f X) s₁) (ExP f X) s
theorem ES.T (F:f.Ok sc d) {M:Bool}{x:Str}{p:Pos}{iter:Expr}{Q:List PV->Box->Prop} (h:ES f M ρ σ iter Q X):EST f M (.Name x p) ρ σ iter Q X:=fun s I =>
 wpAny_mono (h s I) (fun v s₁ h₁=>wpAny_mono h₁ (fun it s₂ h₂=>h₂.T F I) fun _ _ x=>x) fun _ _ x=>x
theorem Inv.lone (F:f.Ok sc d) {σ₀:Box}{s₀:Shared} (I₀:Inv f ρ σ₀ s₀) {σ':Box}{ρ':Ab}{s':Shared} (V:Inv f ρ' σ' s') {C:Addr} (hC:s₀.heap.get? C=none) {m:Str->Option Value} (hn:s'.heap.Ns C m) (hfp:∀ y r,ρ' y=some r->C∉r.sl.fp) (hz:C∉f.Z)
  {h':Heap} (hs:Heap.SameBut C s'.heap h'):Inv f ρ' σ' { s' with heap:=h' }:=by
 obtain ⟨o,es,ep,ho,hd,_⟩:=id hn
 have V1:Inv (f.pin f.T [(C,o)]) ρ' σ' s':=V.pinned V.tup (fun p hp=>by obtain rfl:=List.mem_singleton.mp hp;exact ho) fun p hp y r hy _=>by obtain rfl:=List.mem_singleton.mp hp;exact hfp y r hy
 refine (V1.alter (tk:=s'.toks) F ?_ hz ?_ (fun p hp=>(List.not_mem_nil hp).elim) hfp ?_ ?_ (frs_ne F I₀ hC) (fun _ vs n e=>by cases hd.symm.trans e) fun b o hb e=>(hs.2 b hb).trans e).unpin (TK.refl _)
 ·exact back_none hC fun o q=>I₀.keep C o hz q
 ·rintro p hp rfl
  have:=I₀.pin p hp
  exact nob hC this
 ·rintro rfl
  obtain ⟨m,⟨oL,_,_,hL,_⟩,_⟩:=I₀.vars
  exact nob hC hL
 ·rintro p hp rfl
  obtain ⟨v,oc,hc,_⟩:=I₀.cells p hp
  exact nob hC hc
structure CompEnd (f:Fx) (s₀:Shared) (J:List PV->Box->Prop) (D C:Addr) (s':Shared):Prop where
 ext:Ext f s₀ s'
 dNew:s₀.heap.get? D=none
 cNew:s₀.heap.get? C=none
 ne:D≠C
 dz:D∉f.Z
 cz:C∉f.Z
 ns:∃ m,s'.heap.Ns C m
 res:∃ ys σ',f.zok σ' s'.heap∧ListAt s'.heap D ys∧J ys σ'
structure CompExc (f:Fx) (C:Addr) (x:Value) (s':Shared):Prop where
 held:Held f x s'
 ns:∃ m,s'.heap.Ns C m
 frz:∀ h',Heap.SameBut C s'.heap h'->Held f x { s' with heap:=h' }
noncomputable def CompStep (f:Fx) (gs:Scope) (d:Nat) (ρ':Ab) (names:List Str) (sp:PV->List PV->Prop) (xs:List PV) (ifs:List Expr) (elt:Expr) (J:Nat->List PV->Box->Prop) (X:Prop):Prop :=
 ∀ g,Sub g f->g.Ok gs d->∀ i y ys zs σ,xs[i]?=some y->sp y zs->J i ys σ->ys.length≤i->CBody g (setAll ρ' names (zs.map RV.im)) σ ifs elt (fun ys' σ'=>J (i+1) (ys ++ ys') σ') X
theorem Drw.up {f g:Fx}{I:Addr}{ws:List Addr}{tgt:Expr}{fp:List Addr}{n:Nat}{xs:List PV}{T T':Heap}{St:Nat->Heap->Prop}{Mid:Nat->Value->Heap->Prop} (W:Drw f I ws tgt fp n xs T St Mid) (hc:g.c=f.c) (hA:g.A=f.A) (k:TK T T'):Drw g I ws tgt fp n xs T' St Mid:=by
 refine ⟨W.frame,?_,?_,?_,?_⟩
 ·refine hc▸?_;refine hA▸?_;exact W.item
 ·refine hc▸?_;refine hA▸?_;exact fun i v s Q E hi hm ht=>W.go i v s Q E hi hm (k.trans ht)
 ·refine hc▸?_;refine hA▸?_;exact W.done
 ·refine hc▸?_;refine hA▸?_;exact W.self
theorem SrcT.up {g:Fx}{I:Addr}{ws:List Addr}{P:List (Addr×Obj)}{tgt:Expr}{xs:List PV}{St:Nat->Heap->Prop}{Mid:Nat->Value->Heap->Prop}{h h':Heap} (S:SrcT f I ws P tgt xs St Mid h) (hc:g.c=f.c) (hA:g.A=f.A) (hz:g.Z=f.Z) (hK:g.K=[]) (k:Kp h h') (new:∀ b∈ws,g.H.heap.get? b=none)
  (nP:∀ p∈P,p.1≠g.env.locals∧∀ q∈g.env.cells,q.2≠p.1):SrcT g I ws P tgt xs St Mid h' where
 W:=S.W.up hc hA (TK.of k)
 st:=S.W.frame 0 _ _ S.st fun b _ o e=>k b o e
 it:=S.it
 pins p hp:=k _ _ (S.pins p hp)
 new:=new
 nz:=hz▸S.nz
 nP p hp:=⟨(S.nP p hp).1,hz▸(S.nP p hp).2.1,nP p hp⟩
 nK:=hK▸fun p hp=>(List.not_mem_nil hp).elim
theorem SrcT.free {I:Addr}{ws:List Addr}{P:List (Addr×Obj)}{tgt:Expr}{xs:List PV}{St:Nat->Heap->Prop}{Mid:Nat->Value->Heap->Prop}{h:Heap} (S:SrcT f I ws P tgt xs St Mid h) {a:Addr} (ha:h.get? a=none):a∉ws∧∀ p∈P,p.1≠a :=
 ⟨fun e=>let ⟨_,_,h1,_⟩:=S.it 0 _ S.st _ e;nob ha h1,fun p hp e=>nob ha (e▸S.pins p hp)⟩
theorem comp_new (F:f.Ok sc d) {σ':Box}{s₀ s₂:Shared} (ex:Ext f s₀ s₂) (I₂:Inv f ρ σ' s₂) {a:Addr} (ha:s₂.heap.get? a=none):a∉f.Z∧s₀.heap.get? a=none:=by
 have z:a∉f.Z:=fun hz=>let ⟨_,ho⟩:=F.zlive σ' s₂.heap _ hz I₂.z;nob ha ho
 refine ⟨z,?_⟩
 exact back_none ha fun o q=>ex.keep a o z q
theorem comp_block {E:Value->Shared->Prop} (F:f.Ok sc d) {scope:Scope} (cs:CScope scope sc) {σ₀ σ':Box}{s₀ s₂:Shared} (I₀:Inv f ρ σ₀ s₀) (ex:Ext f s₀ s₂) (I₂:Inv f ρ σ' s₂) {elt tgt iter:Expr}{ifs:List Expr}{pos:Pos}{I:Addr}{ws:List Addr}{P:List (Addr×Obj)}{xs:List PV}
  {St:Nat->Heap->Prop}{Mid:Nat->Value->Heap->Prop}{names:List Str}{sp:PV->List PV->Prop} (hT:∀ g,Tgt g (relS scope sc) tgt names sp) (hnames:∀ x∈names,scope.names.lookup x=some .local)
  (S:SrcT f I ws P tgt xs St Mid s₂.heap) (hI:∀ b∈ws,s₀.heap.get? b=none) (hfp:∀ y r,ρ y=some r->∀ b∈ws,b∉r.sl.fp) (hlen:xs.length≤1000000) (hsp:∀ y∈xs,∃ zs,sp y zs∧zs.length=names.length) (J:Nat->List PV->Box->Prop) (h0:J 0 [] σ')
  (step:CompStep f (relS scope sc) d (compAb scope ρ) names sp xs ifs elt J X) {RR:Value->Env->Result->Shared->Prop}
  (ok:∀ D cenv s',cenv.frame=f.env.frame->CompEnd f s₀ (J xs.length) D cenv.locals s'->RR (.ref D) cenv (.ok .next) s') (err:∀ D cenv x s',cenv.frame=f.env.frame->X->CompExc f cenv.locals x s'->RR (.ref D) cenv (.error x) s') :
  wpAny (model f.c.prog f.c.w) f.A (newList []) (fun acc s₃=>wpAny (model f.c.prog f.c.w) f.A (newFunctionEnv scope f.env.globals (clOf scope.names f.env.cells) [] f.env.qual none .none (some f.env)) (fun cenv s₄ =>
   codeAny (model f.c.prog f.c.w) f.A (.compStart (.ListComp elt [⟨tgt,iter,ifs,0⟩] scope pos) 0 (.ref I) acc { cenv with scope:=relabel scope f.env }) (RR acc cenv) s₄) E s₃) E s₂:=by
 refine wpAny_newObj_type (wpAny_newFunctionEnv cs.cell (by intro y hy;simp at hy) (fun h₁ hns₁ hsb₁=>?_) cs.kind)
 dsimp only at hns₁ hsb₁ ⊢
 generalize hH2:s₂.heap.push { cls:=.type "list",dict:=none,data:=.seq ([]:List Value).toArray }=H2 at hns₁ hsb₁ ⊢
 have hCs:H2.objs.size=s₂.heap.objs.size+1:=by rw [← hH2];rw [Heap.size_push]
 have hDC:s₂.heap.objs.size≠H2.objs.size:=by rw [hCs];exact Nat.ne_of_lt (Nat.lt_succ_self _)
 have hD2:=none_from s₂.heap (Nat.le_refl _)
 have hC2:=none_from s₂.heap (a:=H2.objs.size) (by rw [hCs];exact Nat.le_succ _)
 have zOf:∀ a,s₂.heap.get? a=none->a∉f.Z:=fun a ha=>(comp_new F ex I₂ ha).1
 have new₀:∀ a,s₂.heap.get? a=none->s₀.heap.get? a=none:=fun a ha=>(comp_new F ex I₂ ha).2
 have old:Kp s₂.heap h₁:=fun b o e =>
  hsb₁.extBut b o (by rintro rfl;exact nob hC2 e) (Heap.get?_push_of_some _ (hH2▸Heap.get?_push_of_some _ e))
 have hacc:h₁.PlainList s₂.heap.objs.size #[]:=⟨_,hsb₁.extBut _ _ hDC (Heap.get?_push_of_some _ (hH2▸Heap.get?_push_size _ rfl))⟩
 have G:=comp_ok F cs I₀ ex I₂ hC2
 have V:=comp_inv F cs I₀ ex I₂ hC2 (tk:=s₂.toks+([]:List (Str×Value)).length) hns₁ old
 have live:∀ y r,ρ y=some r->∀ a∈r.sl.fp,s₂.heap.get? a≠none:=fun y r hy a ha q=>by
  obtain ⟨m,_,hv⟩:=I₂.vars
  obtain ⟨v,_,ok⟩:=hv y r hy
  obtain ⟨o,ho,_⟩:=ok.live a ha
  exact nob q ho
 have back:∀ y r,compAb scope ρ y=some r->scope.names.lookup y=some .free∧∃ r₀,ρ y=some r₀∧r=⟨r₀.sl,false⟩:=fun y r hy=>by
  unfold compAb at hy
  by_cases q:scope.names.lookup y=some .free
  ·rw [if_pos q] at hy
   obtain ⟨r₀,h1,h2⟩:=Option.map_eq_some_iff.mp hy
   exact ⟨q,r₀,h1,h2.symm⟩
  ·exact nob (if_neg q) hy
 have S':SrcT (f.compF scope (clOf scope.names f.env.cells) H2.objs.size s₀) I ws P tgt xs St Mid h₁:=S.up rfl rfl rfl rfl old hI fun p hp=>⟨(S.free hC2).2 p hp,fun q hq=>(S.nP p hp).2.2.2 q (mem_of_lookup (clOf_sound _ _ q hq))⟩
 have loop:∀ s₃:Shared,s₃={ s₂ with heap:=h₁,toks:=s₂.toks+([]:List (Str×Value)).length } ->
   codeAny (model f.c.prog f.c.w) f.A (.compLoop (.ListComp elt [⟨tgt,iter,ifs,0⟩] scope pos) 0 (.ref I) (.ref s₂.heap.objs.size) (compEnvC scope (clOf scope.names f.env.cells) H2.objs.size f.env))
    (RR (.ref s₂.heap.objs.size) (newEnv scope H2.objs.size f.env.globals (clOf scope.names f.env.cells) f.env.qual none .none (some f.env) builtinsNs)) s₃:=by
  rintro s₃ rfl
  refine comp_loop (L:=⟨f.compF scope (clOf scope.names f.env.cells) H2.objs.size s₀,compAb scope ρ,I,s₂.heap.objs.size,ws,P,xs,St,Mid,PV,.val,J⟩) (s:={ s₂ with heap:=h₁,toks:=s₂.toks+([]:List (Str×Value)).length }) ⟨G,S',new₀ _ hD2,zOf _ hD2,(fun p hp=>(List.not_mem_nil hp).elim),(S.free hD2).1,(S.free hD2).2,?_,Ne.symm hDC,?_,?_,?_⟩ (hT _) V hacc ?_ hlen h0
   (fun g hs _ hg=>step g ⟨hs.c,hs.z,hs.zok,fun p hp=>by rw [hs.h];exact I₀.pin p hp⟩ hg) hsp ?_ ?_
  ·intro y r hy ha
   obtain ⟨_,r₀,h1,rfl⟩:=back y r hy
   exact live y r₀ h1 _ ha hD2
  ·rintro q hq e
   obtain ⟨v,oc,hc,_⟩:=I₂.cells q (mem_of_lookup (clOf_sound _ _ q hq))
   rw [e,hD2] at hc;exact non hc
  ·exact frs_ne F I₂ hD2
  ·intro y r hy
   obtain ⟨_,r₀,_,rfl⟩:=back y r hy
   rfl
  ·intro x r hx hm
   obtain ⟨h1,_⟩:=back x r hx
   cases (hnames x hm).symm.trans h1
  ·intro ys σ'' s' hJ V' hl _
   have e1:Ext f s₀ s':=⟨V'.same,fun b o hb e=>V'.keep b o hb e⟩
   obtain ⟨m,hm,_⟩:=V'.vars
   exact ok _ _ s' rfl ⟨e1,new₀ _ hD2,new₀ _ hC2,hDC,zOf _ hD2,zOf _ hC2,⟨m,hm⟩,ys,σ'',V'.z,List.map_id' ys▸hl,hJ⟩
  ·intro x s' hx hh
   obtain ⟨⟨e,L,rfl,hL,q⟩,m,hm⟩:=hh
   obtain ⟨m₀,hn₀,_⟩:=I₀.vars
   have kd0:KD f.Z f.H.heap s₀.heap:=KD.of I₀.keep
   have mk:∀ s'',ExcAt f.c f.Z f.frs s₀ e (some (rawInt L)) s''->Held f (.ref e) s'':=fun s'' q=>by
    refine ⟨⟨e,L,rfl,hL,⟨?_,q.base,q.new,q.ff,q.fl,kd0.trans q.kd⟩⟩,m₀,q.kd.ns F.lz hn₀⟩
    obtain ⟨h1,t1,e1⟩:=I₀.same
    obtain ⟨h2,t2,e2⟩:=q.same
    exact ⟨h2,t2,by rw [e2];rw [e1]⟩
   refine err _ _ _ _ rfl hx ⟨mk s' q,⟨m,hm⟩,fun h' hs=>mk _ ?_⟩
   obtain ⟨oC,esC,epC,hoC,hdC,_⟩:=id hm
   have hoC':s'.heap.get? H2.objs.size=some oC:=hoC
   have kd2:KD [] s'.heap h'->KD f.Z s'.heap h':=KD.wider
   have neC:∀ b o,s'.heap.get? b=some o->(∃ vs,o.data=.fields vs)->b≠H2.objs.size:=fun b o hb ⟨vs,hv⟩ e=>by
    rw [e,hoC'] at hb;cases hb;cases hdC.symm.trans hv
   have keepC:KpN H2.objs.size s'.heap h':=fun b o hb e=>(hs.2 b hb).trans e
   have base0:f.c.base.get? H2.objs.size=none:=by
    exact back_none hC2 fun o q'=>Inv.kb (f:=f) F I₂ _ o q'
   obtain ⟨⟨hh,tt,es⟩,qb,qn,qff,⟨oe,vs,T,oT,ts,he,hc,hd,h1,hnT,hTe,hT',hdT,h3⟩,qkd⟩:=q
   refine ⟨⟨h',tt,by rw [es];rfl⟩,fun b o e'=>keepC b o (by rintro rfl;exact nob base0 e') (qb b o e'),qn,?_,?_,?_⟩
   ·exact ff_of (fun en hen b o hf e' hd=>⟨o,keepC b o (by rintro rfl;exact frs_ne F I₂ hC2 en hen hf) e',hd⟩) qff
   ·exact ⟨oe,vs,T,oT,ts,keepC e oe (neC e oe he ⟨_,hd⟩) he,hc,hd,h1,hnT,hTe,keepC T oT (neC T oT hT' ⟨_,hdT⟩) hT',hdT,h3⟩
   ·intro b o hb e' n
    have hbC:b≠H2.objs.size:=by
     rintro rfl
     have e'':s₀.heap.get? H2.objs.size=some o:=e'
     exact nob (new₀ _ hC2) e''
    obtain ⟨o',e1,r⟩:=qkd b o hb e' n
    exact ⟨o',keepC b o' hbC e1,r⟩
 exact codeAny_compStart_list (loop _ rfl) (S.W.self 0 _ _ _ (S.W.frame 0 _ _ S.st fun b _ o e=>old b o e) (loop _ rfl))
end
end
section
section
variable {f:Fx}{sc:Scope}{d:Nat}{ρ:Ab}{σ:Box}{s:Shared}{X:Prop}{Q:RV->Box->Prop}{N:Ab->Box->Prop}{R:RV->Box->Prop}
noncomputable def CompQ (f:Fx) (gs:Scope) (d:Nat) (ρ':Ab) (names:List Str) (sp:PV->List PV->Prop) (ifs:List Expr) (elt:Expr) (K:List PV->Box->Prop) (X:Prop) (xs:List PV) (σ':Box):Prop :=
 xs.length≤1000000∧(∀ y∈xs,∃ zs,sp y zs∧zs.length=names.length)∧∃ J:Nat->List PV->Box->Prop,J 0 [] σ'∧CompStep f gs d ρ' names sp xs ifs elt J X∧∀ ys σ'',J xs.length ys σ''->K ys σ''
theorem comp_post (F:f.Ok sc d) {σ₀:Box} (I:Inv f ρ σ₀ s) {J:List PV->Box->Prop}{D C:Addr}{s':Shared} (e:CompEnd f s J D C s') (k:∀ ys σ',J ys σ'->Q ⟨.lst D ys,true⟩ σ') {h':Heap} (hs:Heap.SameBut C s'.heap h'):Post f s Q (.ref D) { s' with heap:=h' }:=by
 obtain ⟨m,hn⟩:=e.ns
 obtain ⟨ys,σ',hz,hl,hJ⟩:=e.res
 have keepC:KpN C s'.heap h':=fun b o hb q=>(hs.2 b hb).trans q
 refine ⟨⟨.lst D ys,true⟩,σ',⟨?_,fun b o hb q=>keepC b o (by rintro rfl;exact nob e.cNew q) (e.ext.keep b o hb q)⟩,F.zsame σ' s'.heap h' (fun b o hb q=>keepC b o (by rintro rfl;exact e.cz hb) q) hz,⟨⟨rfl,hl.mono (tk_sameBut hs fun o q _=>ns_noseq hn o q) fun o q=>keepC D o e.ne q⟩,fun _ a ha=>?_⟩,fun a ha=>?_,k ys σ' hJ⟩
 ·obtain ⟨h₁,tk,q⟩:=e.ext.same
  exact ⟨h',tk,by exact q▸rfl⟩
 ·obtain rfl:=List.mem_singleton.mp ha;exact e.dNew
 ·obtain rfl:=List.mem_singleton.mp ha;exact e.dz
theorem EV_Comp (F:f.Ok sc d) {scope:Scope} (cs:CScope scope sc) (hcells:∀ x∈scope.names,x.2=.free->∃ a,f.env.cells.lookup x.1=some a) {elt tgt iter:Expr}{ifs:List Expr}{pos:Pos}{names:List Str}{sp:PV->List PV->Prop}
  (hT:∀ g,Tgt g (relS scope sc) tgt names sp) (hnames:∀ x∈names,scope.names.lookup x=some .local)
  (h:EST f false tgt ρ σ iter (CompQ f (relS scope sc) d (compAb scope ρ) names sp ifs elt (fun ys σ'=>∀ a,Q ⟨.lst a ys,true⟩ σ') False) X)
  (hs:∀ x,foldedSetIterable iter f.env x=pure x:=by intro _;rfl):EV f ρ σ (.ListComp elt [⟨tgt,iter,ifs,0⟩] scope pos) Q X:=fun s I=>by
 rw [eval_ListComp]
 refine wpAny_comprehension_free (use:=none) rfl hs (closureFor_eq hcells) cs.kind cs.loc (wpAny_mono (h s I) (fun x s₁ h₁=>wpAny_mono h₁ (fun it s₂ h₂=>?_) fun _ _ x=>x) fun _ _ x=>x)
 obtain ⟨I',ws,P,xs,St,Mid,σ',rfl,ex,z,S,hfp,hI,hlen,hsp,J,h0,step,fin⟩:=h₂
 refine comp_block F cs I ex (I.ext F ex z) hT hnames S hI (fun y r hy=>(hfp y r hy).1) hlen hsp J h0 step (fun D cenv s' _ e=>?_) (fun D cenv x s' _ hx=>hx.elim)
 exact ⟨_,e.ns.choose_spec,fun h' hs'=>comp_post F I e (fun ys σ'' hJ=>fin ys σ'' hJ D) hs'⟩
theorem swaps_true (F:f.Ok sc d) {elt:Expr}{gens:List Comprehension}{scope:Scope}{pos spos py:Pos}{y:Str} (hy:sc.names.lookup y=some .local) (hl:(py.line == pos.line)=true) (hn:(scope.names.any fun (n,k)=>n == y && (k == .local || k == .cell))=false) :
  swapsWith (.ListComp elt gens scope pos) (some (.Name y py)) spos.line f.env=pure true:=by
 have hb:f.env.blockKind=.function:=by
  unfold Env.blockKind
  refine F.scope▸?_;refine F.kind.symm▸?_;rfl
 have hk:f.env.kindOf y=some .local:=by unfold Env.kindOf;refine F.scope▸?_;exact hy
 have hl':(py.line == (Expr.ListComp elt gens scope pos).pos.line)=true:=hl
 unfold swapsWith
 simp only
 refine hb.symm▸?_;refine hk.symm▸?_;refine hl'.symm▸?_;refine hn.symm▸?_
 rfl
theorem swaps_false (F:f.Ok sc d) {e:Expr}{spos py:Pos}{y:Str} (hy:sc.names.lookup y=some .cell):swapsWith e (some (.Name y py)) spos.line f.env=pure false:=by
 have hk:f.env.kindOf y=some .cell:=by unfold Env.kindOf;refine F.scope.symm▸?_;exact hy
 unfold swapsWith
 split
 ·simp only
  refine hk.symm▸?_;refine (show (some NameKind.cell == some NameKind.local)=false from rfl).symm▸?_
  simp
 ·rfl
theorem use_post {E:Value->Shared->Prop} (F:f.Ok sc d) {σ₀:Box} (I:Inv f ρ σ₀ s) {y:Str}{py:Pos} (hy:Stores f sc y) {J:List PV->Box->Prop}{D C:Addr}{s':Shared} (e:CompEnd f s J D C s') (k:∀ ys σ',J ys σ'->N (set ρ y ⟨.lst D ys,true⟩) σ') :
  wpAny (model f.c.prog f.c.w) f.A (assign (.Name y py) f.env (.ref D)) (fun _ s''=>∃ m,s''.heap.Ns C m∧∀ h',Heap.SameBut C s''.heap h'->XP f N R .next { s'' with heap:=h' }) E s':=by
 obtain ⟨m,hn⟩:=e.ns
 obtain ⟨ys,σ',hz,hl,hJ⟩:=e.res
 have I':=I.ext F e.ext hz
 refine wpAny_assign_Name (I'.storeK F hy (sl:=⟨.lst D ys,true⟩) ⟨rfl,hl⟩ (SlotFits.fresh F I (fun a ha=>by obtain rfl:=List.mem_singleton.mp ha;exact e.dz) fun a ha=>by obtain rfl:=List.mem_singleton.mp ha;exact e.dNew) fun s'' I'' K=>?_)
 have hLC:C≠f.env.locals:=by
  rintro rfl
  obtain ⟨m,⟨oL,_,_,hL,_⟩,_⟩:=I.vars
  exact nob e.cNew hL
 have hCC:∀ p∈f.env.cells,p.2≠C:=by
  rintro p hp rfl
  obtain ⟨v,oc,hc,_⟩:=I.cells p hp
  exact nob e.cNew hc
 have hn':s''.heap.Ns C m:=hn.at' fun o q=>K.at' C o hLC hCC q
 refine ⟨m,hn',fun h' hs=>⟨_,σ',Inv.lone F I I'' e.cNew hn' (fun z r hz' ha=>?_) e.cz hs,k ys σ' hJ⟩⟩
 unfold Mine.set at hz'
 by_cases q:z=y
 ·cases (if_pos q).symm.trans hz'
  exact e.ne (List.mem_singleton.mp ha).symm
 ·rw [if_neg q] at hz'
  obtain ⟨m,_,hv⟩:=I.vars
  obtain ⟨v,_,ok⟩:=hv z r hz'
  obtain ⟨o,ho,_⟩:=ok.live C ha
  exact nob e.cNew ho
theorem XS_AssignComp (F:f.Ok sc d) {scope:Scope} (cs:CScope scope sc) (hcells:∀ x∈scope.names,x.2=.free->∃ a,f.env.cells.lookup x.1=some a) {elt tgt iter:Expr}{ifs:List Expr}{pos spos py:Pos}{y:Str}{names:List Str}{sp:PV->List PV->Prop}
  (hy:sc.names.lookup y=some .local) (hT:∀ g,Tgt g (relS scope sc) tgt names sp) (hnames:∀ x∈names,scope.names.lookup x=some .local)
  (h:EST f false tgt ρ σ iter (CompQ f (relS scope sc) d (compAb scope ρ) names sp ifs elt (fun ys σ'=>∀ a,N (set ρ y ⟨.lst a ys,true⟩) σ') False) X)
  (hl:(py.line == pos.line)=true:=by rfl) (hn:(scope.names.any fun (n,k)=>n == y && (k == .local || k == .cell))=false:=by rfl)
  (hs:∀ x,foldedSetIterable iter f.env x=pure x:=by intro _;rfl):XS f ρ σ (.Assign [.Name y py] (.ListComp elt [⟨tgt,iter,ifs,0⟩] scope pos) spos) N R X:=fun s I=>by
 refine wp_eq (exec_Assign_Name_used _ _ _ _ (swaps_true F hy hl hn)) ?_
 refine wpAny_bind (wpAny_standAt (wpAny_bind ?_))
 refine wpAny_bind (wpAny_mono (wpAny_comprehension_free (Q:=fun _ s'=>XP f N R .next s') (use:=some (assign (.Name y py) f.env)) rfl hs (closureFor_eq hcells) cs.kind cs.loc (wpAny_mono (h s I) (fun x s₁ h₁=>wpAny_mono h₁ (fun it s₂ h₂=>?_) fun _ _ x=>x) fun _ _ x=>x))
  (fun _ s' hq=>wpAny_pure (wpAny_pure hq)) fun _ _ e=>e)
 obtain ⟨I',ws,P,xs,St,Mid,σ',rfl,ex,z,S,hfp,hI,hlen,hsp,J,h0,step,fin⟩:=h₂
 refine comp_block F cs I ex (I.ext F ex z) hT hnames S hI (fun y r hy=>(hfp y r hy).1) hlen hsp J h0 step (fun D cenv s' _ e=>?_) (fun D cenv x s' _ hx=>hx.elim)
 exact use_post F I (.inl hy) e fun ys σ'' hJ=>fin ys σ'' hJ D
theorem clOf_nil {names:List (Str×NameKind)}{cells:List (Str×Addr)} (h:∀ x∈names,x.2≠.free):clOf names cells=[]:=by
 unfold clOf
 generalize ([]:List (Str×Addr))=acc
 induction names with
 | nil=>rfl
 | cons x r ih =>
  rw [List.foldl_cons];rw [if_neg (by simpa using h x (.head _))]
  exact ih fun y hy=>h y (.tail _ hy)
theorem relabel_nofree {scope:Scope}{env:Env} (h:∀ x∈scope.names,x.2≠.free):relabel scope env=scope:=by
 unfold relabel
 obtain ⟨k,names,a,b,c⟩:=scope
 simp only at h
 congr 1
 rw [List.map_congr_left (g:=id)]
 ·simp
 ·intro x hx
  obtain ⟨n,kk⟩:=x
  have:(kk == NameKind.free)=false:=by simpa using h _ hx
  simp [this]
theorem XS_AssignCompX (F:f.Ok sc d) {scope:Scope} (cs:CScope scope sc) (hfree:∀ x∈scope.names,x.2≠.free) {elt tgt iter:Expr}{ifs:List Expr}{pos spos py:Pos}{y:Str}{names:List Str}{sp:PV->List PV->Prop}
  (hy:sc.names.lookup y=some .local) (hT:∀ g,Tgt g (relS scope sc) tgt names sp) (hnames:∀ x∈names,scope.names.lookup x=some .local)
  (h:EST f false tgt ρ σ iter (CompQ f (relS scope sc) d (compAb scope ρ) names sp ifs elt (fun ys σ'=>∀ a,N (set ρ y ⟨.lst a ys,true⟩) σ') X) X)
  (hl:(py.line == pos.line)=true:=by rfl) (hn:(scope.names.any fun (n,k)=>n == y && (k == .local || k == .cell))=false:=by rfl)
  (hs:∀ x,foldedSetIterable iter f.env x=pure x:=by intro _;rfl):XS f ρ σ (.Assign [.Name y py] (.ListComp elt [⟨tgt,iter,ifs,0⟩] scope pos) spos) N R X:=fun s I=>by
 refine wp_eq (exec_Assign_Name_used _ _ _ _ (swaps_true F hy hl hn)) ?_
 refine wpAny_bind (wpAny_standAt (wpAny_bind ?_))
 refine wpAny_bind (wpAny_mono (wpAny_comprehension_use (Q:=fun _ s'=>XP f N R .next s') rfl hs hfree cs.kind cs.loc (wpAny_mono (h s I) (fun x s₁ h₁=>wpAny_mono h₁ (fun it s₂ h₂=>?_) fun _ _ x=>x) fun _ _ x=>x))
  (fun _ s' hq=>wpAny_pure (wpAny_pure hq)) fun _ _ e=>e)
 obtain ⟨I',ws,P,xs,St,Mid,σ',rfl,ex,z,S,hfp,hI,hlen,hsp,J,h0,step,fin⟩:=h₂
 have blk:=comp_block (E:=ExP f X) (elt:=elt) (iter:=iter) (pos:=pos) F cs I ex (I.ext F ex z) hT hnames S hI (fun y r hy=>(hfp y r hy).1) hlen hsp J h0 step (RR:=fun acc cenv r s'=>match r with
   | .ok _=>wpAny (model f.c.prog f.c.w) f.A (assign (.Name y py) f.env acc) (fun _ s''=>∃ m,s''.heap.Ns cenv.locals m∧∀ h',Heap.SameBut cenv.locals s''.heap h'->XP f N R .next { s'' with heap:=h' }) (ExP f X) s'
   | .error x=>∃ m,s'.heap.Ns cenv.locals m∧∀ h',Heap.SameBut cenv.locals s'.heap h'->wpAny (model f.c.prog f.c.w) f.A (PySem.passOn "comprehension.variables-let-go" x { cenv with scope:=scope }:Sem Value) (fun _ s'=>XP f N R .next s') (ExP f X) { s' with heap:=h' })
  (fun D cenv s' _ e=>use_post F I (.inl hy) e fun ys σ'' hJ=>fin ys σ'' hJ D)
  (fun D cenv x s' hfr hx e=>⟨e.ns.choose,e.ns.choose_spec,fun h' hs'=>pass_held (f:=f) hfr (e.frz h' hs') fun s'' hh=>⟨hx,by
   obtain ⟨⟨e',L,h1,h2,h3⟩,hm⟩:=hh
   exact ⟨⟨e',_,h1,h3,.inr (.inr ⟨L,h2,rfl⟩)⟩,hm⟩⟩⟩)
 rw [clOf_nil hfree,relabel_nofree hfree] at blk
 exact blk
end
end
section
section
variable {f:Fx}{sc:Scope}{d:Nat}{ρ:Ab}{σ:Box}{s:Shared}{X:Prop}{Q:RV->Box->Prop}{N:Ab->Box->Prop}{R:RV->Box->Prop}
noncomputable def ups (n:Nat):List PV:=(List.range n).map fun k=>.int (k:Nat)
inductive RArg (K:Nat->Prop) (r:RV):Prop
 | mk (n:Nat):r.sl=.val (.int n)->n≤1000000->K n->RArg K r
theorem ES_Range (F:f.Ok sc d) {M:Bool}{p pos:Pos}{e:Expr}{Q:List PV->Box->Prop} (hx:sc.names.lookup ("range":Str)=some .globalImplicit)
  (h:EV f ρ σ e (fun r σ'=>RArg (fun n=>Q (ups n) σ') r) X)
  (he:starEach [e] f.env=(false,eval e f.env) :: starEach [] f.env:=by rfl):ES f M ρ σ (.Call (.Name "range" p) [e] [] pos) Q X:=fun s I=>by
 refine wp_type1 F hx (by decide) blt_range (by decide) h he I fun v s₁ r σ' ex I₁ ok hq_=>?_
 obtain ⟨n,hr,hn,q⟩:=hq_
 have a1:=ok.1
 replace a1:=hr▸a1
 obtain ⟨t,rfl⟩:=Im.toInt a1
 have hn63:(n:Int) < 2 ^ 62:=by lia
 refine call_range_1 (wpAny_pyIter_range (IsRange.new ..) (small_one (by decide) (by decide) (by lia) hn63) ?_)
 generalize hH:s₁.heap.push { cls:=.type "range",data:=.fields #[.int 0 s₁.toks,.int (n:Int) t,.int 1 (s₁.toks+1)] }=H
 have kp:Kp s₁.heap H:=fun b o e=>hH▸Heap.get?_push_of_some _ e
 have e2:Builtin.Range.rangeSize 0 n 1=n:=by refine (rangeSize_one ..)▸?_;split <;> lia
 have I₂:Inv f ρ σ' { s₁ with heap:=H,toks:=s₁.toks+1+1 }:=I₁.ext F (Ext.of kp) (F.zsame σ' s₁.heap H (fun b o _ e=>kp b o e) I₁.z)
 obtain ⟨n1,n2,n3,n4⟩:=src_new F I₂
 have ex2:Ext f s { s₁ with heap:=H,toks:=s₁.toks+1+1 }:=ex.trans (Ext.of kp)
 have kp2:Kp H (H.push { cls:=.type "range_iterator",data:=.fields #[rawInt 0,rawInt (Builtin.Range.rangeSize 0 n 1),rawInt 1] }):=fun _ _ e=>Heap.get?_push_of_some _ e
 have st0:IsRangeIter (H.push { cls:=.type "range_iterator",data:=.fields #[rawInt 0,rawInt (Builtin.Range.rangeSize 0 n 1),rawInt 1] }) H.objs.size (0+((0:Nat):Int) * 1) ((n:Int) - ((0:Nat):Int)) 1:=by
  have:=Heap.get?_push_size (h:=H) (o:={ cls:=.type "range_iterator",data:=.fields #[rawInt 0,rawInt (Builtin.Range.rangeSize 0 n 1),rawInt 1] }) rfl
  rw [e2] at this ⊢
  simpa using this
 refine ⟨H.objs.size,[],n,_,_,ups n,σ',rfl,ex2.trans (Ext.of (s:={ s₁ with heap:=H,toks:=s₁.toks+1+1 }) (tk:=s₁.toks+1+1) kp2),F.zsame σ' H _ (fun b o _ e=>kp2 b o e) I₂.z, { W:=Walks.range F.handled H.objs.size 0 1 n,st:=st0,it:=?_,pins:=fun p hp=>(List.not_mem_nil hp).elim,new:=n1,nz:=n2,nP:=fun p hp=>(List.not_mem_nil hp).elim,nK:=n3 },by simp [ups],?_,fun y r hy hr=>⟨n4 y r hy,fun _ p hp=>(List.not_mem_nil hp).elim⟩,ext_new ex2 n2,q⟩
 ·intro i h hi
  exact ⟨_,_,hi,(by show Value.type "range_iterator"≠Value.type "list";decide),(by show Value.type "range_iterator"≠Value.type "dict";decide),rfl⟩
 ·rintro i v h hi ⟨t,rfl⟩ _
  refine ⟨.int (i:Nat),by simp [ups,hi],?_⟩
  have e:(0:Int)+(i:Nat) * 1=(i:Nat):=by lia
  refine e.symm▸?_
  exact .int _ t
end
end
section
section
variable {f:Fx}{sc:Scope}{d:Nat}{ρ:Ab}{σ:Box}{s:Shared}{X:Prop}{Q:RV->Box->Prop}{N:Ab->Box->Prop}{R:RV->Box->Prop}
theorem ListAt.isL {h:Heap}{a:Addr}{xs:List PV} (x:ListAt h a xs):∃ vs n,IsL h a vs n∧Ims h vs.toList xs:=by
 obtain ⟨⟨vs,⟨⟨c,dd,da,sl⟩,ho,hc,n,hd⟩,hi⟩,hx⟩:=x
 obtain ⟨h1,h2⟩:=hx _ ho
 simp only at hc hd h1 h2
 subst hc hd h1 h2
 exact ⟨vs,n,ho,hi⟩
theorem IsL.listAt {h:Heap}{a:Addr}{vs:Array Value}{n:Nat}{xs:List PV} (x:IsL h a vs n) (hi:Ims h vs.toList xs):ListAt h a xs:=⟨⟨vs,x.isList,hi⟩,fun o e=>by cases x.symm.trans e;exact ⟨rfl,rfl⟩⟩
theorem XS_listMethod (F:f.Ok sc d) {x:Str}{name:Str}{id:String}{p ap cp pos:Pos}{e:Expr}{a:Addr}{sl:Slot} (hsl:∀ {h v},sl.ok f.c h v->v=.ref a∧∃ vs n,IsL h a vs n) (slot:PySem.Slot "list" name id) (hty:typeOf (.builtin id)=pure (.type "method_descriptor"))
  (hρ:ρ x=some ⟨sl,true⟩) (hd:(x == ("__debug__":Str))=false) (hc:(x == ("__classdict__":Str))=false)
  (hbase:attributeBase (.Name x p) name f.env (eval (.Name x p) f.env)=eval (.Name x p) f.env) (hline:(ap.endLine == cp.line)=true) (htrees:backTo cp (starEach [e] f.env)=[(false,eval e f.env)])
  (h:∀ s,Inv f ρ σ s->wpAny (model f.c.prog f.c.w) f.A (callWith cp (.builtin id) [.ref a] [(false,eval e f.env)] []) (fun v s'=>v=.none∧XN f N s') (ExP f X) s) :
  XS f ρ σ (.Expr (.Call (.Attribute (.Name x p) name ap) [e] [] cp) pos) N R X:=fun s I=>by
 refine wpAny_Expr (wpAny_mono (Q:=fun v s'=>v=.none∧XN f N s') ?_ (fun v s' ⟨hv,q⟩=>by subst hv;exact q) fun _ _ x=>x) (by unfold interactive;refine F.scope▸?_;refine F.kind▸?_;rfl)
 refine wpAny_Call_method1_late hbase hline htrees ?_
 refine EV.use F (EV_Name F (X:=X) (Q:=fun r σ'=>r=⟨sl,false⟩∧σ'=σ) hρ ⟨rfl,rfl⟩ hd hc) I (fun _ _ x=>x) fun v s₁ r σ' ex I₁ ok off hq_=>?_
 obtain ⟨e1,e2⟩:=hq_
 subst e1 e2
 obtain ⟨rfl,vs,n,hL⟩:=hsl ok.1
 exact ⟨"list",id,PySem.F.plainAttrs_list,slot,hty,⟨_,hL,rfl⟩,fun b hb=>by cases hb;exact ⟨_,hL,rfl⟩,h s₁ I₁⟩
theorem lst_isL {c:Cx}{h:Heap}{v:Value}{a:Addr}{xs:List PV} (ok:(Slot.lst a xs).ok c h v):v=.ref a∧∃ vs n,IsL h a vs n:=⟨ok.1,let ⟨vs,n,h,_⟩:=ok.2.isL;⟨vs,n,h⟩⟩
theorem own_lst (F:f.Ok sc d) {σ':Box} (I:Inv f ρ σ' s) {x:Str}{a:Addr}{xs ys:List PV} (hρ:ρ x=some ⟨.lst a xs,true⟩) {h':Heap}{vs:Array Value}{n:Nat} (hs:Heap.SameBut a s.heap h') (hl:IsL h' a vs n) (hi:Ims s.heap vs.toList ys) :
  Inv f (set ρ x ⟨.lst a ys,true⟩) σ' { s with heap:=h' }:=by
 have ha:∃ o,s.heap.get? a=some o∧o.cls≠.type "tuple":=by
  obtain ⟨m,_,hv⟩:=I.vars
  obtain ⟨v,_,ok⟩:=hv x _ hρ
  exact ok.live a (.head _)
 obtain ⟨o₀,ho₀,hc₀⟩:=ha
 have tk:TK s.heap h':=tk_sameBut hs fun o e c=>by cases ho₀.symm.trans e;exact absurd c hc₀
 exact I.change (tk:=s.toks) F hρ rfl rfl hs (fun o e vs q=>by cases hl.symm.trans e;cases q) fun v ok=>⟨ok.1,IsL.listAt hl (hi.mono tk)⟩
theorem XS_Append (F:f.Ok sc d) {x:Str}{p ap cp pos:Pos}{e:Expr}{a:Addr}{xs:List PV} (hρ:ρ x=some ⟨.lst a xs,true⟩) (hlen:xs.length≤1000000)
  (h:EV f ρ σ e (fun r σ'=>∃ y,r.sl=.val y∧N (set ρ x ⟨.lst a (xs ++ [y]),true⟩) σ') X)
  (hd:(x == ("__debug__":Str))=false:=by decide) (hc:(x == ("__classdict__":Str))=false:=by decide)
  (hbase:attributeBase (.Name x p) ("append":Str) f.env (eval (.Name x p) f.env)=eval (.Name x p) f.env:=by rfl) (hline:(ap.endLine == cp.line)=true:=by rfl) (htrees:backTo cp (starEach [e] f.env)=[(false,eval e f.env)]:=by rfl) :
  XS f ρ σ (.Expr (.Call (.Attribute (.Name x p) "append" ap) [e] [] cp) pos) N R X :=
 XS_listMethod F lst_isL PySem.F.slot_list_append PySem.F.type_list_append hρ hd hc hbase hline htrees fun s I=>P.append_list (h.use F I (fun _ _ x=>x) fun v s₁ r σ' ex I₁ ok off hq_=>by
  obtain ⟨y,hy,q⟩:=hq_
  obtain ⟨m,_,hv⟩:=I₁.vars
  obtain ⟨u,_,oku⟩:=hv x _ hρ
  obtain ⟨vs,n,hL,hi⟩:=oku.2.isL
  have e1:=hi.length
  simp only [Array.length_toList] at e1
  refine ⟨vs,n,by rw [e1];exact sizeLine_ge hlen,hL,rfl,_,σ',own_lst F I₁ hρ (vs:=vs.push v) (Heap.SameBut.update ..) (hL.update (·.push v)) ?_,q⟩
  have o1:=ok.1
  rw [hy] at o1
  have:=hi.append (.cons (show Im s₁.heap v y from o1) .nil)
  simpa using this)
theorem XS_Extend (F:f.Ok sc d) {x:Str}{p ap cp pos:Pos}{e:Expr}{a:Addr}{xs:List PV} (hρ:ρ x=some ⟨.lst a xs,true⟩)
  (h:EV f ρ σ e (fun r σ'=>∃ b ys,r.sl=.lst b ys∧xs.length+ys.length≤1000000∧N (set ρ x ⟨.lst a (xs ++ ys),true⟩) σ') X)
  (hd:(x == ("__debug__":Str))=false:=by decide) (hc:(x == ("__classdict__":Str))=false:=by decide)
  (hbase:attributeBase (.Name x p) ("extend":Str) f.env (eval (.Name x p) f.env)=eval (.Name x p) f.env:=by rfl) (hline:(ap.endLine == cp.line)=true:=by rfl) (htrees:backTo cp (starEach [e] f.env)=[(false,eval e f.env)]:=by rfl) :
  XS f ρ σ (.Expr (.Call (.Attribute (.Name x p) "extend" ap) [e] [] cp) pos) N R X :=
 XS_listMethod F lst_isL PySem.F.slot_list_extend PySem.F.type_list_extend hρ hd hc hbase hline htrees fun s I=>P.extend_list (h.use F I (fun _ _ x=>x) fun v s₁ r σ' ex I₁ ok off hq_=>by
  obtain ⟨b,ys,hy,hle,q⟩:=hq_
  obtain ⟨m,_,hv⟩:=I₁.vars
  obtain ⟨u,_,oku⟩:=hv x _ hρ
  obtain ⟨vs,n,hL,hi⟩:=oku.2.isL
  have o1:=ok.1
  rw [hy] at o1
  obtain ⟨e0,l2⟩:=o1
  obtain ⟨ws,n2,hL2,hi2⟩:=l2.isL
  have e1:=hi.length
  have e2:=hi2.length
  simp only [Array.length_toList] at e1 e2
  have hs:vs.size+ws.size≤sizeLine:=sizeLine_ge (by lia)
  refine ⟨b,vs,ws,n,n2,by lia,Nat.le_succ_of_le hs,PyProof.Rows.extend_door hs,e0,hL,hL2,rfl,_,σ',own_lst F I₁ hρ (vs:=vs ++ ws) (Heap.SameBut.update ..) (hL.update (· ++ ws)) ?_,q⟩
  have:=hi.append hi2
  simpa using this)
end
end
section
section
variable {f:Fx}{sc:Scope}{d:Nat}{ρ:Ab}{σ:Box}{s:Shared}{X:Prop}{Q:RV->Box->Prop}{N:Ab->Box->Prop}{R:RV->Box->Prop}
noncomputable def EVo (f:Fx) (ρ:Ab) (σ:Box) (e:Option Expr) (Q:Option Int->Box->Prop) (X:Prop):Prop :=
 match e with
 | none=>Q none σ
 | some e=>EV f ρ σ e (fun r σ'=>∃ i,r.sl=.val (.int i)∧Q (some i) σ') X
theorem EVo_none {Q:Option Int->Box->Prop} (h:Q none σ):EVo f ρ σ none Q X:=h
theorem EVo_some {e:Expr}{Q:Option Int->Box->Prop} (h:EV f ρ σ e (fun r σ'=>∃ i,r.sl=.val (.int i)∧Q (some i) σ') X):EVo f ρ σ (some e) Q X:=h
theorem EVo.use {e:Option Expr}{Q:Option Int->Box->Prop}{Qc:Value->Shared->Prop}{E:Value->Shared->Prop} (F:f.Ok sc d) (h:EVo f ρ σ e Q X) (I:Inv f ρ σ s) (hE:∀ x s',X∧Exc f x s'->E x s')
  (k:∀ v s' o σ',Ext f s s'->Inv f ρ σ' s'->IsPart v o->Q o σ'->Qc v s'):wpAny (model f.c.prog f.c.w) f.A (evalPart e f.env) Qc E s:=by
 cases e with
 | none=>refine (evalPart_none ..)▸?_;exact wpAny_pure (k _ _ none σ (.refl ..) I .none h)
 | some e =>
  refine (evalPart_some ..)▸?_
  refine EV.use F h I hE fun v s' r σ' ex I' ok off hq_=>?_
  obtain ⟨i,hi,q⟩:=hq_
  have o1:=ok.1
  replace o1:=hi▸o1
  obtain ⟨_,rfl⟩:=Im.toInt o1
  exact k _ _ (some i) σ' ex I' (.int _ _) q
noncomputable def PickIs (l u k:Option Int) (xs ys:List PV):Prop :=
 match l,u,k with
 | some i,none,none=>0≤i∧ys=xs.drop i.toNat
 | none,some i,none=>0≤i∧ys=xs.take i.toNat
 | none,none,some i=>i=-1∧ys=xs.reverse
 | _,_,_=>False
noncomputable def SliQ (r:RV) (l u k:Option Int) (K:RV->Prop):Prop :=
 match r.sl with
 | .lst _ xs=>xs.length≤1000000∧∃ ys,PickIs l u k xs ys∧∀ a,K ⟨.lst a ys,true⟩
 | .val (.tup xs)=>xs.length≤1000000∧∃ i,l=some i∧u=none∧k=none∧1≤i∧i.toNat≤xs.length∧K (.im (.tup (xs.drop i.toNat)))
 | _=>False
theorem Ims.pick {h:Heap}{vs:Array Value}{xs ys:List PV} (hi:Ims h vs.toList xs) {l u k:Option Int} (hq:PickIs l u k xs ys):Ims h (slicePick vs l u k).toList ys∧k≠some 0:=by
 have lo:∀ i:Int,0≤i->Ims h (slicePick vs (some i) none none).toList (xs.drop i.toNat):=fun i h0=>by
  have:kms_pick vs.toList (some i) none=vs.toList.drop i.toNat:=by
   unfold kms_pick kms_lo kms_hi
   simp only [if_neg (Int.not_lt.mpr h0)]
   rw [kmk_drop_min];exact List.take_of_length_le (by rw [List.length_drop];exact Nat.sub_le_sub_left (Nat.min_le_left ..) _)
  exact kms_pick_eq ..▸this▸hi.drop _
 have up:∀ i:Int,0≤i->Ims h (slicePick vs none (some i) none).toList (xs.take i.toNat):=fun i h0=>by
  have:kms_pick vs.toList none (some i)=vs.toList.take i.toNat:=by
   unfold kms_pick kms_lo kms_hi
   simp only [if_neg (Int.not_lt.mpr h0)]
   exact List.drop_zero▸kmk_take_min ..
  exact kms_pick_eq ..▸this▸hi.take _
 cases l with
 | some i=>cases u with
  | some _=>exact hq.elim
  | none=>cases k with
   | some _=>exact hq.elim
   | none=>exact ⟨hq.2▸lo i hq.1,fun e=>by cases e⟩
 | none=>cases u with
  | some i=>cases k with
   | some _=>exact hq.elim
   | none=>exact ⟨hq.2▸up i hq.1,fun e=>by cases e⟩
  | none=>cases k with
   | none=>exact hq.elim
   | some i =>
    obtain ⟨rfl,rfl⟩:=hq
    exact ⟨(krv_pick ..).symm▸hi.reverse,by decide⟩
set_option tactic.hygienic true in
theorem slice_raw {A:Around}{c:Cx}{E:Value->Shared->Prop}{Qc:Value->Shared->Prop}{value slice:Expr}{r:RV}{l u k:Option Int}{K:RV->Prop}{v vl vu vk:Value}{h₀:Heap} (q:SliQ r l u k K) (o:r.ok c h₀ s.heap v) (pl:IsPart vl l) (pu:IsPart vu u) (pk:IsPart vk k)
  (hs:∀ v i,∃ ops,subscripted slice false v i=operate ops (getItem v i)) (h:Giv c s K Qc) :
  wpAny (model c.prog c.w) A (subscriptTail value slice v (.ref s.heap.objs.size)) Qc E { s with heap:=s.heap.push { cls:=.type "slice",data:=.fields #[vl,vu,vk] } }:=by
 have kp:Kp s.heap (s.heap.push { cls:=.type "slice",data:=.fields #[vl,vu,vk] }):=fun _ _ e=>Heap.get?_push_of_some _ e
 obtain ⟨sl,nw⟩:=r
 have a:=o.1
 cases sl with
 | lst a0 xs =>
  obtain ⟨rfl,⟨vs,hL,hi⟩,_⟩:=a
  obtain ⟨hlen,ys,hy,hK⟩:=q
  obtain ⟨hp,hk0⟩:=hi.pick hy
  have e1:=hi.length
  simp only [Array.length_toList] at e1
  obtain ⟨ops,hs⟩:=hs (.ref _) (.ref s.heap.objs.size)
  have hL':Heap.IsList (s.heap.push { cls:=.type "slice",data:=.fields #[vl,vu,vk] }) _ vs:=hL.push _
  refine tail_any (s:={ s with heap:=s.heap.push { cls:=.type "slice",data:=.fields #[vl,vu,vk] } }) hL'.typeIs slot_list_getitem.lookup (wpAny_getItem_list_slice hL' (Heap.IsSliceOf.new ..) pl pu pk hk0 ?_ (by refine e1▸?_;exact sizeLine_ge hlen)) hs
  generalize hH:s.heap.push { cls:=.type "slice",data:=.fields #[vl,vu,vk] }=H at kp ⊢
  have kp2:Kp s.heap (H.push { cls:=.type "list",data:=.seq (slicePick vs l u k) }):=fun b o e=>Heap.get?_push_of_some _ (kp b o e)
  refine h ⟨.lst H.objs.size ys,true⟩ _ _ s.toks (hK _) kp2 ⟨⟨rfl,⟨_,⟨_,Heap.get?_push_size _ rfl,rfl,0,rfl⟩,hp.mono (TK.of kp2)⟩,fun o e=>by cases (Heap.get?_push_size _ rfl).symm.trans e;exact ⟨rfl,rfl⟩⟩,fun _ a ha=>?_⟩ (.inr rfl)
  obtain rfl:=List.mem_singleton.mp ha
  exact back_none (get_size_none _) fun o q=>kp _ o q
 | val x=>cases x with
  | tup xs =>
   obtain ⟨hlen,i,rfl,rfl,rfl,h1,h2,hK⟩:=q
   cases a with
   | tup ho hc hd hi =>
   rename_i a ob vs n
   have e1:=hi.length
   simp only [Array.length_toList] at e1
   cases pu;cases pk
   obtain ⟨t,rfl⟩:∃ t,vl=.int ((i.toNat:Nat):Int) t:=by
    cases pl with
    | int _ t=>exact ⟨t,by exact (show ((i.toNat:Nat):Int)=i by lia)▸rfl⟩
   obtain ⟨ops,hs⟩:=hs (.ref a) (.ref s.heap.objs.size)
   have hT':IsTup (s.heap.push { cls:=.type "slice",data:=.fields #[.int ((i.toNat:Nat):Int) t,.none,.none] }) a vs:=⟨ob,kp a ob ho,hc,n,hd⟩
   refine tail_any (s:={ s with heap:=s.heap.push { cls:=.type "slice",data:=.fields #[.int ((i.toNat:Nat):Int) t,.none,.none] } }) hT'.typeIs PyProof.Rows.slot_tuple_getitem.lookup (getItem_tuple_from hT' (Heap.IsSliceOf.new ..) (by lia) (by lia) ?_ (by refine e1▸?_;exact sizeLine_ge hlen)) hs
   have kp2:∀ b o,s.heap.get? b=some o->((s.heap.push { cls:=.type "slice",data:=.fields #[.int ((i.toNat:Nat):Int) t,.none,.none] }).push { cls:=.type "tuple",data:=.seq (vs.toList.drop i.toNat).toArray }).get? b=some o:=fun b o e=>Heap.get?_push_of_some _ (kp b o e)
   refine h.im (tk:=s.toks) hK kp2 (.tup (Heap.get?_push_size _ rfl) rfl rfl ?_)
   simpa using (hi.drop i.toNat).mono (TK.of kp2)
  | _=>exact q.elim
 | _=>exact q.elim
theorem EV_Slice (F:f.Ok sc d) {value:Expr}{lo hi st:Option Expr}{p pos:Pos}
  (h:EV f ρ σ value (fun r σ1=>EVo f ρ σ1 lo (fun l σ2=>EVo f ρ σ2 hi (fun u σ3=>EVo f ρ σ3 st (fun k σ4=>SliQ r l u k fun x=>Q x σ4) X) X) X) X)
  (hs:∀ v i,∃ ops,subscripted (.Slice lo hi st p) false v i=operate ops (getItem v i):=by intro _ _;exact ⟨_,rfl⟩):EV f ρ σ (.Subscript value (.Slice lo hi st p) pos) Q X:=fun s I =>
 Subscript_ (h.use F I (fun _ _ x=>x) fun v s₁ r σ1 ex I₁ ok off q=>wpAny_Slice (EVo.use F q I₁ (fun _ _ x=>x) fun vl s₂ l σ2 ex2 I₂ pl q=>EVo.use F q I₂ (fun _ _ x=>x) fun vu s₃ u σ3 ex3 I₃ pu q=>EVo.use F q I₃ (fun _ _ x=>x) fun vk s₄ k σ4 ex4 I₄ pk q=>by
  have e:=((ex.trans ex2).trans ex3).trans ex4
  have e':=(ex2.trans ex3).trans ex4
  refine slice_raw q (h₀:=s.heap) (ok.mono (I₁.tk F e') fun a ha o x=>e'.keep a o (off a ha) x) pl pu pk hs (giv_post F e I₄.z fun _ k=>k)))
end
end
section
open Classical in
noncomputable def lookP (es:List (PV×PV)) (k:PV):Option PV:=(es.find? fun x=>decide (x.1=k)).map (·.2)
open Classical in
noncomputable def putP (es:List (PV×PV)) (k y:PV):List (PV×PV):=if (lookP es k).isSome then es.map (fun x=>if x.1=k then (x.1,y) else x) else es ++ [(k,y)]
section
variable {h:Heap}
open Classical in
theorem look_none {xs:List (PKey×Addr×Value)}{es:List (PV×PV)} (e:Ents h xs es) (k:PKey):atKey xs k=none->lookP es k.1=none:=by
 unfold atKey lookP
 intro q
 rw [Option.map_eq_none_iff] at q ⊢
 induction e with
 | nil=>rfl
 | @cons k' a' v y xs es a hr ih =>
  rw [List.find?_cons] at q ⊢
  by_cases p:k'=k
  ·replace q:=(decide_eq_true p)▸q;cases q
  ·have p':¬ k'.1=k.1:=fun z=>p (Subtype.ext z)
   replace q:=(decide_eq_false p)▸q
   refine (decide_eq_false p')▸?_
   exact ih q
open Classical in
theorem look_some {xs:List (PKey×Addr×Value)}{es:List (PV×PV)} (e:Ents h xs es) (k:PKey) {a:Addr}{v:Value}:atKey xs k=some (a,v)->∃ y,lookP es k.1=some y∧Im h v y:=by
 unfold atKey lookP
 intro q
 obtain ⟨x,q,hx⟩:=Option.map_eq_some_iff.mp q
 induction e with
 | nil=>exact non q
 | @cons k' a'' v' y xs es a' hr ih =>
  replace q:=(List.find?_cons)▸q
  refine (List.find?_cons)▸?_
  by_cases p:k'=k
  ·replace q:=(decide_eq_true p)▸q
   cases Option.some.inj q
   cases hx
   refine (decide_eq_true (congrArg Subtype.val p)).symm▸?_
   exact ⟨y,rfl,a'⟩
  ·have p':¬ k'.1=k.1:=fun z=>p (Subtype.ext z)
   replace q:=(decide_eq_false p)▸q
   refine (decide_eq_false p')▸?_
   exact ih (Option.map_eq_some_iff.mpr ⟨x,q,hx⟩) q
theorem Ents.append {xs ys:List (PKey×Addr×Value)}{es fs:List (PV×PV)} (e:Ents h xs es) (g:Ents h ys fs):Ents h (xs ++ ys) (es ++ fs):=by
 induction e with
 | nil=>exact g
 | cons a _ ih=>exact .cons a ih
open Classical in
theorem Ents.put {xs:List (PKey×Addr×Value)}{es:List (PV×PV)} (e:Ents h xs es) (k:PKey) (a:Addr) {v:Value}{y:PV} (hv:Im h v y):Ents h (storedH xs k a v) (putP es k.1 y):=by
 cases q:atKey xs k with
 | none =>
  refine (storedH_new q ..)▸?_
  unfold putP
  refine (look_none e k q)▸?_;rw [if_neg (by simp)]
  exact e.append (.cons hv .nil)
 | some p =>
  obtain ⟨a',v'⟩:=p
  obtain ⟨y',hy',_⟩:=look_some e k q
  refine (storedH_old q ..)▸?_
  unfold putP
  refine hy'▸?_;rw [if_pos (by simp)]
  clear q hy'
  induction e with
  | nil=>exact .nil
  | @cons k' a'' v'' y'' xs es b hr ih =>
   refine List.map_cons▸?_;rw [List.map_cons]
   by_cases p:k'=k
   ·subst p
    rw [putAt];rw [if_pos rfl]
    simp only [if_true]
    exact .cons hv ih
   ·have p':¬ k'.1=k.1:=fun z=>p (Subtype.ext z)
    rw [putAt];rw [if_neg p];refine (if_neg p')▸?_
    exact .cons b ih
theorem Ents.length {xs:List (PKey×Addr×Value)}{es:List (PV×PV)} (e:Ents h xs es):xs.length=es.length:=by
 induction e with
 | nil=>rfl
 | cons _ _ ih=>simp [ih]
end
section
variable {f:Fx}{sc:Scope}{d:Nat}{ρ:Ab}{σ:Box}{s:Shared}{X:Prop}{Q:RV->Box->Prop}{N:Ab->Box->Prop}{R:RV->Box->Prop}
theorem PV.key_tup {x:PV} (h:x.key 8=true) (hx:∃ ys,x=.tup ys) {hp:Heap}{v:Value} (hi:Im hp v x):∃ a,v=.ref a:=by
 obtain ⟨ys,rfl⟩:=hx
 cases hi with | tup _ _ _ _=>exact ⟨_,rfl⟩
open Classical in
theorem EV_Dict (F:f.Ok sc d) {pos:Pos} (h:∀ a,Q ⟨.dct a [],true⟩ σ):EV f ρ σ (.Dict [] [] pos) Q X:=fun s I=>by
 refine wpAny_Dict_empty ?_
 have kp:Kp s.heap (s.heap.push { cls:=.type "dict",data:=.dict #[] }):=fun _ _ e=>Heap.get?_push_of_some _ e
 refine post_giv F (Ext.refl f s) I.z (K:=fun r=>r=⟨.dct s.heap.objs.size [],true⟩) (fun r e=>e▸h _) _ _ _ s.toks rfl kp ⟨⟨rfl,?_,[],Heap.DictOfH.new _,.nil⟩,fun _ a ha=>by obtain rfl:=List.mem_singleton.mp ha;exact get_size_none _⟩ (.inr rfl)
 have:s.heap.objs.size≠sysModules:=by
  obtain ⟨o,_,_,ho,_⟩:=F.cx.g
  have h1:=Heap.lt_size (I.kb F _ o ho)
  have h2:sysModules < mainGlobals:=by decide
  exact Nat.ne_of_gt (Nat.lt_trans h2 h1)
 simpa using this
open Classical in
theorem XS_SetItem (F:f.Ok sc d) {x:Str}{p sp pos:Pos}{i value:Expr}{a:Addr}{es:List (PV×PV)} (hρ:ρ x=some ⟨.dct a es,true⟩) (hlen:es.length≤1000000)
  (h:EV f ρ σ value (fun r σ1=>∃ y,r.sl=.val y∧EV f ρ σ1 i (fun r2 σ2=>∃ ks,r2.sl=.val (.tup ks)∧(PV.tup ks).key 8=true∧N (set ρ x ⟨.dct a (putP es (.tup ks) y),true⟩) σ2) X) X)
  (hd:(x == ("__debug__":Str))=false:=by decide) (hc:(x == ("__classdict__":Str))=false:=by decide)
  (hs:swapsWith value (some (.Subscript (.Name x p) i sp)) pos.line f.env=pure false:=by rfl):XS f ρ σ (.Assign [.Subscript (.Name x p) i sp] value pos) N R X:=fun s I=>by
 refine wpAny_Assign_Subscript (h.use F I (fun _ _ x=>x) fun v s₁ r σ1 ex I₁ ok off hq_=>?_) hs
 obtain ⟨y,hy,q⟩:=hq_
 refine EV.use F (EV_Name F (X:=X) (Q:=fun r σ'=>r=⟨.dct a es,false⟩∧σ'=σ1) hρ ⟨rfl,rfl⟩ hd hc) I₁ (fun _ _ x=>x) fun ov s₂ r0 σ2 ex2 I₂ ok2 off2 hq_=>?_
 obtain ⟨e1,e2⟩:=hq_
 subst e1 e2
 obtain ⟨rfl,_⟩:=ok2.1
 refine q.use F I₂ (fun _ _ x=>x) fun iv s₃ r3 σ3 ex3 I₃ ok3 off3 hq_=>?_
 obtain ⟨ks,hk,hkey,q⟩:=hq_
 have oy:=ok.1
 replace oy:=hy▸oy
 have oy3:Im s₃.heap v y:=(Im.mono (I₁.tk F ex2) oy).mono (I₂.tk F ex3)
 have ok3':=ok3.1
 replace ok3':=hk▸ok3'
 obtain ⟨ka,rfl⟩:=PV.key_tup hkey ⟨_,rfl⟩ ok3'
 obtain ⟨m,_,hv⟩:=I₃.vars
 obtain ⟨u,_,oku⟩:=hv x _ hρ
 obtain ⟨_,hsys,xs,hD,hE⟩:=oku
 have hl:=hE.length
 refine wpAny_setItem_heap (knd:=pk f.c.prog f.c.w) (k:=⟨.tup ks,hkey⟩) (by have:=F.units;show f.A.units+1+20 < cLine;lia) ok3' hD (fun h' hD' hs'=>?_) (by refine hl▸?_;exact sizeLine_ge hlen)
 obtain ⟨od,es',ep',hod,hcd,hdd,_⟩:=id hD'
 obtain ⟨od0,_,_,hod0,hcd0,_⟩:=id hD
 have tk:TK s₃.heap h':=tk_sameBut hs' fun o e c=>by cases hod0.symm.trans e;replace c:=hcd0.1▸c;exact absurd c (by decide)
 exact ⟨_,σ3,I₃.change (sl':=.dct a (putP es (.tup ks) y)) F hρ rfl rfl hs' (fun o e vs q=>by cases hod.symm.trans e;cases hdd.symm.trans q) fun v' ok'=>⟨ok'.1,hsys,_,hD',(hE.put ⟨.tup ks,hkey⟩ ka oy3).mono tk⟩,q⟩
end
end
section
section
variable {f:Fx}{sc:Scope}{d:Nat}{ρ:Ab}{σ:Box}{s:Shared}{X:Prop}{Q:RV->Box->Prop}{N:Ab->Box->Prop}{R:RV->Box->Prop}
open Classical in
theorem pk_room (F:f.Ok sc d):(pk f.c.prog f.c.w).room f.A.in1:=by have:=F.units;show f.A.units+1+20 < cLine;lia
open Classical in
theorem EV_SubD (F:f.Ok sc d) {l r:Expr}{pos:Pos} (h:EV f ρ σ l (fun r1 σ1=>∃ a es,r1.sl=.dct a es∧EV f ρ σ1 r (fun r2 σ2=>∃ ks y,r2.sl=.val (.tup ks)∧(PV.tup ks).key 8=true∧lookP es (.tup ks)=some y∧Q (.im y) σ2) X) X)
  (hs:∀ v1 v2,subscripted r false v1 v2=operate [v1,v2] (getItem v1 v2):=by intro _ _;with_unfolding_all rfl):EV f ρ σ (.Subscript l r pos) Q X:=fun s I =>
 Subscript_ (h.use F I (fun _ _ x=>x) fun v s₁ r1 σ1 ex I₁ ok off ⟨a,es,hr,q⟩=>q.use F I₁ (fun _ _ x=>x) fun iv s₂ r2 σ2 ex2 I₂ ok2 off2 ⟨ks,y,hk,hkey,hy,q⟩=>by
  have o1:=ok.1.mono (I₁.tk F ex2) fun b hb o e=>ex2.keep b o (off b hb) e
  replace o1:=hr▸o1
  obtain ⟨rfl,hsys,xs,hD,hE⟩:=o1
  have o2:=ok2.1
  replace o2:=hk▸o2
  obtain ⟨ka,rfl⟩:=PV.key_tup hkey ⟨_,rfl⟩ o2
  have hat:∃ a' v',atKey xs (⟨.tup ks,hkey⟩:PKey)=some (a',v'):=by
   cases hq:atKey xs (⟨.tup ks,hkey⟩:PKey) with
   | none=>have:=look_none hE _ hq;cases hy.symm.trans this
   | some p=>exact ⟨p.1,p.2,rfl⟩
  obtain ⟨a',v',hat⟩:=hat
  obtain ⟨y',hy',him⟩:=look_some hE _ hat
  cases hy.symm.trans hy'
  refine tail_any hD.typeIs slot_dict_getitem.lookup (wpAny_getItem_heap (knd:=pk f.c.prog f.c.w) (k:=⟨.tup ks,hkey⟩) (pk_room F) o2 hD hat ?_) (hs _ _)
  exact (post_giv F (ex.trans ex2) I₂.z (K:=fun r=>r=RV.im y) fun r e=>e▸q).imS rfl him)
open Classical in
theorem EV_Get (F:f.Ok sc d) {o k x:Expr}{ap pos:Pos} (h:EV f ρ σ o (fun r1 σ1=>∃ a es,r1.sl=.dct a es∧EV f ρ σ1 k (fun r2 σ2=>∃ ks,r2.sl=.val (.tup ks)∧(PV.tup ks).key 8=true ∧
   EV f ρ σ2 x (fun r3 σ3=>∃ y,r3.sl=.val y∧Q (.im ((lookP es (.tup ks)).getD y)) σ3) X) X) X)
  (hbase:attributeBase o ("get":Str) f.env (eval o f.env)=eval o f.env:=by rfl) (hline:(ap.endLine == pos.line)=true:=by rfl) (htrees:backTo pos (starEach [k,x] f.env)=[(false,eval k f.env),(false,eval x f.env)]:=by rfl) :
  EV f ρ σ (.Call (.Attribute o "get" ap) [k,x] [] pos) Q X:=fun s I=>by
 refine wpAny_Call_method2_late hbase hline htrees (h.use F I (fun _ _ x=>x) fun v s₁ r1 σ1 ex I₁ ok off hq_=>?_)
 obtain ⟨a,es,hr,q⟩:=hq_
 have o1:=ok.1
 rw [hr] at o1
 obtain ⟨rfl,hsys,xs₁,hD₁,hE₁⟩:=o1
 refine ⟨"dict","dict.get",PySem.F.plainAttrs_dict,PySem.F.slot_dict_get,PySem.F.type_dict_get,hD₁.typeIs,PyProof.Rows.dictOfH_noDict hD₁,?_⟩
 refine wpAny_dict_get2_heap (knd:=pk f.c.prog f.c.w) (pk_room F) hsys (q.use F I₁ (fun _ _ x=>x) fun kv s₂ r2 σ2 ex2 I₂ ok2 off2 ⟨ks,hk,hkey,q⟩=>q.use F I₂ (fun _ _ x=>x) fun xv s₃ r3 σ3 ex3 I₃ ok3 off3 hq_=>?_)
 obtain ⟨y,hy,q⟩:=hq_
 have ex23:=ex2.trans ex3
 have o1:=ok.1.mono (I₁.tk F ex23) fun b hb o e=>ex23.keep b o (off b hb) e
 rw [hr] at o1
 obtain ⟨_,_,xs,hD,hE⟩:=o1
 have o2:=ok2.1
 rw [hk] at o2
 have o2':=Im.mono (I₂.tk F ex3) o2
 obtain ⟨ka,rfl⟩:=PV.key_tup hkey ⟨_,rfl⟩ o2'
 have o3:=ok3.1
 rw [hy] at o3
 refine ⟨ka,⟨.tup ks,hkey⟩,xs,rfl,o2',hD,?_⟩
 have hgiv:=post_giv F (ex.trans ex23) I₃.z (K:=fun r=>r=RV.im ((lookP es (.tup ks)).getD y)) fun r e=>e▸q
 refine hgiv.imS rfl ?_
 cases hq:atKey xs (⟨.tup ks,hkey⟩:PKey) with
 | none=>have e:=look_none hE _ hq;refine e▸?_;exact o3
 | some p =>
  obtain ⟨y',hy',him⟩:=look_some hE (⟨.tup ks,hkey⟩:PKey) (a:=p.1) (v:=p.2) hq
  refine hy'▸?_;exact him
end
end
section
theorem eraseIdx_map' {α β:Type} (f:α->β):∀ (l:List α) (j:Nat),(l.map f).eraseIdx j=(l.eraseIdx j).map f
 | [],j=>by simp
 | x :: l,0=>by simp
 | x :: l,j+1=>by simp [eraseIdx_map' f l j]
section
variable {prog:Program}{w:World}{A:Around}{E:Value->Shared->Prop}{s:Shared}
open Classical in
theorem takeOutH {d a:Addr}{xs:List (PKey×Addr×Value)}{k:PKey}{Q:Option DictEntry->Shared->Prop} (hu:(pk prog w).room A) (hkey:(pk prog w).is s.heap k a) (hm:s.heap.DictOfH (pk prog w) d xs) (hsz:xs.length≤sizeLine)
  (hnone:(∀ (j:Nat) (p:Addr×Value),xs[j]?≠some (k,p))->Q none { s with toks:=s.toks+k.1.draws })
  (hsome:∀ (j:Nat) (p:Addr×Value) h',xs[j]?=some (k,p)->h'.DictOfH (pk prog w) d (xs.eraseIdx j)->Heap.SameBut d s.heap h'->Q (some (entryOfKey (pk prog w) (k,p))) { s with heap:=h',toks:=s.toks+k.1.draws }) :
  wpAny (model prog w) A (Builtin.Dict.takeOut d (.ref a)) Q E s:=by
 obtain ⟨o,es,ep,ho,hc,hd,he,his,hn⟩:=hm
 have hes:es.size≤sizeLine:=by refine (size_of_entries he)▸?_;exact hsz
 unfold Builtin.Dict.takeOut
 try with_reducible refine wpAny_holding ?_
 refine wpAny_bind ((pk prog w).pyHash hu hkey ?_)
 refine wpAny_bind (wpAny_dictFind_heap (s:={ s with toks:=s.toks+(pk prog w).draws k }) hu hkey ho hd he his hn (fun hno=>wpAny_pure (hnone hno)) fun j p hj=>?_)
 refine wpAny_bind (wpAny_dictEntries (s:={ s with toks:=s.toks+(pk prog w).draws k }) ho hd ?_)
 refine (entry_at he j)▸?_;refine hj▸?_
 refine wpAny_bind (wpAny_updateDictKeys (hz:=hes) (s:={ s with toks:=s.toks+(pk prog w).draws k }) ho hd (wpAny_pure (hsome j p _ hj ⟨_,_,ep+1,Heap.get?_update_self _ ho (Obj.isFreed_of_dict (Obj.data_mapDictKeys hd _)), hc.mapDictKeys _,Obj.data_mapDictKeys hd _,?_,fun x hx=>?_,?_⟩ (Heap.SameBut.update ..))))
 ·obtain ⟨l⟩:=es
  simp only [List.eraseIdxIfInBounds_toArray]
  have he':l=xs.map (entryOfKey (pk prog w)):=he
  refine he'▸?_;exact (eraseIdx_map' ..)▸rfl
 ·exact (pk prog w).keeps (his x (List.mem_of_mem_eraseIdx hx)) ho hd (Heap.SameBut.update ..)
 ·have:(xs.eraseIdx j).map (·.1)=(xs.map (·.1)).eraseIdx j:=by exact (eraseIdx_map' ..)▸rfl
  refine this▸?_
  exact hn.sublist (List.eraseIdx_sublist _ _)
end
theorem Ents.at {h:Heap}{xs:List (PKey×Addr×Value)}{es:List (PV×PV)} (e:Ents h xs es):∀ (j:Nat) (k:PKey) (a:Addr) (v:Value),xs[j]?=some (k,a,v)->∃ y,es[j]?=some (k.1,y)∧Im h v y:=by
 induction e with
 | nil=>intro j k a v q;exact non q
 | @cons k' a' v' y xs es hv hr ih =>
  intro j k a v q
  cases j with
  | zero=>simp at q;obtain ⟨rfl,rfl,rfl⟩:=q;exact ⟨y,rfl,hv⟩
  | succ j=>simp at q;exact ih j k a v q
theorem Ents.back {h:Heap}{xs:List (PKey×Addr×Value)}{es:List (PV×PV)} (e:Ents h xs es):∀ (j:Nat) (k y:PV),es[j]?=some (k,y)->∃ k' a v,xs[j]?=some (k',a,v)∧k'.1=k:=by
 induction e with
 | nil=>intro j k y q;exact non q
 | @cons k' a' v' y' xs es hv hr ih =>
  intro j k y q
  cases j with
  | zero=>simp at q;exact ⟨k',a',v',rfl,q.1⟩
  | succ j=>simp at q;exact ih j k y q
theorem Ents.erase {h:Heap}{xs:List (PKey×Addr×Value)}{es:List (PV×PV)} (e:Ents h xs es):∀ j:Nat,Ents h (xs.eraseIdx j) (es.eraseIdx j):=by
 induction e with
 | nil=>intro j;exact .nil
 | cons hv hr ih =>
  intro j
  cases j with
  | zero=>exact hr
  | succ j=>exact .cons hv (ih j)
section
variable {f:Fx}{sc:Scope}{d:Nat}{ρ:Ab}{σ:Box}{s:Shared}{X:Prop}{Q:RV->Box->Prop}{N:Ab->Box->Prop}{R:RV->Box->Prop}
inductive PopY (N:Ab->Box->Prop) (ρ:Ab) (x D:Str) (a:Addr) (es:List (PV×PV)) (ks:List PV) (r2:RV) (σ2:Box):Prop
 | mk (y0:PV):r2.sl=.val y0->((∀ (j:Nat) y,es[j]?≠some (.tup ks,y))->N (set ρ x (.im y0)) σ2)->(∀ (j:Nat) y,es[j]?=some (.tup ks,y)->N (set (set ρ D ⟨.dct a (es.eraseIdx j),true⟩) x (.im y)) σ2)->PopY N ρ x D a es ks r2 σ2
inductive PopK (f:Fx) (dv:Expr) (X:Prop) (N:Ab->Box->Prop) (ρ:Ab) (x D:Str) (a:Addr) (es:List (PV×PV)) (r1:RV) (σ1:Box):Prop
 | mk (ks:List PV):r1.sl=.val (.tup ks)->(PV.tup ks).key 8=true->EV f ρ σ1 dv (PopY N ρ x D a es ks) X->PopK f dv X N ρ x D a es r1 σ1
open Classical in
theorem XS_Pop (F:f.Ok sc d) {x D:Str}{px p ap cp pos:Pos}{k dv:Expr}{a:Addr}{es:List (PV×PV)} (hx:Stores f sc x) (hρ:ρ D=some ⟨.dct a es,true⟩) (hne:D≠x) (hlen:es.length≤1000000)
  (h:EV f ρ σ k (PopK f dv X N ρ x D a es) X)
  (hd:(D == ("__debug__":Str))=false:=by decide) (hc:(D == ("__classdict__":Str))=false:=by decide)
  (hbase:attributeBase (.Name D p) ("pop":Str) f.env (eval (.Name D p) f.env)=eval (.Name D p) f.env:=by rfl) (hline:(ap.endLine == cp.line)=true:=by rfl) (htrees:backTo cp (starEach [k,dv] f.env)=[(false,eval k f.env),(false,eval dv f.env)]:=by rfl) :
  XS f ρ σ (.Assign [.Name x px] (.Call (.Attribute (.Name D p) "pop" ap) [k,dv] [] cp) pos) N R X:=fun s I=>by
 refine wpAny_Assign_Name ?_ rfl
 refine wpAny_Call_method2_late hbase hline htrees ?_
 refine EV.use F (EV_Name F (X:=X) (Q:=fun r σ'=>r=⟨.dct a es,false⟩∧σ'=σ) hρ ⟨rfl,rfl⟩ hd hc) I (fun _ _ x=>x) fun v s₁ r0 σ0 ex I₁ ok off hq_=>?_
 obtain ⟨e1,e2⟩:=hq_
 subst e1 e2
 obtain ⟨rfl,hsys,xs₁,hD₁,hE₁⟩:=ok.1
 refine ⟨"dict","dict.pop",PySem.F.plainAttrs_dict,PySem.F.slot_dict_pop,PySem.F.type_dict_pop,hD₁.typeIs,PyProof.Rows.dictOfH_noDict hD₁,?_⟩
 refine Calls.callWith_builtin rfl (Calls.evalArgs_plain (Calls.spliced_cons (h.use F I₁ (fun _ _ x=>x) fun kv s₂ r2 σ2 ex2 I₂ ok2 off2 hq_=>?_)))
 obtain ⟨ks,hk,hkey,q⟩:=hq_
 refine Calls.spliced_cons (q.use F I₂ (fun _ _ x=>x) fun yv s₃ r3 σ3 ex3 I₃ ok3 off3 hq_=>Calls.spliced_nil ?_)
 obtain ⟨y0,hy0,qn,qs⟩:=hq_
 have o2:=ok2.1
 replace o2:=hk▸o2
 have o2':=Im.mono (I₂.tk F ex3) o2
 obtain ⟨ka,rfl⟩:=PV.key_tup hkey ⟨_,rfl⟩ o2'
 have o3:=ok3.1
 replace o3:=hy0▸o3
 obtain ⟨m,_,hv⟩:=I₃.vars
 obtain ⟨u,_,oku⟩:=hv D _ hρ
 obtain ⟨_,_,xs,hD,hE⟩:=oku
 have hl:=hE.length
 obtain ⟨od,es',ep',hod,hcd,hdd,hee,_⟩:=id hD
 refine wpAny_call_entry PySem.F.slot_dict_pop hD.typeIs PySem.F.entry_dict_pop ?_ (PySem.F.args_dict_pop_3 _ _ _)
 unfold Builtin.«dict.pop»
 refine wpAny_bind ?_
 unfold Builtin.Dict.keyAndDefault
 refine wpAny_bind (wpAny_notOrdered_dict hD.typeIs ?_)
 refine wpAny_pure ?_
 have lay:∀ (ρ':Ab) (y:PV) (v:Value) (s₄:Shared),Inv f ρ' σ3 s₄->Im s₄.heap v y->N (set ρ' x (.im y)) σ3->wpAny (model f.c.prog f.c.w) f.A (storeName f.env x v) (fun _=>XP f N R .next) (ExP f X) s₄:=fun ρ' y v s₄ V hi q =>
  V.store F hx (sl:=.im y) hi .val fun s' V'=>⟨_,σ3,V',q⟩
 have none_:(∀ (j:Nat) (q:Addr×Value),xs[j]?≠some ((⟨.tup ks,hkey⟩:PKey),q))->∀ (j:Nat) y,es[j]?≠some (.tup ks,y):=fun hno j y q=>by
  obtain ⟨k',a',v',h1,h2⟩:=hE.back j _ y q
  have:k'=⟨.tup ks,hkey⟩:=Subtype.ext h2
  replace h1:=this▸h1
  exact hno j (a',v') h1
 refine wp_neg (show ¬ (keyPart (Value.ref ka)).isSome=true from Bool.false_ne_true) ?_
 refine wpAny_bind (wpAny_dictEntries hod hdd (wpAny_bind (wpAny_pure ?_)))
 dsimp only
 by_cases hem:es'.isEmpty=true
 ·refine wp_pos hem ?_
  refine wpAny_bind (wpAny_rule (wpAny_bind (wpAny_pure ?_)))
  have hxs:xs=[]:=by
   have:es'.size=0:=by simpa using hem
   replace this:=(size_of_entries hee)▸this
   exact List.length_eq_zero_iff.mp this
  have hno:=none_ (by refine hxs▸?_;intro j q h;simp at h)
  refine wp_pos (show (none:Option DictEntry).isNone=true from rfl) ?_
  refine wpAny_bind (wpAny_missedRemoval_other hsys ?_)
  exact wpAny_bind (wpAny_rule (wpAny_pure ⟨_,rfl,lay ρ y0 yv s₃ I₃ o3 (qn hno)⟩))
 ·refine wp_neg hem ?_
  refine wpAny_bind (takeOutH (pk_room F) (k:=⟨.tup ks,hkey⟩) o2' hD (by refine hl▸?_;exact sizeLine_ge hlen) (fun hno=>?_) fun j q h' hj hD' hs'=>?_)
  ·refine wp_pos (show (none:Option DictEntry).isNone=true from rfl) ?_
   refine wpAny_bind (wpAny_missedRemoval_other hsys ?_)
   have I₄:Inv f ρ σ3 { s₃ with toks:=s₃.toks+(PV.tup ks).draws }:=I₃.ext F (Ext.of (tk:=s₃.toks+(PV.tup ks).draws) fun _ _ e=>e) I₃.z
   exact wpAny_bind (wpAny_rule (wpAny_pure ⟨_,rfl,lay ρ y0 yv _ I₄ o3 (qn (none_ hno))⟩))
  ·refine wp_neg (show ¬ (some (entryOfKey (pk f.c.prog f.c.w) ((⟨.tup ks,hkey⟩:PKey),q))).isNone=true from Bool.false_ne_true) ?_
   obtain ⟨y,hy,him⟩:=hE.at j _ q.1 q.2 hj
   obtain ⟨od',_,_,hod',hcd',hdd',_⟩:=id hD'
   have tk:TK s₃.heap h':=tk_sameBut hs' fun o e c=>by cases hod.symm.trans e;replace c:=hcd.1▸c;exact absurd c (by decide)
   have V:=I₃.change (tk:=s₃.toks+(PV.tup ks).draws) (sl':=.dct a (es.eraseIdx j)) F hρ rfl rfl hs' (fun o e vs q=>by cases hod'.symm.trans e;cases hdd'.symm.trans q) fun v' ok'=>⟨ok'.1,hsys,_,hD',(hE.erase j).mono tk⟩
   exact wpAny_bind (wpAny_letGo (wpAny_pure ⟨_,rfl,lay _ y q.2 _ V (Im.mono tk him) (qs j y hy)⟩))
end
end
section
section
variable {prog:Program}{w:World}{A:Around}{E:Value->Shared->Prop}{s:Shared}
theorem ents_next {it d:Addr}{i n ep:Nat}{od:Obj}{es:Array DictEntry}{ok ov:Value}{Q:Option Value->Shared->Prop} (hit:IsItemIter s.heap it d i n ep ok ov) (hod:s.heap.get? d=some od) (hdd:od.data=.dict es ep)
  (hn:es.size=n) (hi:i < es.size)
  (hQ:∀ h',IsItemIterOut h' it d (i+1) n ep es[i].key es[i].val s.heap.objs.size->h'.get? s.heap.objs.size=some { cls:=.type "tuple",data:=.seq #[es[i].key,es[i].val] } ->
   (KpN it s.heap h')->Q (some (.ref s.heap.objs.size)) { s with heap:=h' }):wpAny (model prog w) A (pyNext (.ref it)) Q E s:=by
 have hT:s.TypeIs (.ref it) "dict_itemiterator":=⟨_,hit,rfl⟩
 have hil:it < s.heap.objs.size:=Heap.lt_size hit
 unfold pyNext
 refine wpAny_bind (wpAny_attempt (wpAny_callSpecial?_slot (name:=Str.ofString "__next__") hT PySem.F.slot_dict_itemiterator_next
  (wpAny_call_entry PySem.F.slot_dict_itemiterator_next hT PySem.F.entry_dict_itemiterator_next ?_ (PySem.F.args_dict_itemiterator_next_1 _))))
 refine wpAny_bind (wpAny_pure (wpAny_bind (wpAny_bind ?_)))
 first | refine wpAny_bind (wpAny_typeNameOfWhole_itemiter hT (wpAny_pure ?_)) | refine wpAny_bind (wpAny_typeNameOf_itemiter hT (wpAny_pure ?_))
 refine wpAny_bind (wpAny_fieldsOf hit rfl ?_)
 rw [show Builtin.Dict_items.ownsTuple "dict_itemiterator"=true by decide]
 refine wp_neg (show ¬ ((Value.ref d == Value.none)=true) from Bool.false_ne_true) ?_
 refine wpAny_bind (wpAny_pure (wpAny_bind (wpAny_dictEntries hod hdd ?_)))
 refine wp_neg (by refine hn▸?_;simp) ?_
 refine wpAny_bind (wpAny_pure (wpAny_bind (wpAny_dictEpoch hod hdd ?_)))
 refine wp_neg (by simp) ?_
 refine wpAny_pure ?_
 have e0:(if ((i:Nat):Int) < 0 then none else es[((i:Nat):Int).toNat]?)=some es[i]:=(if_neg (Int.not_lt.mpr (Int.natCast_nonneg i))).trans (Array.getElem?_eq_getElem hi)
 dsimp only
 rw [e0]
 refine wpAny_bind ?_
 first | refine wpAny_bind (wpAny_typeNameOfWhole_itemiter hT (wpAny_pure ?_)) | refine wpAny_bind (wpAny_typeNameOf_itemiter hT (wpAny_pure ?_))
 refine wpAny_bind (wpAny_isOneOf_itemiter hT ?_)
 show wpAny _ _ (setField (.ref it) 3 (rawInt ((i:Int)+1)) >>= _) _ _ s
 refine wpAny_bind (wpAny_setField_rec hit (by simp) fun h₁ he₁ hs₁=>?_)
 have it₁:IsItemIter h₁ it d (i+1) n ep ok ov:=by
  unfold IsItemIter
  refine (show ((i+1:Nat):Int)=(i:Int)+1 by lia)▸?_
  simpa [rawInt] using he₁
 have T₁:Shared.TypeIs { s with heap:=h₁ } (.ref it) "dict_itemiterator":=⟨_,it₁,rfl⟩
 refine wpAny_bind (wpAny_holding (wpAny_bind (wpAny_isOneOf_itemiter T₁ (wpAny_bind (wpAny_isOneOf_itemiter T₁ ?_)))))
 show wpAny _ _ (Builtin.Dict_items.pairFromOwner (.ref it) 6 es[i].key es[i].val) _ _ { s with heap:=h₁ }
 unfold Builtin.Dict_items.pairFromOwner
 refine wpAny_bind (wpAny_newTuple ?_)
 have z₁:h₁.objs.size=s.heap.objs.size:=hs₁.1
 refine (show ({ s with heap:=h₁ }:Shared).heap.objs.size=s.heap.objs.size from z₁)▸?_
 generalize hG:h₁.push { cls:=.type "tuple",data:=.seq #[es[i].key,es[i].val] }=G
 have it₂:IsItemIter G it d (i+1) n ep ok ov:=hG▸Heap.get?_push_of_some _ it₁
 have tu:G.get? s.heap.objs.size=some { cls:=.type "tuple",data:=.seq #[es[i].key,es[i].val] }:=by refine hG▸?_;refine z₁▸?_;exact Heap.get?_push_size _ rfl
 have kG:KpN it s.heap G:=fun b o hb e=>hG▸Heap.get?_push_of_some _ ((hs₁.2 b hb).trans e)
 refine wpAny_bind (m:=Builtin.Dict_items.ownedTupleIsFree (.ref it)) ?_
 unfold Builtin.Dict_items.ownedTupleIsFree
 refine wpAny_bind (wpAny_field (s:={ s with heap:=G }) it₂ rfl (x:=.none) rfl (wpAny_pure ?_))
 simp only [if_true]
 refine wpAny_bind (wpAny_field (s:={ s with heap:=G }) it₂ rfl (x:=ok) rfl (wpAny_bind (wpAny_field (s:={ s with heap:=G }) it₂ rfl (x:=ov) rfl ?_)))
 refine wpAny_bind (wpAny_setField_rec (s:={ s with heap:=G }) it₂ (by simp) fun g₁ e₁ b₁=>?_)
 refine wpAny_bind (wpAny_setField_rec (s:={ s with heap:=g₁ }) e₁ (by simp) fun g₂ e₂ b₂=>?_)
 refine wpAny_bind (wpAny_setField_rec (s:={ s with heap:=g₂ }) e₂ (by simp) fun g₃ e₃ b₃=>?_)
 refine wpAny_bind (wpAny_setField_rec (s:={ s with heap:=g₃ }) e₃ (by simp) fun g₄ e₄ b₄=>?_)
 have e₄':IsItemIterOut g₄ it d (i+1) n ep es[i].key es[i].val s.heap.objs.size:=e₄
 have all:KpN it G g₄:=fun b o hb e=>(b₄.2 b hb).trans ((b₃.2 b hb).trans ((b₂.2 b hb).trans ((b₁.2 b hb).trans e)))
 exact wpAny_bind (wpAny_letGo (wpAny_pure (wpAny_pure ⟨_,rfl,wpAny_pure (hQ g₄ e₄' (all _ _ (Nat.ne_of_gt hil) tu) fun b o hb e=>all b o hb (kG b o hb e))⟩)))
theorem ents_end {it d:Addr}{n ep:Nat}{od:Obj}{es:Array DictEntry}{ok ov:Value}{Q:Option Value->Shared->Prop} (hh:A.handled=none) (hit:IsItemIter s.heap it d n n ep ok ov) (hod:s.heap.get? d=some od) (hdd:od.data=.dict es ep)
  (hn:es.size=n) (hQ:∀ h',Heap.ExtBut it s.heap h'->Q none { s with heap:=h' }):wpAny (model prog w) A (pyNext (.ref it)) Q E s:=by
 have hT:s.TypeIs (.ref it) "dict_itemiterator":=⟨_,hit,rfl⟩
 unfold pyNext
 refine wpAny_bind (wpAny_attempt (wpAny_callSpecial?_slot (name:=Str.ofString "__next__") hT PySem.F.slot_dict_itemiterator_next
  (wpAny_call_entry PySem.F.slot_dict_itemiterator_next hT PySem.F.entry_dict_itemiterator_next ?_ (PySem.F.args_dict_itemiterator_next_1 _))))
 refine wpAny_bind (wpAny_pure (wpAny_bind (wpAny_bind ?_)))
 first | refine wpAny_bind (wpAny_typeNameOfWhole_itemiter hT (wpAny_pure ?_)) | refine wpAny_bind (wpAny_typeNameOf_itemiter hT (wpAny_pure ?_))
 refine wpAny_bind (wpAny_fieldsOf hit rfl ?_)
 rw [show Builtin.Dict_items.ownsTuple "dict_itemiterator"=true by decide]
 refine wp_neg (show ¬ ((Value.ref d == Value.none)=true) from Bool.false_ne_true) ?_
 refine wpAny_bind (wpAny_pure (wpAny_bind (wpAny_dictEntries hod hdd ?_)))
 refine wp_neg (by refine hn.symm▸?_;simp) ?_
 refine wpAny_bind (wpAny_pure (wpAny_bind (wpAny_dictEpoch hod hdd ?_)))
 refine wp_neg (by simp) ?_
 refine wpAny_pure ?_
 have e0:(if ((n:Nat):Int) < 0 then none else es[((n:Nat):Int).toNat]?)=none:=(if_neg (Int.not_lt.mpr (Int.natCast_nonneg n))).trans (Array.getElem?_eq_none (Nat.le_of_eq hn))
 dsimp only
 rw [e0]
 refine wpAny_bind ?_
 first | refine wpAny_bind (wpAny_typeNameOfWhole_itemiter hT (wpAny_pure ?_)) | refine wpAny_bind (wpAny_typeNameOf_itemiter hT (wpAny_pure ?_))
 show wpAny _ _ (setField (.ref it) 2 .none >>= _) _ _ s
 refine wpAny_bind (wpAny_setField hit rfl (by simp) ?_)
 refine wpAny_bind ?_
 simp only [newExc,newTuple]
 refine wpAny_bind (wpAny_newObj_type ?_ (by size_fits))
 refine wpAny_bind (m:=firstArgMember _ _) (wpAny_of_eq (a:=Value.none) (by first | rfl | (simp only [firstArgMember];rfl)) ?_)
 refine wpAny_newObj_type ?_ (by size_fits)
 unfold raiseNew
 refine wpAny_bind (wpAny_handled ?_)
 refine (show A.in1.handled=none from hh).symm▸?_
 refine wpAny_bind (wpAny_pure (wpAny_throw ?_))
 refine wpAny_bind (wpAny_isInstance (T:="StopIteration") (b:=true) ⟨_,Heap.get?_push_size _ rfl,rfl⟩ isSubtype_stop ?_)
 exact wpAny_pure (hQ _ (((Heap.SameBut.update ..).extBut.push _).push _))
end
end
section
section
variable {f:Fx}{sc:Scope}{d:Nat}{ρ:Ab}{σ:Box}{s:Shared}{X:Prop}{N:Ab->Box->Prop}{R:RV->Box->Prop}
noncomputable def pairP (x:PV×PV):PV:=.tup [x.1,x.2]
theorem Ents.ims {h:Heap}{xs:List (PKey×Addr×Value)}{es:List (PV×PV)} (e:Ents h xs es):∀ (i:Nat) (k:PKey) (a:Addr) (v:Value),xs[i]?=some (k,a,v)->Im h (.ref a) k.1->∃ y,(es.map pairP)[i]?=some y∧∀ {h':Heap}{t:Addr}{o:Obj},TK h h'->h'.get? t=some o->o.cls=.type "tuple"->o.data=.seq #[.ref a,v] 0->Im h' (.ref t) y:=by
 intro i k a v q hk
 obtain ⟨y,h1,h2⟩:=e.at i k a v q
 refine ⟨pairP (k.1,y),by refine (List.getElem?_map)▸?_;refine h1▸?_;rfl,fun {h' t o} kk ho hc hd=>?_⟩
 exact .tup ho hc hd (.cons (hk.mono kk) (.cons (h2.mono kk) .nil))
theorem spost_mk (F:f.Ok sc d) {M:Bool}{tgt:Expr}{σ₁:Box}{s₁:Shared} (I₁:Inv f ρ σ₁ s₁) (ex:Ext f s s₁) {G:Heap} (kp:Kp s₁.heap G) {ws:List Addr} (wn:∀ b∈ws,s₁.heap.get? b=none) {a:Addr}{od:Obj} (hod:s₁.heap.get? a=some od)
  {x:Str}{sl:Slot}{nw:Bool} (hρ:ρ x=some ⟨sl,nw⟩) (hfp:sl.fp=[a]) (hM:M=true->nw=false) {I:Addr}{xs:List PV}{St:Nat->Heap->Prop}{Mid:Nat->Value->Heap->Prop}{Q:List PV->Box->Prop} (W:Drw f I ws tgt (ws ++ [a]) xs.length xs G St Mid) (st:St 0 G)
  (it:∀ i h,St i h->∀ b∈ws,∃ o vs,h.get? b=some o∧o.cls≠.type "list"∧o.cls≠.type "dict"∧o.data=.fields vs) (q:Q xs σ₁):SPostT f M tgt ρ s Q (.ref I) { s₁ with heap:=G }:=by
 have wz:∀ b∈ws,b∉f.Z:=fun b hb hz=>let ⟨_,ho⟩:=F.zlive σ₁ s₁.heap b hz I₁.z;nob (wn b hb) ho
 have one:∀ {p:Addr×Obj->Prop},p (a,od)->∀ y∈[(a,od)],p y:=fun h y hy=>List.mem_singleton.mp hy▸h
 have ha:a∈sl.fp:=hfp▸.head _
 have off:=I₁.off x _ a hρ ha
 refine ⟨I,ws,[(a,od)],xs,St,Mid,σ₁,rfl,ex.trans (Ext.of (tk:=s₁.toks) kp),F.zsame σ₁ s₁.heap G (fun b o _ e=>kp b o e) I₁.z,⟨W,st,it,one (kp _ _ hod),fun b hb=>?_,wz,one ⟨fun hb=>nob (wn a hb) hod,off.2.1,off.1,off.2.2⟩,fun p hp hb=>nob (wn _ hb) (I₁.pin p hp)⟩, fun y r hy=>⟨fun b hb hf=>?_,fun hr hm=>one fun hf=>?_⟩,fun b hb=>?_,q⟩
 ·exact back_none (wn b hb) fun o e=>I₁.keep b o (wz b hb) e
 ·obtain ⟨m,_,hv⟩:=I₁.vars
  obtain ⟨v,_,ok⟩:=hv y r hy
  obtain ⟨o,ho,_⟩:=ok.live b hf
  exact nob (wn b hb) ho
 ·by_cases e:y=x
  ·cases sinj hy (e▸hρ)
   exact Bool.false_ne_true ((hM hm).symm.trans hr)
  ·exact (I₁.mine y r a hy hr hf).2.2 x _ (Ne.symm e) hρ ha
 ·exact back_none (wn b hb) fun o e=>ex.keep b o (wz b hb) e
inductive ItSt (a I:Addr) (n ep:Nat) (od:Obj) (i:Nat) (h:Heap):Prop
 | mk (ok ov:Value):IsItemIter h I a i n ep ok ov->h.get? a=some od->ItSt a I n ep od i h
inductive ItMid (a I:Addr) (n ep:Nat) (od:Obj) (xs:List (PKey×Addr×Value)) (i:Nat) (v:Value) (h:Heap):Prop
 | mk (t:Addr) (ok ov:Value) (k:PKey) (ka:Addr) (vv:Value):v=.ref t->t≠I->IsItemIterOut h I a (i+1) n ep ok ov t->h.get? t=some { cls:=.type "tuple",data:=.seq #[.ref ka,vv] }->h.get? a=some od->xs[i]?=some (k,ka,vv)->ItMid a I n ep od xs i v h
open Classical in
theorem items_drw (F:f.Ok sc d) {tgt:Expr}{elts:List Expr}{tk:Nat}{tp:Pos} (htgt:tgt=.Tuple elts tk tp) {a I:Addr}{es:List (PV×PV)}{es':Array DictEntry}{ep:Nat}{od:Obj}{xs:List (PKey×Addr×Value)}{H G:Heap} (tkG:TK H G) (aI:a≠I) (hdd:od.data=.dict es' ep) (hsz:es'.size=es.length)
  (hee:es'.toList=xs.map (entryOfKey (pk f.c.prog f.c.w))) (hE:Ents H xs es) (his:∀ y∈xs,(pk f.c.prog f.c.w).is H y.1 y.2.1):Drw f I [I] tgt [I,a] (es.map pairP).length (es.map pairP) G (ItSt a I es.length ep od) (ItMid a I es.length ep od xs):=by
 have nin:∀ {b:Addr},b∉[I]->b≠I:=fun h e=>h (e▸.head _)
 refine ⟨?_,?_,?_,?_,?_⟩
 ·rintro i h h' ⟨ok,ov,h1,h2⟩ hk
  exact ⟨ok,ov,hk _ (.head _) _ h1,hk a (.tail _ (.head _)) _ h2⟩
 ·rintro i s' Q E hi ⟨ok,ov,h1,h2⟩ k
  rw [List.length_map] at hi
  have hi':i < es'.size:=by rw [hsz];exact hi
  refine ents_next h1 h2 hdd hsz hi' fun h' hOut hT' hk=>?_
  have hx:∃ kx ka vv,xs[i]?=some (kx,ka,vv)∧es'[i].key=.ref ka∧es'[i].val=vv:=by
   have hix:i < xs.length:=by rw [hE.length];exact hi
   refine ⟨xs[i].1,xs[i].2.1,xs[i].2.2,List.getElem?_eq_getElem hix,?_⟩
   have:=entry_at hee i
   rw [Array.getElem?_eq_getElem hi',List.getElem?_eq_getElem hix] at this
   have:=Option.some.inj this
   rw [this];exact ⟨rfl,rfl⟩
  obtain ⟨kx,ka,vv,hx1,hx2,hx3⟩:=hx
  rw [hx2,hx3] at hOut hT'
  exact k _ h' s'.toks ⟨s'.heap.objs.size,_,_,kx,ka,vv,rfl,Nat.ne_of_gt (Heap.lt_size h1),hOut,hT',hk a od aI h2,hx1⟩ fun b o hb e=>hk b o (nin hb) e
 ·rintro i v s' Q E hi ⟨t,ok,ov,k,ka,vv,rfl,htI,h1,h2,h3,hx⟩ ht kk
  rw [htgt]
  refine wpAny_letOwnedTupleGo_items h1 fun h' hit' hs'=>?_
  have keep:KpN I s'.heap h':=fun b o hb e=>(hs'.2 b hb).trans e
  have tk1:TK s'.heap h':=tk_sameBut hs' fun o e c=>by
   cases sinj e h1
   exact absurd c (show Value.type "dict_itemiterator"≠Value.type "tuple" by decide)
  obtain ⟨y,hy,him⟩:=hE.ims i k ka vv hx (his _ (List.mem_of_getElem? hx))
  exact kk h' y hy (him ((tkG.trans ht).trans tk1) (keep t _ htI h2) rfl rfl) ⟨ok,ov,hit',keep a od aI h3⟩ fun b o hb e=>keep b o (nin hb) e
 ·rintro s' Q E ⟨ok,ov,h1,h2⟩ k
  rw [List.length_map] at h1
  exact ents_end F.handled h1 h2 hdd hsz fun h' he'=>k h' s'.toks fun b o hb e=>he' b o (nin hb) e
 ·rintro i s' Q E ⟨ok,ov,h1,h2⟩ k
  exact kcp_self h1 k
open Classical in
theorem EST_items (F:f.Ok sc d) {M:Bool}{x:Str}{tgt:Expr}{elts:List Expr}{tk:Nat}{tp:Pos}{p ap cp:Pos}{a:Addr}{es:List (PV×PV)}{nw:Bool}{Q:List PV->Box->Prop} (htgt:tgt=.Tuple elts tk tp) (hρ:ρ x=some ⟨.dct a es,nw⟩) (hM:M=true->nw=false) (q:Q (es.map pairP) σ)
  (hd:(x == ("__debug__":Str))=false:=by decide) (hc:(x == ("__classdict__":Str))=false:=by decide)
  (hbase:attributeBase (.Name x p) ("items":Str) f.env (eval (.Name x p) f.env)=eval (.Name x p) f.env:=by rfl) (hline:(ap.endLine == cp.line)=true:=by rfl) :
  EST f M tgt ρ σ (.Call (.Attribute (.Name x p) "items" ap) [] [] cp) Q X:=fun s I=>by
 refine wpAny_Call_method0_late hbase hline ?_
 refine EV.use F (EV_Name F (X:=X) (Q:=fun r σ'=>r=⟨.dct a es,false⟩∧σ'=σ) hρ ⟨rfl,rfl⟩ hd hc) I (fun _ _ x=>x) fun v s₁ r0 σ0 ex I₁ ok off hq_=>?_
 obtain ⟨e1,e2⟩:=hq_
 subst e1 e2
 obtain ⟨rfl,hsys,xs,hD,hE⟩:=ok.1
 refine ⟨"dict","dict.items",PySem.F.plainAttrs_dict,PySem.F.slot_dict_items,PySem.F.type_dict_items,hD.typeIs,PyProof.Rows.dictOfH_noDict hD,?_⟩
 refine Calls.callWith_builtin rfl (PySem.evalArgs_none ?_)
 refine wpAny_call_entry PySem.F.slot_dict_items hD.typeIs PySem.F.entry_dict_items ?_ (PySem.F.args_dict_items_1 _)
 unfold Builtin.«dict.items»
 refine wpAny_bind ?_
 unfold Builtin.Dict.noArgs
 refine wpAny_bind (wpAny_notOrdered_dict hD.typeIs ?_)
 refine wpAny_pure ?_
 refine wpAny_bind (m:=Builtin.Dict.showsAll a) ?_
 unfold Builtin.Dict.showsAll
 refine wp_neg (by rw [hsys];exact Bool.false_ne_true) ?_
 refine wpAny_pure ?_
 refine wpAny_bind (wpAny_newObj_type (wpAny_pure ⟨_,rfl,?_⟩))
 generalize hH:s₁.heap.push { cls:=.type "dict_items",data:=.fields #[.ref a] }=H
 have kp:Kp s₁.heap H:=fun b o e=>hH▸Heap.get?_push_of_some _ e
 have hv:H.get? s₁.heap.objs.size=some { cls:=.type "dict_items",data:=.fields #[.ref a] }:=hH▸Heap.get?_push_size _ rfl
 obtain ⟨od,es',ep,hod,hcd,hdd,hee,his,hn⟩:=id hD
 have hod':=kp _ _ hod
 have T:Shared.TypeIs { s₁ with heap:=H } (.ref s₁.heap.objs.size) "dict_items":=⟨_,hv,rfl⟩
 refine wpAny_pyIter_slot T PySem.F.slot_dict_items_iter (wpAny_call_entry PySem.F.slot_dict_items_iter T PySem.F.entry_dict_items_iter ?_ (PySem.F.args_dict_items_iter_1 _))
 unfold Builtin.«dict_items.__iter__»
 refine wpAny_bind (wpAny_pure (wpAny_bind ?_))
 unfold Builtin.Dict_items.dictOf
 refine wpAny_bind (wpAny_field (s:={ s₁ with heap:=H }) hv rfl (x:=.ref a) rfl (wpAny_pure (wpAny_bind ?_)))
 unfold Builtin.Dict_items.newIterator
 refine wpAny_bind (wpAny_dictEntries (s:={ s₁ with heap:=H }) hod' hdd (wpAny_bind (wpAny_dictEpoch (s:={ s₁ with heap:=H }) hod' hdd ?_)))
 simp only [show Builtin.Dict_items.ownsTuple "dict_itemiterator"=true by decide,if_true]
 refine wpAny_newObj_type (wpAny_pure ⟨_,rfl,"dict_itemiterator",_,⟨_,Heap.get?_push_size _ rfl,rfl⟩,PySem.F.slot_dict_itemiterator_next.lookup,?_⟩)
  (by simp only [sizeOk,Builtin.Dict_items.ownedTupleFields,List.size_toArray,List.length_append,List.length_cons,List.length_nil,sizeLine_eq];lia)
 have hsz:es'.size=es.length:=(size_of_entries hee).trans hE.length
 have nI:H.get? H.objs.size=none:=get_size_none H
 have aI:a≠H.objs.size:=fun e=>nob nI (e▸hod')
 generalize hG:H.push _=G
 have kG:Kp s₁.heap G:=fun b o e=>hG▸Heap.get?_push_of_some _ (kp b o e)
 have itG:IsItemIter G H.objs.size a 0 es.length ep .none .none:=by
  rw [← hG]
  refine (Heap.get?_push_size _ rfl).trans ?_
  simp [rawInt,hsz,Builtin.Dict_items.ownedTupleFields]
 have nI₁:∀ b∈[H.objs.size],s₁.heap.get? b=none:=fun b hb=>by
  obtain rfl:=List.mem_singleton.mp hb
  exact back_none nI fun o e=>kp _ _ e
 refine spost_mk F (G:=G) I₁ ex kG nI₁ hod hρ rfl hM (items_drw F (es:=es) htgt (TK.of kG) aI hdd hsz hee hE his) ⟨_,_,itG,kG _ _ hod⟩ (fun i h ⟨ok,ov,h1,_⟩ b hb=>?_) q
 obtain rfl:=List.mem_singleton.mp hb
 exact ⟨_,_,h1,(by show Value.type "dict_itemiterator"≠Value.type "list";decide),(by show Value.type "dict_itemiterator"≠Value.type "dict";decide),rfl⟩
end
end
section
section
variable {f:Fx}{sc:Scope}{d:Nat}{ρ:Ab}{σ:Box}{s:Shared}{X:Prop}{N:Ab->Box->Prop}{R:RV->Box->Prop}
inductive FK (f:Fx) (T:Heap) (ws:List Addr) (P:List (Addr×Obj)) (n:Nat) (St:Nat->Heap->Prop) (J:Nat->Ab->Box->Prop) (k:Nat) (s:Shared):Prop
 | mk (i:Nat) (ρ:Ab) (σ:Box):k=n+1 - i->i≤n->St i s.heap->Inv (f.pin T (wpins ws s.heap ++ P)) ρ σ s->J i ρ σ->FK f T ws P n St J k s
theorem for_loopT (F:f.Ok sc d) {tgt:Expr}{body:List Stmt}{I:Addr}{ws:List Addr}{P:List (Addr×Obj)}{xs:List PV}{St:Nat->Heap->Prop}{Mid:Nat->Value->Heap->Prop}{names:List Str}{sp:PV->List PV->Prop} (J:Nat->Ab->Box->Prop)
  (hT:∀ g,Stores g sc=Stores f sc->Tgt g sc tgt names sp) (S:SrcT f I ws P tgt xs St Mid s.heap) (V:Inv f ρ σ s) (hm:∀ y r,ρ y=some r->r.new=true->(∀ b∈ws,b∉r.sl.fp)∧∀ p∈P,p.1∉r.sl.fp) (hsp:∀ y∈xs,∃ zs,sp y zs) (h0:J 0 ρ σ)
  (step:∀ K,(f.pin s.heap K).Ok sc d->∀ i y zs ρ σ,xs[i]?=some y->sp y zs->J i ρ σ->XL (f.pin s.heap K) (setAll ρ names (zs.map RV.im)) σ body (fun ρ' σ'=>J (i+1) ρ' σ') R False)
  (fin:∀ ρ σ,J xs.length ρ σ->N ρ σ) :
  codeAny (model f.c.prog f.c.w) f.A (.forLoop tgt (.ref I) body [] f.env) (fun r s'=>match r with | .ok fl=>XP f N R fl s' | .error e=>cameBackBy (model f.c.prog f.c.w) f.A f.env (ExP f X) e s') s:=by
 refine codeAny_forLoop_any (FK f s.heap ws P xs.length St J) (fun k s' h=>?_) (xs.length+1) ⟨0,ρ,σ,rfl,Nat.zero_le _,S.st,V.pinned (TK.refl _) (fun p hp=>(List.mem_append.mp hp).elim (fun hp=>(wpins_at p hp).2) (S.pins p)) (fun p hp y r hy hr=>(List.mem_append.mp hp).elim (fun hp=>(hm y r hy hr).1 _ (wpins_at p hp).1) ((hm y r hy hr).2 p)),h0⟩
 obtain ⟨i,ρ',σ',rfl,hi,hst,V',hJ⟩:=h
 have tk:∀ {h':Heap},(KpZ ws s'.heap h')->TK s'.heap h':=fun k b ob vs n e c dd=>⟨ob,k b ob (S.noF hst e fun vs q=>nomatch dd.symm.trans q) e,c,dd⟩
 by_cases hlt:i < xs.length
 ·refine S.W.item i s' _ _ hlt hst fun v h₁ tk₁ hMid hk₁=>?_
  refine S.W.go i v _ _ _ hlt hMid (V'.tup.trans (tk hk₁)) fun h₂ y hy him hst₂ hk₂=>?_
  have hk:KpZ ws s'.heap h₂:=fun b o hb e=>hk₂ b o hb (hk₁ b o hb e)
  have pP:∀ p∈P,h₂.get? p.1=some p.2:=fun p hp=>hk _ _ (S.nP p hp).1 (V'.pin p (List.mem_append_left _ (List.mem_append_right _ hp)))
  have V1:Inv (f.pin s.heap (wpins ws h₂ ++ P)) ρ' σ' { s' with heap:=h₂,toks:=tk₁ } :=
   Inv.moveW F V' S.new S.nz S.nK (S.it i _ hst) hk (fun p hp=>(List.mem_append.mp hp).elim (fun hp=>(wpins_at p hp).2) (pP p)) fun p hp=>(List.mem_append.mp hp).elim (fun hp=>.inl (wpins_at p hp).1) fun hp=>.inr (List.mem_append_right _ hp)
  have F1:(f.pin s.heap (wpins ws h₂ ++ P)).Ok sc d:=pin_ok F fun p hp=>(List.mem_append.mp hp).elim (fun hp=>by
   have hw:=(wpins_at p hp).1
   obtain ⟨o,vs,ho,_,_,hd⟩:=S.it (i+1) h₂ hst₂ p.1 hw
   exact ⟨S.nz _ hw,ws_off V1 ho hd⟩) fun hp=>(S.nP p hp).2
  obtain ⟨zs,hzs⟩:=hsp y (List.mem_of_getElem? hy)
  refine (hT (f.pin s.heap (wpins ws h₂ ++ P)) rfl).assign F1 V1 him hzs fun s₃ V2=>?_
  refine wpAny_mono (step _ F1 i y zs ρ' σ' hy hzs hJ s₃ V2) (fun fl s3 q=>?_) fun e s3 q=>q.1.elim
  cases fl with
  | next =>
   obtain ⟨ρ3,σ3,V3,hJ3⟩:=q
   have p3:∀ p∈P,s3.heap.get? p.1=some p.2:=fun p hp=>V3.pin p (List.mem_append_left _ (List.mem_append_right _ hp))
   refine ⟨_,step_lt hlt,i+1,ρ3,σ3,rfl,hlt,S.W.frame (i+1) h₂ s3.heap hst₂ fun b hb o e=>(List.mem_append.mp hb).elim (fun hb=>V3.pin (b,o) (List.mem_append_left _ (List.mem_append_left _ (wpins_mem hb e)))) fun hb=>?_, V3.reK fun p hp=>(List.mem_append.mp hp).elim (fun hp=>⟨(wpins_at p hp).2,?_⟩) fun hp=>⟨p3 p hp,p.2,List.mem_append_right _ hp⟩,hJ3⟩
   ·obtain ⟨p,hp,rfl⟩:=List.mem_map.mp hb
    cases sinj e (pP p hp)
    exact p3 p hp
   ·have hw:=(wpins_at p hp).1
    obtain ⟨o₂,_,h1,_⟩:=S.it (i+1) h₂ hst₂ p.1 hw
    exact ⟨o₂,List.mem_append_left _ (wpins_mem hw h1)⟩
  | ret v =>
   obtain ⟨r,σ3,ρ3,V3,q1,q2,q3⟩:=q
   exact ⟨r,σ3,ρ3,V3.unpin V.tup,q1,q2,q3⟩
  | brk=>exact q.elim
  | cont=>exact q.elim
 ·obtain rfl:=Nat.le_antisymm hi (Nat.le_of_not_lt hlt)
  refine S.W.done s' _ _ hst fun h₁ tk₁ hk₁=>?_
  have V1:Inv (f.pin s.heap []) ρ' σ' { s' with heap:=h₁,toks:=tk₁ }:=Inv.moveW F V' S.new S.nz S.nK (S.it _ _ hst) hk₁ (fun p hp=>(List.not_mem_nil hp).elim) fun p hp=>(List.not_mem_nil hp).elim
  exact wpAny_execs_nil ⟨ρ',σ',V1.unpin V.tup,fin ρ' σ' hJ⟩
theorem XS_ForT (F:f.Ok sc d) {tgt:Expr}{pos:Pos}{iter:Expr}{body:List Stmt}{names:List Str}{sp:PV->List PV->Prop} (hT:∀ g,Stores g sc=Stores f sc->Tgt g sc tgt names sp)
  (h:EST f true tgt ρ σ iter (fun xs σ'=>(∀ y∈xs,∃ zs,sp y zs)∧∃ J:Nat->Ab->Box->Prop,J 0 ρ σ' ∧
   (∀ T K,(f.pin T K).Ok sc d->∀ i y zs ρ σ,xs[i]?=some y->sp y zs->J i ρ σ->XL (f.pin T K) (setAll ρ names (zs.map RV.im)) σ body (fun ρ' σ'=>J (i+1) ρ' σ') R False)∧(∀ ρ σ,J xs.length ρ σ->N ρ σ)) X)
  (hs:∀ x,foldedSetIterable iter f.env x=pure x:=by intro _;rfl):XS f ρ σ (.For tgt iter body [] pos) N R X:=fun s I=>by
 refine wpAny_For (wpAny_mono (h s I) (fun v s₁ h₁=>wpAny_mono h₁ (fun it s₂ h₂=>?_) fun _ _ x=>x) fun _ _ x=>x) hs
 obtain ⟨I',ws,P,xs,St,Mid,σ',rfl,ex,z,S,hm,_,hsp,J,h0,step,fin⟩:=h₂
 exact for_loopT F J hT S (I.ext F ex z) (fun y r hy hr=>⟨(hm y r hy).1,(hm y r hy).2 hr rfl⟩) hsp h0 (fun K=>step _ K) fin
theorem ES.mono {M:Bool}{iter:Expr}{Q Q':List PV->Box->Prop} (h:ES f M ρ σ iter Q X) (k:∀ xs σ',Q xs σ'->Q' xs σ'):ES f M ρ σ iter Q' X:=fun s I =>
 wpAny_mono (h s I) (fun x s₁ h₁=>wpAny_mono h₁ (fun it s₂ hq_=>by obtain ⟨a,b,c,d,e,g,i,h1,h2,h3,h4,h5,h6,h7,h8,q⟩:=hq_;exact ⟨a,b,c,d,e,g,i,h1,h2,h3,h4,h5,h6,h7,h8,k _ _ q⟩) fun _ _ x=>x) fun _ _ x=>x
theorem XS_For (F:f.Ok sc d) {x:Str}{px pos:Pos}{iter:Expr}{body:List Stmt} (hx:Stores f sc x)
  (h:ES f true ρ σ iter (fun xs σ'=>∃ J:Nat->Ab->Box->Prop,J 0 ρ σ' ∧
   (∀ T K,(f.pin T K).Ok sc d->∀ i y ρ σ,xs[i]?=some y->J i ρ σ->XL (f.pin T K) (set ρ x (.im y)) σ body (fun ρ' σ'=>J (i+1) ρ' σ') R False)∧(∀ ρ σ,J xs.length ρ σ->N ρ σ)) X)
  (hs:∀ x,foldedSetIterable iter f.env x=pure x:=by intro _;rfl):XS f ρ σ (.For (.Name x px) iter body [] pos) N R X :=
 XS_ForT F (names:=[x]) (sp:=fun y ys=>ys=[y]) (fun g e=>.name (e▸hx)) (ES.T F (h.mono fun xs σ' ⟨J,h0,step,fin⟩=>⟨fun y _=>⟨[y],rfl⟩,J,h0,fun T K G i y zs ρ σ hy hz hJ=>by subst hz;exact step T K G i y ρ σ hy hJ,fin⟩)) hs
end
end
section
noncomputable abbrev IsDef (c:Cx) (name:Str) (n:Nat):Prop:=FnDef c name (dfn n).params (dfn n).body (dfn n).scope
noncomputable def Const (c:Cx) (x:Str) (p:PV):Prop:=∃ v,c.mg x=some v∧Im c.base v p
noncomputable def numP (p q:Int):PV:=.tup [.str "num",.int p,.int q]
noncomputable def cnTab:List (Str×PV):=[(("MOST_BITS":Str),.int 200000),(("T_ONE":Str),numP 1 1),(("ZERO":Str),numP 0 1),(("ONE":Str),numP 1 1),(("EXP_ONE":Str),.tup [.str "call",.str "exp",.tup [numP 1 1]]),(("MOST_FACTORED":Str),.int 1000000)]
noncomputable def ranks:List (Str×PV):=[(("sym":Str),.int 0),(("call":Str),.int 1),(("sum":Str),.int 2),(("prod":Str),.int 3),(("num":Str),.int 4),(("pow":Str),.int 5),(("eq":Str),.int 6),(("list":Str),.int 7)]
structure Pg (c:Cx):Prop where
 defs:∀ x∈fnTab,IsDef c x.1 x.2
 consts:∀ x∈cnTab,Const c x.1 x.2
 ranks:∃ a,c.mg "RANKS"=some (.ref a)∧TabAt c c.base a ranks
theorem Pg.const {c:Cx} (P:Pg c) {x:Str} (p:PV) (h:(x,p)∈cnTab):Const c x p:=P.consts (x,p) h
section
variable {f:Fx}{sc:Scope}{d:Nat}{ρ:Ab}{σ:Box}{Q:RV->Box->Prop}{X:Prop}
theorem EV_Const (F:f.Ok sc d) {x:Str}{pos:Pos}{p:PV} (hx:sc.names.lookup x=some .globalImplicit) (hg:Const f.c x p) (h:Q (.im p) σ) (hd:(x == ("__debug__":Str))=false:=by decide):EV f ρ σ (.Name x pos) Q X:=by
 obtain ⟨v,h1,h2⟩:=hg
 exact EV_Global F hx (.inl h1) (sl:=.val p) h2 h hd
theorem EV_Ranks (F:f.Ok sc d) (P:Pg f.c) {pos:Pos} (hx:sc.names.lookup ("RANKS":Str)=some .globalImplicit) (h:∀ a,Q ⟨.tab a Mine.ranks,false⟩ σ):EV f ρ σ (.Name "RANKS" pos) Q X:=by
 obtain ⟨a,h1,h2⟩:=P.ranks
 exact EV_Global F hx (.inl h1) (sl:=.tab a Mine.ranks) ⟨rfl,h2⟩ (h a) (by decide)
theorem XS.cut {st:Stmt}{N N':Ab->Box->Prop}{R:RV->Box->Prop} (h:XS f ρ σ st N' R X) (k:∀ ρ' σ',N' ρ' σ'->N ρ' σ'):XS f ρ σ st N R X:=fun s I=>wpAny_mono (h s I) (fun fl s' x=>by
  cases fl with
  | next=>obtain ⟨ρ',σ',i,q⟩:=x;exact ⟨ρ',σ',i,k _ _ q⟩
  | ret v=>exact x
  | brk=>exact x
  | cont=>exact x) fun _ _ x=>x
theorem XL.cut {sts:List Stmt}{N N':Ab->Box->Prop}{R:RV->Box->Prop} (h:XL f ρ σ sts N' R X) (k:∀ ρ' σ',N' ρ' σ'->N ρ' σ'):XL f ρ σ sts N R X:=fun s I=>wpAny_mono (h s I) (fun fl s' x=>by
  cases fl with
  | next=>obtain ⟨ρ',σ',i,q⟩:=x;exact ⟨ρ',σ',i,k _ _ q⟩
  | ret v=>exact x
  | brk=>exact x
  | cont=>exact x) fun _ _ x=>x
end
theorem Pg.isFn {c:Cx} (P:Pg c) {g:Str} (n:Nat) (h:(g,n)∈fnTab):IsFn c g:=⟨_,_,_,P.defs (g,n) h⟩
theorem Pg.at {c:Cx} (P:Pg c) (g:Str) (n:Nat) (h:(g,n)∈fnTab:=by decide +kernel):IsDef c g n:=P.defs (g,n) h
theorem Fn.is {c:Cx}{d d':Nat}{fn:Str}{args:List Slot}{v:RV}{Q':RV->Prop}{X':Prop} (h:Fn c d fn args (fun r=>r=v) False) (q:Q' v) (hd:d≤d':=by omega):Fn c d' fn args Q' X':=h.mono hd (fun r _ e=>e▸q) False.elim
theorem Fn.does {c:Cx}{d d':Nat}{fn:Str}{args:List Slot}{Q Q':RV->Prop}{X':Prop} (h:Fn c d fn args Q False) (q:∀ r,r.new=true->Q r->Q' r) (hd:d≤d':=by omega):Fn c d' fn args Q' X':=h.mono hd q False.elim
end
section
structure BoxIn (c:Cx) (frs:List Env) (B L:Addr):Prop where
 new:∀ a∈[B,L],c.base.get? a=none
 fr:∀ e∈frs,∀ F,e.frame=some F->F∉[B,L]
structure InB (f:Fx) (c:Cx) (scope:Scope) (d:Nat) (B L:Addr):Prop where
 ok:f.Ok scope d
 c:f.c=c
 own:f.own=true
 cells:∀ x,scope.names.lookup x=some .cell->∃ a,f.env.cells.lookup x=some a
 z:f.Z=[B,L]
 zok:f.zok=BoxOk B L
theorem frame_okB {c:Cx}{A:Around}{frs:List Env}{d:Nat}{s:Shared}{env:Env}{scope:Scope}{fa:Addr}{code:Value}{q:Str}{s':Shared}{m cm:Str->Option Value}{B L:Addr}{σ:Box} (E:CallEnv c A frs (d+1) s)
  (he:env=newEnv scope s.heap.objs.size mainGlobals (cellsFrom (s.heap.objs.size+1) scope.names []) q (some fa) code none builtinsNs) (hk:scope.kind=.function) (x:InCallC s env.locals m env.cells cm s') (hb:BoxIn c frs B L) (hz:BoxOk B L σ s.heap) :
  Fx.Ok { c:=c,A:=A.deeper env,env:=env,frs:=env :: frs,H:=s,Z:=[B,L],zok:=BoxOk B L,own:=true,K:=[],T:=s.heap } scope d∧BoxIn c (env :: frs) B L:=by
 have hnew:∀ b,s.heap.objs.size≤b->s.heap.get? b=none:=fun b hb=>by
  exact none_from _ hb
 have hL:=x.toInCall.fresh
 have zlt:∀ a∈[B,L],a < s.heap.objs.size:=fun a ha=>by
  obtain ⟨o,ho,_⟩:=hz.live ha
  exact Heap.lt_size ho
 have hfr:env.frame=some env.locals:=by subst he;rfl
 have fz:∀ e∈env :: frs,∀ F,e.frame=some F->F∉[B,L]:=fun e hm F hF hz=>by
  rcases List.mem_cons.mp hm with rfl | hm
  ·cases hfr.symm.trans hF
   exact absurd (zlt _ hz) (Nat.not_lt.mpr hL)
  ·exact hb.fr e hm F hF hz
 refine ⟨{ cx:=E.cx,scope:=by subst he;rfl,kind:=hk,glob:=by subst he;rfl,blt:=by subst he;rfl,handled:=E.handled,room:=?_,units:=?_,frames:=Around.frames_deeper E.frames, fr:=⟨env,frs,env.locals,rfl,hfr,hfr,by subst he;exact hk⟩,base:=E.base,zbase:=hb.new,zsame:=fun σ h h' k z=>z.stay k,ztup:=fun σ h a o ha z e=>?_, zlive:=(fun σ h a ha z=>let ⟨o,ho,_⟩:=z.live ha;⟨o,ho⟩),fz:=fz,lnew:=hnew _ hL,cnew:=fun _ p hp=>hnew _ (Nat.le_of_lt (Nat.lt_of_le_of_lt hL (x.above p.1 p.2 hp))),apart:=fun _=>x.apart,lz:=fun ha=>absurd (zlt _ ha) (Nat.not_lt.mpr hL), cz:=fun p hp=>⟨fun ha=>absurd (zlt _ ha) (Nat.not_lt.mpr (Nat.le_of_lt (Nat.lt_of_le_of_lt hL (x.above p.1 p.2 hp)))),Nat.ne_of_gt (x.above p.1 p.2 hp)⟩,kz:=fun p hp=>(List.not_mem_nil hp).elim },hb.new,fz⟩
 ·have:=E.room;show A.depth+1+d < recursionLimit;lia
 ·have:=E.units;show A.units+3+8 * d+60 < cLine;lia
 ·obtain ⟨o',ho',hc,_⟩:=z.live ha
  cases e.symm.trans ho'
  refine hc▸?_;decide
theorem frame_invB {c:Cx}{A:Around}{frs:List Env}{s:Shared}{env:Env}{s':Shared}{m cm:Str->Option Value}{ρ:Ab}{scope:Scope}{B L:Addr}{σ:Box} (hff:s.heap.FunFrames c.base frs) (hbase:Kp c.base s.heap)
  (hf:env.frame=some env.locals) (hsc:env.scope=scope) (hk:scope.kind=.function) (hnd:(env.cells.map (·.1)).Nodup)
  (x:InCallC s env.locals m env.cells cm s') (hz:BoxOk B L σ s.heap)
  (hv:∀ y sl,ρ y=some sl->sl.new=false∧(∀ a∈sl.sl.fp,a∉[B,L])∧∃ v,(env.kindOf y=some .local∧m y=some v∨env.kindOf y=some .cell∧(env.cells.lookup y).isSome=true∧cm y=some v)∧sl.sl.ok c s.heap v) :
  Inv { c:=c,A:=A.deeper env,env:=env,frs:=env :: frs,H:=s,Z:=[B,L],zok:=BoxOk B L,own:=true,K:=[],T:=s.heap } ρ σ s':=by
 obtain ⟨h',tk,e,hk'⟩:=x.done
 have kp:Kp s.heap s'.heap:=by subst e;exact hk'
 have hnew:∀ b,s.heap.objs.size≤b->s.heap.get? b=none:=fun b hb=>by
  exact none_from _ hb
 have hL:=x.toInCall.fresh
 refine ⟨⟨h',tk,e⟩,fun b o _ e=>kp b o e,hz.stay fun b o _ q=>kp b o q,?_,⟨m,x.toInCall.ns,fun y sl hy=>?_⟩,?_,fun p hp=>(List.not_mem_nil hp).elim,TK.of kp,?_,?_⟩
 ·refine .cons (by refine hsc▸?_;refine hk▸?_;decide) hf x.toInCall.ns ?_ (ff_of (fun en he b o hf e hd=>⟨o,kp b o e,hd⟩) hff)
  exact back_none (hnew _ hL) fun o p=>hbase _ o p
 ·obtain ⟨_,_,v,h1,ok⟩:=hv y sl hy
  refine ⟨v,?_,ok.mono (TK.of kp) fun a _ o q=>kp a o q⟩
  rcases h1 with h1 | ⟨h1,h2,h3⟩
  ·exact .inl h1
  ·obtain ⟨a,ha⟩:=Option.isSome_iff_exists.mp h2
   exact .inr ⟨.inl h1,a,ha,h3▸x.cell y a ha⟩
 ·exact fun p hp=>⟨_,x.cell p.1 p.2 (lookup_of_mem_nodup hnd hp)⟩
 ·intro y sl a hy ha
  obtain ⟨_,hoff,v,_,ok⟩:=hv y sl hy
  obtain ⟨o,ho,_⟩:=ok.live a ha
  have lt:a < s.heap.objs.size:=Heap.lt_size ho
  exact ⟨Nat.ne_of_lt (Nat.lt_of_lt_of_le lt hL),hoff a ha,fun p hp=>Nat.ne_of_gt (Nat.lt_trans (Nat.lt_of_lt_of_le lt hL) (x.above p.1 p.2 hp))⟩
 ·intro y r a hy hr
  cases ((hv y r hy).1).symm.trans hr
end
section
section
variable {f:Fx}{sc:Scope}{d:Nat}{ρ:Ab}{σ:Box}{s:Shared}{X:Prop}{Q:RV->Box->Prop}{N:Ab->Box->Prop}{R:RV->Box->Prop}{B L:Addr}
theorem wp_box (F:f.Ok sc d) (hzok:f.zok=BoxOk B L) {x:Str}{nw:Bool}{p sp pos:Pos}{k:Int}{kk:Nat} (hρ:ρ x=some ⟨.ref (.ref B),nw⟩) (I:Inv f ρ σ s) {Qc:Value->Shared->Prop}{E:Value->Shared->Prop}{v:Value->Prop}
  (h0:0≤k) (h63:k < 2 ^ 63) (hv:∀ tk,∃ y,(#[.ref L,.int σ.2 tk]:Array Value)[k.toNat]?=some y∧v y) (h:∀ y s',v y->Ext f s s'->Inv f ρ σ s'->Qc y s')
  (hd:(x == ("__debug__":Str))=false:=by decide) (hc:(x == ("__classdict__":Str))=false:=by decide) :
  wpAny (model f.c.prog f.c.w) f.A (eval (.Subscript (.Name x p) (.Constant (.int k) kk sp) pos) f.env) Qc E s:=by
 refine Subscript_ (E:=E) (EV.use F (EV_Name F (X:=False) (Q:=fun r σ'=>r=⟨.ref (.ref B),false⟩∧σ'=σ) hρ ⟨rfl,rfl⟩ hd hc) I (fun _ _ x=>x.1.elim) fun ov s₁ r0 σ1 ex1 I₁ ok1 off1 hq_=>?_)
 obtain ⟨e1,e2⟩:=hq_
 subst e1 e2
 obtain rfl:ov=.ref B:=ok1.1
 refine EV.use F (EV_int F (X:=False) (Q:=fun r σ'=>r=.im (.int k)∧σ'=σ1) ⟨rfl,rfl⟩) I₁ (fun _ _ x=>x.1.elim) fun iv s₂ r2 σ2 ex2 I₂ ok2 off2 hq_=>?_
 obtain ⟨e1,e2⟩:=hq_
 subst e1 e2
 have a2:Im s₂.heap iv (.int k):=ok2.1
 have hz:=I₂.z
 replace hz:=hzok▸hz
 obtain ⟨tk,hl⟩:=hz.out
 obtain ⟨y,hy,vy⟩:=hv tk
 obtain ⟨_,rfl⟩:=Im.toInt a2
 exact tail_any hl.typeIs slot_list_getitem.lookup (wpAny_getItem_list hl h0 h63 hy (h y s₂ vy (ex1.trans ex2) I₂)) (by with_unfolding_all rfl)
theorem EV_Box1 (F:f.Ok sc d) (hzok:f.zok=BoxOk B L) {x:Str}{nw:Bool}{p sp pos:Pos}{kk:Nat} (hρ:ρ x=some ⟨.ref (.ref B),nw⟩) (h:Q (.im (.int σ.2)) σ)
  (hd:(x == ("__debug__":Str))=false:=by decide) (hc:(x == ("__classdict__":Str))=false:=by decide) :
  EV f ρ σ (.Subscript (.Name x p) (.Constant (.int 1) kk sp) pos) Q X:=fun s I =>
 wp_box F hzok hρ I (v:=fun y=>∃ t,y=.int σ.2 t) (by decide) (by decide) (fun tk=>⟨_,rfl,_,rfl⟩) (fun y s' ⟨t,e⟩ ex I'=>by
  subst e
  exact ⟨.im (.int σ.2),σ,ex,I'.z,⟨.int _ _,fun e=>(by cases e)⟩,fun a ha=>(by cases ha),h⟩) hd hc
theorem EV_BoxLen (F:f.Ok sc d) (hzok:f.zok=BoxOk B L) {x:Str}{nw:Bool}{lp p sp bp pos:Pos}{kk:Nat} (hx:sc.names.lookup ("len":Str)=some .globalImplicit) (hρ:ρ x=some ⟨.ref (.ref B),nw⟩) (hlen:σ.1.length≤1000000) (h:Q (.im (.int σ.1.length)) σ)
  (hd:(x == ("__debug__":Str))=false:=by decide) (hc:(x == ("__classdict__":Str))=false:=by decide) :
  EV f ρ σ (.Call (.Name "len" lp) [.Subscript (.Name x p) (.Constant (.int 0) kk sp) bp] [] pos) Q X:=fun s I=>by
 refine wpAny_Call_Name_kw (wp_GName F I hx (blt_name F (by decide) blt_len) ?_)
 refine PyProof.Rows.callWith_builtin1 (wpAny_items_cons (wp_box F hzok hρ I (v:=fun y=>y=.ref L) (by decide) (by decide) (fun tk=>⟨_,rfl,rfl⟩) (fun y s' e ex I'=>wpAny_items_nil ?_) hd hc)) rfl rfl
 subst e
 have hz:=I'.z
 rw [hzok] at hz
 obtain ⟨vs,n,hl,hi⟩:=hz.inn
 have e1:=hi.length
 simp only [Array.length_toList,List.length_map] at e1
 refine PySem.Calls.call_len_list hl.isList (by refine e1▸?_;exact fitsLen hlen) ⟨.im (.int σ.1.length),σ,ex.trans (Ext.of fun _ _ e=>e),I'.z,⟨?_,fun e=>(by cases e)⟩,fun a ha=>(by cases ha),h⟩
 refine e1▸?_
 exact .int _ _
set_option tactic.hygienic true in
theorem EV_BoxPop (F:f.Ok sc d) (hZ:f.Z=[B,L]) (hzok:f.zok=BoxOk B L) {x:Str}{nw:Bool}{p sp bp ap cp ip:Pos}{kk ik:Nat}{a:Int}{r:List Int}{n:Int} (hρ:ρ x=some ⟨.ref (.ref B),nw⟩) (hσ:σ=(a :: r,n)) (hlen:r.length≤900000) (h:Q (.im (.int a)) (r,n))
  (hd:(x == ("__debug__":Str))=false:=by decide) (hc:(x == ("__classdict__":Str))=false:=by decide)
  (hbase:attributeBase (.Subscript (.Name x p) (.Constant (.int 0) kk sp) bp) ("pop":Str) f.env (eval (.Subscript (.Name x p) (.Constant (.int 0) kk sp) bp) f.env)=eval (.Subscript (.Name x p) (.Constant (.int 0) kk sp) bp) f.env:=by rfl) (hline:(ap.endLine == cp.line)=true:=by rfl)
  (htrees:backTo cp (starEach [.Constant (.int 0) ik ip] f.env)=[(false,eval (.Constant (.int 0) ik ip) f.env)]:=by rfl) :
  EV f ρ σ (.Call (.Attribute (.Subscript (.Name x p) (.Constant (.int 0) kk sp) bp) "pop" ap) [.Constant (.int 0) ik ip] [] cp) Q X:=fun s I=>by
 subst hσ
 refine wpAny_Call_method1_late hbase hline htrees (wp_box F hzok hρ I (v:=fun y=>y=.ref L) (by decide) (by decide) (fun tk=>⟨_,rfl,rfl⟩) (fun y s₁ e ex I₁=>?_) hd hc)
 subst e
 have hz:=I₁.z
 replace hz:=hzok▸hz
 obtain ⟨vs,m,hl,hi⟩:=hz.inn
 refine ⟨"list","list.pop",PySem.F.plainAttrs_list,PySem.F.slot_list_pop,PySem.F.type_list_pop,⟨_,hl,rfl⟩,fun b hb=>by cases hb;exact ⟨_,hl,rfl⟩,P.pop_at_list (EV.use F (EV_int F (X:=False) (Q:=fun r σ'=>r=.im (.int 0)∧σ'=(a :: _,n)) ⟨rfl,rfl⟩) I₁ (fun _ _ x=>x.1.elim) fun iv s₂ r2 σ2 ex2 I₂ ok2 off2 hq_=>?_)⟩
 obtain ⟨e1,e2⟩:=hq_
 subst e1 e2
 have a2:Im s₂.heap iv (.int 0):=ok2.1
 have hz:=I₂.z
 replace hz:=hzok▸hz
 obtain ⟨⟨tk,ho⟩,⟨vs,m,hl,hi⟩,hne⟩:=hz
 obtain ⟨_,rfl⟩:=Im.toInt a2
 rename_i t
 have hi':Ims s₂.heap vs.toList (.int a :: r.map PV.int):=hi
 have e1:=hi.length
 simp only [Array.length_toList,List.length_map,List.length_cons] at e1
 obtain ⟨y,hy,hiy⟩:=hi'.get 0 (.int a) rfl
 obtain ⟨_,rfl⟩:=Im.toInt hiy
 rename_i ta
 have hy':vs[0]?=some (.int a ta):=by simpa using hy
 refine ⟨vs,m,0,t,0,.int a ta,by rw [e1];exact sizeLine_ge (by lia),rfl,hl,by decide,seqIndex_nat (by decide) (by show 0 < vs.size;lia),hy',?_⟩
 refine ⟨.im (.int a),(r,n),(ex.trans ex2).trans ⟨⟨_,_,rfl⟩,fun b o hb q=>?_⟩,?_,⟨.int _ _,fun e=>(by cases e)⟩,fun a ha=>(by cases ha),h⟩
 ·replace hb:=hZ▸hb
  have:L≠b:=fun e=>hb (e▸.tail _ (.head _))
  exact (Heap.get?_update_ne _ _ _ _ (Ne.symm this)).trans q
 ·rw [hzok]
  obtain ⟨o,ho,r1⟩:=ho
  refine ⟨⟨tk,o,(Heap.get?_update_ne _ _ _ _ hne).trans ho,r1⟩,⟨vs.eraseIdxIfInBounds 0,_,hl.update (·.eraseIdxIfInBounds 0),?_⟩,hne⟩
  have e2:(vs.eraseIdxIfInBounds 0).toList=vs.toList.tail:=by
   rw [Array.eraseIdxIfInBounds];rw [dif_pos (by show 0 < vs.size;lia)];rw [Array.toList_eraseIdx]
   cases vs.toList <;> rfl
  rw [e2]
  cases hvs:vs.toList with
  | nil=>replace hi':=hvs▸hi';cases hi'
  | cons v0 vr =>
   replace hi':=hvs▸hi'
   cases hi' with
   | cons _ q=>exact ims_ints q
theorem XS_BoxSet (F:f.Ok sc d) (hZ:f.Z=[B,L]) (hzok:f.zok=BoxOk B L) {x:Str}{nw:Bool}{p sp bp pos:Pos}{kk:Nat}{value:Expr} (hρ:ρ x=some ⟨.ref (.ref B),nw⟩)
  (h:EV f ρ σ value (fun r σ'=>∃ i,r.sl=.val (.int i)∧N ρ (σ'.1,i)) X)
  (hd:(x == ("__debug__":Str))=false:=by decide) (hc:(x == ("__classdict__":Str))=false:=by decide)
  (hs:swapsWith value (some (.Subscript (.Name x p) (.Constant (.int 1) kk sp) bp)) pos.line f.env=pure false:=by rfl) :
  XS f ρ σ (.Assign [.Subscript (.Name x p) (.Constant (.int 1) kk sp) bp] value pos) N R X:=fun s I=>by
 refine wpAny_Assign_Subscript (h.use F I (fun _ _ x=>x) fun v s₁ r σ1 ex I₁ ok off hq_=>?_) hs
 obtain ⟨i,hi,q⟩:=hq_
 refine EV.use F (EV_Name F (X:=False) (Q:=fun r σ'=>r=⟨.ref (.ref B),false⟩∧σ'=σ1) hρ ⟨rfl,rfl⟩ hd hc) I₁ (fun _ _ x=>x.1.elim) fun ov s₂ r0 σ2 ex2 I₂ ok2 off2 hq_=>?_
 obtain ⟨e1,e2⟩:=hq_
 subst e1 e2
 obtain rfl:ov=.ref B:=ok2.1
 refine EV.use F (EV_int F (X:=False) (Q:=fun r σ'=>r=.im (.int 1)∧σ'=σ2) ⟨rfl,rfl⟩) I₂ (fun _ _ x=>x.1.elim) fun iv s₃ r3 σ3 ex3 I₃ ok3 off3 hq_=>?_
 obtain ⟨e1,e2⟩:=hq_
 subst e1 e2
 have a3:Im s₃.heap iv (.int 1):=ok3.1
 obtain ⟨_,rfl⟩:=Im.toInt a3
 have oi:=ok.1
 replace oi:=hi▸oi
 obtain ⟨_,rfl⟩:=Im.toInt oi
 have hz:=I₃.z
 replace hz:=hzok▸hz
 obtain ⟨⟨tk,ho⟩,hin,hne⟩:=hz
 refine wpAny_setItem_list ho (by decide) (by decide) (by show (1:Int) < ((2:Nat):Int);decide) fun h' hl' hs'=>⟨ρ,(σ3.1,i),?_,q⟩
 refine I₃.ext F (σ':=(σ3.1,i)) ⟨⟨h',s₃.toks,rfl⟩,fun b o hb q=>?_⟩ ?_
 ·replace hb:=hZ▸hb
  exact (hs'.2 b fun e=>hb (e▸.head _)).trans q
 ·rw [hzok]
  obtain ⟨vs,m,hl,hi⟩:=hin
  exact ⟨⟨_,hl'⟩,⟨vs,m,(hs'.2 L (Ne.symm hne)).trans hl,ims_ints hi⟩,hne⟩
end
end
section
inductive BPost (c:Cx) (B L:Addr) (s:Shared) (Q:RV->Box->Prop) (v:Value) (s':Shared):Prop
 | mk (r:RV) (σ':Box):Same s s'->(∀ b o,b∉[B,L]->s.heap.get? b=some o->s'.heap.get? b=some o)->BoxOk B L σ' s'.heap->r.ok c s.heap s'.heap v->r.new=true->Q r σ'->BPost c B L s Q v s'
noncomputable def BFn (c:Cx) (d:Nat) (B L:Addr) (fn:Str) (args:List Slot) (σ:Box) (Q:RV->Box->Prop):Prop :=
 ∀ A frs s a vals,c.mg fn=some (.ref a)->CallEnv c A frs d s->Args c s.heap vals args->BoxIn c frs B L->BoxOk B L σ s.heap ->
  wpAny (model c.prog c.w) A (call (.ref a) vals) (BPost c B L s Q) (fun _ _=>False) s
theorem BFn.mono {c:Cx}{d d':Nat}{B L:Addr}{fn:Str}{args:List Slot}{σ:Box}{Q Q':RV->Box->Prop} (h:BFn c d B L fn args σ Q) (hd:d≤d') (k:∀ r σ',r.new=true->Q r σ'->Q' r σ'):BFn c d' B L fn args σ Q' :=
 fun A frs s a vals hm E ha hb hz=>wpAny_mono (h A frs s a vals hm ⟨E.cx,E.handled,E.frames,by have:=E.room;lia,by have:=E.units;lia,E.base,E.ff⟩ ha hb hz)
  (fun v s' hq_=>by obtain ⟨r,σ',x1,x2,x3,x4,x5,x6⟩:=hq_;exact ⟨r,σ',x1,x2,x3,x4,x5,k r σ' x5 x6⟩) fun _ _ x=>x
theorem enterB_of {c:Cx}{d:Nat}{fn:Str}{params:Arguments}{body:List Stmt}{scope:Scope}{sls:List Slot}{ρ:Ab}{σ:Box}{B L:Addr}{Q:RV->Box->Prop}
  (D:FnDef c fn params body scope) (hk:scope.kind=.function) (hco:scope.isCoroutine=false) (hgen:scope.isGenerator=false) (hnd:((cellsFrom 0 scope.names []).map (·.1)).Nodup)
  (binds:List Value->List (Str×Value))
  (hbind:∀ vals h pm code doc,Args c h vals sls->bindArgs (docDef fn params body scope pm code doc) ⟨vals,[]⟩=pure (binds vals))
  (hkind:∀ vals h,Args c h vals sls->((binds vals).all fun y=>scope.names.lookup y.1 == some .local || scope.names.lookup y.1 == some .cell)=true)
  (hρ:∀ vals h (k:Str->Option NameKind),Args c h vals sls->(∀ x,k x=scope.names.lookup x)->∀ y sl,ρ y=some sl->sl.new=false∧sl.sl.fp=[]∧∃ v,(k y=some .local∧bindL k (binds vals) (fun _=>none) y=some v∨k y=some .cell∧bindC k (binds vals) (fun _=>none) y=some v)∧sl.sl.ok c h v)
  (h:∀ f,InB f c scope d B L->XL f ρ σ body (fun _ _=>False) (fun r σ'=>Q r σ') False):BFn c (d+1) B L fn sls σ Q:=by
 intro A frs s a vals hm E ha hb hz
 obtain ⟨a',o,pm,code,doc,h1,h2,h3,h4⟩:=D
 cases h1.symm.trans hm
 have hroom:A.depth < recursionLimit:=by have:=E.room;lia
 refine wpAny_call ?_
 refine codeAny_call_function hroom (E.base _ _ h2) h3 hco hgen rfl (h4.keeps E.base) ?_
 refine wp_eq (hbind vals _ pm code doc ha) ?_
 refine wpAny_pure ?_
 refine wpAny_newFunctionEnv_cells hk (kindsX (hkind vals _ ha) _) fun env he s' x=>?_
 have he':env=newEnv scope s.heap.objs.size mainGlobals (cellsFrom (s.heap.objs.size+1) scope.names []) (fn ++ ".<locals>.") (some a) code none builtinsNs:=he
 have hsc:env.scope=scope:=by refine he'▸?_;rfl
 have hfr:env.frame=some env.locals:=by refine he'▸?_;rfl
 have hcl:env.cells=cellsFrom (s.heap.objs.size+1) scope.names []:=by refine he'▸?_;rfl
 refine ⟨(E.cx.nolimit.keeps E.base).keeps x.toInCall.keep,codeAny_func ?_⟩
 have ok:=(frame_okB E he' hk x hb hz).1
 have hnd':(env.cells.map (·.1)).Nodup:=by refine hcl▸?_;exact cellsFrom_names scope.names 0 (s.heap.objs.size+1) [] [] rfl▸hnd
 have cells:∀ y,scope.names.lookup y=some .cell->∃ a,env.cells.lookup y=some a:=fun y hy=>by
  refine hcl▸?_;exact Option.isSome_iff_exists.mp (cellsFrom_some _ _ _ (.inl hy))
 have kof:∀ y,env.kindOf y=scope.names.lookup y:=fun y=>by unfold Env.kindOf;exact hsc▸rfl
 have I:=frame_invB (A:=A) (ρ:=ρ) (σ:=σ) E.ff E.base hfr hsc hk hnd' x hz (fun y sl hy=>by
  obtain ⟨h0,hf,v,h1,h2⟩:=hρ vals _ env.kindOf ha kof y sl hy
  refine ⟨h0,fun a ha=>by replace ha:=hf▸ha;(cases ha),v,?_,h2⟩
  rcases h1 with h1 | ⟨h1,h3⟩
  ·exact .inl h1
  ·exact .inr ⟨h1,Option.isSome_iff_exists.mpr (cells y (kof y▸h1)),h3⟩)
 refine wpAny_mono (h _ ⟨ok,rfl,rfl,cells,rfl,rfl⟩ s' I) (fun fl s'' q=>?_) fun e s'' q=>q.1.elim
 cases fl with
 | next=>obtain ⟨_,_,_,q⟩:=q;exact q.elim
 | ret v =>
  obtain ⟨r,σ',ρ',I',ok',hn,q⟩:=q
  exact ⟨r,σ',I'.same,fun b o hb e=>I'.keep b o hb e,I'.z,ok',hn,q⟩
 | brk=>exact q.elim
 | cont=>exact q.elim
theorem enterB2 {c:Cx}{d:Nat}{fn x y:Str}{params:Arguments}{body:List Stmt}{scope:Scope}{v0:Value}{b:PV}{σ:Box}{B L:Addr}{Q:RV->Box->Prop} (D:FnDef c fn params body scope)
  (h:∀ f,InB f c scope d B L->XL f (par2 x y (.ref v0) (.val b)) σ body (fun _ _=>False) (fun r σ'=>Q r σ') False)
  (hbind:∀ v u pm code doc,bindArgs (docDef fn params body scope pm code doc) ⟨[v,u],[]⟩=pure [(x,v),(y,u)]) (hx:LocCell scope x) (hy:LocCell scope y) (hne:x≠y)
  (hk:scope.kind=.function) (hco:scope.isCoroutine=false) (hgen:scope.isGenerator=false) (hnd:((cellsFrom 0 scope.names []).map (·.1)).Nodup):BFn c (d+1) B L fn [.ref v0,.val b] σ Q:=by
 refine enterB_of D hk hco hgen hnd (fun vals=>[x,y].zip vals) (fun vals h pm code doc ha=>?_) (fun vals h ha=>?_) (fun vals h k ha kof z sl hz=>?_) h <;> obtain ⟨v,u,rfl,a1,a2⟩:=args_two ha
 ·exact hbind _ _ _ _ _
 ·exact Bool.and_eq_true _ _▸⟨hx.b,(Bool.and_true _).trans hy.b⟩
 ·obtain ⟨n,e,w⟩:=two_look hx hy hne kof a1 a2 hz
  exact ⟨n,e.elim (fun e=>e▸rfl) (fun e=>e▸rfl),w⟩
section
variable {f:Fx}{sc:Scope}{d:Nat}{ρ:Ab}{σ:Box}{s:Shared}{Q:RV->Box->Prop}{X:Prop}{B L:Addr}
theorem EV_CallB (F:f.Ok sc (d+1)) (hZ:f.Z=[B,L]) (hzok:f.zok=BoxOk B L) {g:Str}{p pos:Pos}{e:Expr}{es:List Expr} (hx:sc.names.lookup g=some .globalImplicit) (hg:IsFn f.c g)
  (h:EL f ρ σ (e :: es) (fun rs σ'=>BFn f.c d B L g (rs.map (·.sl)) σ' Q) X)
  (he:starEach (e :: es) f.env=(false,eval e f.env) :: starEach es f.env:=by rfl) (hd:(g == ("__debug__":Str))=false:=by decide):EV f ρ σ (.Call (.Name g p) (e :: es) [] pos) Q X:=fun s I=>by
 obtain ⟨a,o,fd,h1,h2,h3⟩:=hg.name
 refine wpAny_Call_Name_kw (wp_GName F I hx (.inl h1) ?_ hd)
 have hb:backTo pos (starEach (e :: es) f.env)=(false,eval e f.env) :: backTo pos (starEach es f.env):=by refine he▸?_;rfl
 refine hb▸?_
 refine callWith_function_kw (o:=o) (fd:=fd) (evalArgs_kw rfl ?_)
 refine hb▸?_
 refine wpAny_mono (h s pos I) (fun vs s' hq_=>?_) fun _ _ x=>x
 obtain ⟨rs,σ',ex,z,oks,q⟩:=hq_
 have I':=I.ext F ex z
 have hbase:Kp f.c.base s'.heap:=I'.kb F
 refine wpAny_evalAll_nil ⟨⟨hbase _ _ h2,h3⟩,?_⟩
 show wpAny _ _ (call (.ref a) ([] ++ vs) []) _ _ _
 have E:CallEnv f.c f.A f.frs d s':=⟨F.cx,F.handled,F.frames,by have:=F.room;lia,by have:=F.units;lia,hbase,I'.ff⟩
 have bin:BoxIn f.c f.frs B L:=⟨fun a ha=>F.zbase a (by refine hZ▸?_;exact ha),fun e he L hL=>by have:=F.fz e he L hL;rwa [hZ] at this⟩
 have z':=z
 rw [hzok] at z'
 refine wpAny_mono (q f.A f.frs s' a vs h1 E oks.args bin z') (fun v s'' hq_=>?_) fun x s'' hx=>hx.elim
 obtain ⟨r,σ'',x1,x2,x3,x4,x5,x6⟩:=hq_
 have offz:∀ a∈r.sl.fp,a∉f.Z:=fun a ha hz=>by
  obtain ⟨o,ho⟩:=F.zlive σ' s'.heap a hz z
  exact nob (x4.2 x5 a ha) ho
 obtain ⟨h',tk,e⟩:=x1
 refine ⟨r,σ'',ex.trans ⟨⟨h',tk,e⟩,fun b o hb e=>x2 b o (by refine hZ▸?_;exact hb) e⟩,by refine hzok▸?_;exact x3,rv_from ex offz x4,offz,x6⟩
end
end
section
noncomputable def vIf (b:Bool) (A B:Prop):Prop:=match b with
 | true=>A
 | false=>B
@[reducible] noncomputable def vG (b:Bool) (A B:Prop):Prop:=match b with
 | true=>A
 | false=>B
@[reducible] noncomputable def vOpt {α:Type} (o:Option α) (A:α->Prop) (B:Prop):Prop:=match o with
 | some x=>A x
 | none=>B
theorem vG_use {b:Bool}{A B G:Prop} (h:vG b A B) (k:b=true->A->G) (l:b=false->B->G):G:=by
 cases b
 ·exact l rfl h
 ·exact k rfl h
theorem vOpt_use {α:Type}{o:Option α}{A:α->Prop}{B G:Prop} (h:vOpt o A B) (k:∀ x,o=some x->A x->G) (l:B->G):G:=by
 cases o with
 | none=>exact l h
 | some x=>exact k x rfl h
noncomputable def asIntS:Slot->Option Int
 | .val (.int a)=>some a
 | _=>none
noncomputable def asStrS:Slot->Option Str
 | .val (.str a)=>some a
 | _=>none
noncomputable def asBoolS:Slot->Option Bool
 | .val (.bool a)=>some a
 | _=>none
noncomputable def asTup:Slot->Option (List PV)
 | .val (.tup xs)=>some xs
 | _=>none
noncomputable def asSeq:Slot->Option (List PV)
 | .val (.tup xs)=>some xs
 | .lst _ xs=>some xs
 | _=>none
noncomputable def asVal:Slot->Option PV
 | .val x=>some x
 | _=>none
noncomputable def asTab:Slot->Option (List (Str×PV))
 | .tab _ es=>some es
 | _=>none
noncomputable def asInt?:Option RV->Option Int
 | some ⟨.val (.int a),_⟩=>some a
 | _=>none
theorem asIntS_eq {s:Slot}{a:Int} (h:asIntS s=some a):s=.val (.int a):=by
 cases s with
 | val p=>cases p <;> cases h;rfl
 | _=>exact non h
theorem asStrS_eq {s:Slot}{a:Str} (h:asStrS s=some a):s=.val (.str a):=by
 cases s with
 | val p=>cases p <;> cases h;rfl
 | _=>exact non h
theorem asBoolS_eq {s:Slot}{a:Bool} (h:asBoolS s=some a):s=.val (.bool a):=by
 cases s with
 | val p=>cases p <;> cases h;rfl
 | _=>exact non h
theorem asVal_eq {s:Slot}{a:PV} (h:asVal s=some a):s=.val a:=by
 cases s <;> cases h;rfl
theorem asTab_eq {s:Slot}{es:List (Str×PV)} (h:asTab s=some es):∃ a,s=.tab a es:=by
 cases s <;> cases h;exact ⟨_,rfl⟩
theorem asTup_eq {s:Slot}{xs:List PV} (h:asTup s=some xs):s=.val (.tup xs):=by
 cases s with
 | val p=>cases p <;> cases h;rfl
 | _=>exact non h
theorem asInt?_eq {o:Option RV}{a:Int} (h:asInt? o=some a):∃ b,o=some ⟨.val (.int a),b⟩:=by
 cases o with
 | none=>exact non h
 | some r =>
  obtain ⟨s,b⟩:=r
  exact ⟨b,by
   cases s with
   | val p=>cases p <;> cases h;rfl
   | _=>exact non h⟩
noncomputable def sup:Expr->Bool
 | .Name .. | .Constant .. | .BinOp .. | .Compare .. | .Subscript .. | .Tuple .. | .IfExp .. | .BoolOp .. | .UnaryOp .. | .Call .. | .List .. | .Dict ..=>true
 | _=>false
noncomputable def noStar:Expr->Bool
 | .Starred ..=>false
 | _=>true
theorem noStar_ok {e:Expr} (h:noStar e=true) (rest:List Expr) (env:Env):starEach (e :: rest) env=(false,eval e env) :: starEach rest env:=by
 cases e <;> first | rfl | cases h
structure Sup (e:Expr):Prop where
 star:∀ rest env,starEach (e :: rest) env=(false,eval e env) :: starEach rest env
 sub:∀ v1 v2,subscripted e false v1 v2=operate [v1,v2] (getItem v1 v2)
 sw:∀ t l env,swapsWith e t l env=pure false
theorem sup_ok {e:Expr} (h:sup e=true):Sup e:=by
 cases e <;> first | exact ⟨fun _ _=>rfl,fun _ _=>by with_unfolding_all rfl,fun _ _ _=>rfl⟩ | cases h
theorem sups_ok {es:List Expr} (h:es.all noStar=true) (env:Env) (pos:Pos):(backTo pos (starEach es env)).any (·.1)=false:=by
 induction es with
 | nil=>rfl
 | cons e r ih =>
  rw [List.all_cons,Bool.and_eq_true] at h
  refine (noStar_ok h.1 ..)▸?_
  exact ih h.2
structure VK where
 f:Fx
 sc:Scope
 d:Option Nat
 X:Prop
 R:RV->Box->Prop
noncomputable def isGlob (sc:Scope) (g:Str):Bool:=match sc.names.lookup g with
 | some .globalImplicit=>true
 | _=>false
noncomputable def isLoc (sc:Scope) (g:Str):Bool:=match sc.names.lookup g with
 | some .local=>true
 | _=>false
theorem isGlob_eq {sc:Scope}{g:Str} (h:isGlob sc g=true):sc.names.lookup g=some .globalImplicit:=by
 unfold isGlob at h
 cases e:sc.names.lookup g with
 | none=>replace h:=e▸h;cases h
 | some k=>replace h:=e▸h;cases k <;> first | rfl | cases h
theorem isLoc_eq {sc:Scope}{g:Str} (h:isLoc sc g=true):sc.names.lookup g=some .local:=by
 unfold isLoc at h
 cases e:sc.names.lookup g with
 | none=>replace h:=e▸h;cases h
 | some k=>replace h:=e▸h;cases k <;> first | rfl | cases h
noncomputable def cpOk (x:Str):Bool:=x.cps.toList.all fun n=>decide (n < 0x110000)
theorem cpOk_eq {x:Str} (h:cpOk x=true):PyData.strOk x=true:=by
 unfold cpOk at h
 rwa [Array.all_toList] at h
noncomputable def plainN (x:Str):Bool:=!(x == ("__debug__":Str)) && !(x == ("__classdict__":Str))
noncomputable def opBin (a b:Int):Operator->Option Int
 | .Add=>some (a+b)
 | .Sub=>some (a - b)
 | _=>none
noncomputable def opInt (a b:Int):CmpOp->Option Bool
 | .Eq=>some (decide (a=b))
 | .NotEq=>some (!decide (a=b))
 | .Lt=>some (decide (a < b))
 | .LtE=>some (decide (a≤b))
 | .Gt=>some (decide (a > b))
 | .GtE=>some (decide (a ≥ b))
 | _=>none
noncomputable def opStr (a b:Str):CmpOp->Option Bool
 | .Eq=>some (decide (a=b))
 | .NotEq=>some (!decide (a=b))
 | .Lt=>some (strLt a b)
 | _=>none
noncomputable def vBin (op:Operator) (r1 r2:RV) (K:RV->Prop):Prop :=
 vOpt (asIntS r2.sl) (fun b=>vOpt (asIntS r1.sl) (fun a=>vOpt (opBin a b op) (fun z=>K (.im (.int z))) (BinQ op r1 r2 K)) (BinQ op r1 r2 K)) (BinQ op r1 r2 K)
noncomputable def vCmp (c:Cx) (op:CmpOp) (r1 r2:RV) (K:Bool->Prop):Prop :=
 vOpt (asIntS r2.sl) (fun b=>vOpt (asIntS r1.sl) (fun a=>vOpt (opInt a b op) K (CmpQ c op r1 r2 K)) (CmpQ c op r1 r2 K))
  (vOpt (asStrS r2.sl) (fun b=>vOpt (asStrS r1.sl) (fun a=>vOpt (opStr a b op) K (CmpQ c op r1 r2 K)) (CmpQ c op r1 r2 K)) (CmpQ c op r1 r2 K))
noncomputable def vSubC (r:RV) (k:Int) (K:RV->Prop):Prop :=
 vG (decide (0≤k) && decide (k < 2 ^ 63)) (vOpt (asSeq r.sl) (fun xs=>vOpt xs[k.toNat]? (fun x=>K (.im x)) (SubQ r (.im (.int k)) K)) (SubQ r (.im (.int k)) K)) (SubQ r (.im (.int k)) K)
noncomputable def vSub (r1 r2:RV) (K:RV->Prop):Prop :=
 vOpt (asTab r1.sl) (fun es=>vOpt (asStrS r2.sl) (fun k=>vOpt (es.lookup k) (fun x=>K (.im x)) (SubQ r1 r2 K)) (SubQ r1 r2 K)) (SubQ r1 r2 K)
noncomputable def okN (r:RV):Bool:=r.new || r.sl.fp.isEmpty
theorem okN_eq {r:RV} (h:okN r=true):r.new=true∨r.sl.fp=[]:=by
 unfold okN at h
 rw [Bool.or_eq_true,List.isEmpty_iff] at h
 exact h
noncomputable def bltTab:List (Str×String):=[("abs","abs"),("len","len"),("max","max"),("min","min")]
noncomputable def isBx (g:Str):Bool:=g == ("_law_take":Str) || g == ("_law_term":Str)
noncomputable def typTab:List (Str×String):=[("list","list"),("tuple","tuple")]
mutual
noncomputable def vEV (k:VK):Nat->Ab->Box->Expr->(RV->Box->Prop)->Prop
 | 0,ρ,σ,e,Q=>EV k.f ρ σ e Q k.X
 | n+1,ρ,σ,e,Q=>match e with
  | .Name x p=>vG (plainN x) (vG (isGlob k.sc x) (vG (x == ("RANKS":Str)) (∀ a,Q ⟨.tab a Mine.ranks,false⟩ σ) (vOpt (cnTab.lookup x) (fun v=>Q (.im v) σ) (EV k.f ρ σ e Q k.X))) (vOpt (ρ x) (fun r=>Q ⟨r.sl,false⟩ σ) (EV k.f ρ σ e Q k.X))) (EV k.f ρ σ e Q k.X)
  | .Constant c u p=>(match c with
   | .int i=>Q (.im (.int i)) σ
   | .str x=>vG (cpOk x) (Q (.im (.str x)) σ) (EV k.f ρ σ e Q k.X)
   | .none=>Q (.im .none) σ
   | .bool b=>Q (.im (.bool b)) σ
   | _=>EV k.f ρ σ e Q k.X)
  | .BinOp l op r p=>vEV k n ρ σ l fun r1 σ1=>vEV k n ρ σ1 r fun r2 σ2=>vBin op r1 r2 fun x=>Q x σ2
  | .Compare l ops rs p=>(match ops,rs with
   | [op],[r]=>vG (behindInMarks op r) (EV k.f ρ σ e Q k.X) (vEV k n ρ σ l fun r1 σ1=>vEV k n ρ σ1 r fun r2 σ2=>vCmp k.f.c op r1 r2 fun b=>Q (.im (.bool b)) σ2)
   | _,_=>EV k.f ρ σ e Q k.X)
  | .Subscript l r p=>(match r with
   | .Constant (.int i) u q=>vEV k n ρ σ l fun r1 σ1=>vSubC r1 i fun x=>Q x σ1
   | .Slice lo hi st q=>vEV k n ρ σ l fun r1 σ1=>vEVo k n ρ σ1 lo fun a σ2=>vEVo k n ρ σ2 hi fun b σ3=>vEVo k n ρ σ3 st fun c σ4=>SliQ r1 a b c fun x=>Q x σ4
   | _=>vG (sup r) (vEV k n ρ σ l fun r1 σ1=>vEV k n ρ σ1 r fun r2 σ2=>vSub r1 r2 fun x=>Q x σ2) (EV k.f ρ σ e Q k.X))
  | .Tuple es u p=>vEL k n ρ σ es fun rs σ'=>vOpt (allIm rs) (fun xs=>vG (Nat.ble xs.length 1000000) (Q (.im (.tup xs)) σ') False) False
  | .List es p=>vEL k n ρ σ es fun rs σ'=>vOpt (allIm rs) (fun xs=>vG (Nat.ble xs.length 1000000) (∀ a,Q ⟨.lst a xs,true⟩ σ') False) False
  | .Dict ks vs p=>(match ks,vs with
   | [],[]=>∀ a,Q ⟨.dct a [],true⟩ σ
   | _,_=>EV k.f ρ σ e Q k.X)
  | .IfExp t a b p=>vET k n ρ σ t fun c σ'=>vIf c (vEV k n ρ σ' a Q) (vEV k n ρ σ' b Q)
  | .UnaryOp op x p=>(match op with
   | .USub=>vEV k n ρ σ x fun r σ'=>vOpt (asIntS r.sl) (fun a=>Q (.im (.int (-a))) σ') False
   | .Not=>vEV k n ρ σ x fun r σ'=>vOpt (asBoolS r.sl) (fun b=>Q (.im (.bool (!b))) σ') False
   | _=>EV k.f ρ σ e Q k.X)
  | .BoolOp op es p=>vEB k n ρ σ p op es Q
  | .Call fn es kw p=>(match fn,es,kw with
   | .Name g _,x :: xs,[]=>vG (plainN g && isGlob k.sc g && (x :: xs).all noStar) (vOpt (fnTab.lookup g) (fun _=>vOpt k.d (fun d=>vG (isBx g) (∃ B L,k.f.Z=[B,L]∧k.f.zok=BoxOk B L∧vEL k n ρ σ es fun rs σ'=>BFn k.f.c d B L g (rs.map (·.sl)) σ' Q) (vEL k n ρ σ es fun rs σ'=>Fn k.f.c d g (rs.map (·.sl)) (fun r=>Q r σ') k.X)) (EV k.f ρ σ e Q k.X))
     (vOpt (bltTab.lookup g) (fun id=>vEL k n ρ σ es fun rs σ'=>BltQ id rs fun r=>Q r σ') (vOpt (typTab.lookup g) (fun id=>vEL k n ρ σ es fun rs σ'=>TypQ id rs fun r=>Q r σ') (EV k.f ρ σ e Q k.X)))) (EV k.f ρ σ e Q k.X)
   | _,_,_=>EV k.f ρ σ e Q k.X)
  | _=>EV k.f ρ σ e Q k.X
noncomputable def vEVo (k:VK):Nat->Ab->Box->Option Expr->(Option Int->Box->Prop)->Prop
 | 0,ρ,σ,e,Q=>EVo k.f ρ σ e Q k.X
 | n+1,ρ,σ,e,Q=>match e with
  | none=>Q none σ
  | some e=>vEV k n ρ σ e fun r σ'=>vOpt (asIntS r.sl) (fun i=>Q (some i) σ') False
noncomputable def vEL (k:VK):Nat->Ab->Box->List Expr->(List RV->Box->Prop)->Prop
 | 0,ρ,σ,es,Q=>EL k.f ρ σ es Q k.X
 | n+1,ρ,σ,es,Q=>match es with
  | []=>Q [] σ
  | e :: r=>vG (noStar e) (vEV k n ρ σ e fun a σ1=>vEL k n ρ σ1 r fun rs σ2=>Q (a :: rs) σ2) (EL k.f ρ σ es Q k.X)
noncomputable def vET (k:VK):Nat->Ab->Box->Expr->(Bool->Box->Prop)->Prop
 | 0,ρ,σ,e,Q=>ET k.f ρ σ e Q k.X
 | n+1,ρ,σ,e,Q=>match e with
  | .Compare l ops rs p=>(match ops,rs with
   | [op],[r]=>vG (behindInMarks op r) (ET k.f ρ σ e Q k.X) (vEV k n ρ σ l fun r1 σ1=>vEV k n ρ σ1 r fun r2 σ2=>vCmp k.f.c op r1 r2 fun b=>Q b σ2)
   | _,_=>ET k.f ρ σ e Q k.X)
  | .UnaryOp op x p=>(match op with
   | .Not=>vET k n ρ σ x fun b σ'=>Q (!b) σ'
   | _=>ET k.f ρ σ e Q k.X)
  | .BoolOp op es p=>vEA k n ρ σ op es Q
  | .Name .. | .Call ..=>vEV k n ρ σ e fun r σ'=>vOpt (asBoolS r.sl) (fun b=>Q b σ') False
  | _=>ET k.f ρ σ e Q k.X
noncomputable def vEA (k:VK):Nat->Ab->Box->BoolOp->List Expr->(Bool->Box->Prop)->Prop
 | 0,ρ,σ,op,es,Q=>EA k.f ρ σ op es Q k.X
 | n+1,ρ,σ,op,es,Q=>match op,es with
  | .And,[]=>Q true σ
  | .Or,[]=>Q false σ
  | .And,x :: r=>vET k n ρ σ x fun b σ'=>vIf b (vEA k n ρ σ' .And r Q) (Q false σ')
  | .Or,x :: r=>vET k n ρ σ x fun b σ'=>vIf b (Q true σ') (vEA k n ρ σ' .Or r Q)
noncomputable def vEB (k:VK):Nat->Ab->Box->Pos->BoolOp->List Expr->(RV->Box->Prop)->Prop
 | 0,ρ,σ,p,op,es,Q=>EB k.f ρ σ p op es Q k.X
 | n+1,ρ,σ,p,op,es,Q=>match es with
  | []=>EB k.f ρ σ p op es Q k.X
  | [e]=>vEV k n ρ σ e Q
  | e :: e' :: r=>(match op with
   | .And=>vEV k n ρ σ e fun r1 σ'=>vOpt (asBoolS r1.sl) (fun b=>vIf b (vEB k n ρ σ' p .And (e' :: r) Q) (Q (.im (.bool false)) σ')) False
   | .Or=>vEV k n ρ σ e fun r1 σ'=>vOpt (asBoolS r1.sl) (fun b=>vIf b (Q (.im (.bool true)) σ') (vEB k n ρ σ' p .Or (e' :: r) Q)) False)
end
section
variable {f:Fx}{sc:Scope}{D:Nat}{X:Prop}
theorem vBin_ok {op:Operator}{r1 r2:RV}{K:RV->Prop} (h:vBin op r1 r2 K):BinQ op r1 r2 K :=
 vOpt_use h (fun b hb h=>vOpt_use h (fun a ha h=>vOpt_use h (fun z hz g=>by
  obtain ⟨s1,n1⟩:=r1
  obtain ⟨s2,n2⟩:=r2
  cases asIntS_eq ha
  cases asIntS_eq hb
  cases op with
  | Add=>exact b_add (Option.some.inj hz▸g)
  | Sub=>exact b_sub (Option.some.inj hz▸g)
  | _=>exact non hz) id) id) id
theorem vCmp_ok {c:Cx}{op:CmpOp}{r1 r2:RV}{K:Bool->Prop} (h:vCmp c op r1 r2 K):CmpQ c op r1 r2 K :=
 vOpt_use h (fun b hb h=>vOpt_use h (fun a ha h=>vOpt_use h (fun z hz g=>by
  obtain ⟨s1,n1⟩:=r1
  obtain ⟨s2,n2⟩:=r2
  cases asIntS_eq ha
  cases asIntS_eq hb
  cases op with
  | Eq=>exact q_eq (Option.some.inj hz▸g)
  | NotEq=>exact q_ne (Option.some.inj hz▸g)
  | Lt=>exact q_lt (Option.some.inj hz▸g)
  | LtE=>exact q_le (Option.some.inj hz▸g)
  | Gt=>exact q_gt (Option.some.inj hz▸g)
  | GtE=>exact q_ge (Option.some.inj hz▸g)
  | _=>exact non hz) id) id)
 fun h=>vOpt_use h (fun b hb h=>vOpt_use h (fun a ha h=>vOpt_use h (fun z hz g=>by
  obtain ⟨s1,n1⟩:=r1
  obtain ⟨s2,n2⟩:=r2
  cases asStrS_eq ha
  cases asStrS_eq hb
  cases op with
  | Eq=>exact q_seq (Option.some.inj hz▸g)
  | NotEq=>exact q_sne (Option.some.inj hz▸g)
  | Lt=>exact q_slt (Option.some.inj hz▸g)
  | _=>exact non hz) id) id) id
theorem vSubC_ok {r:RV}{i:Int}{K:RV->Prop} (h:vSubC r i K):SubQ r (.im (.int i)) K :=
 vG_use h (fun hb h=>vOpt_use h (fun xs hs h=>vOpt_use h (fun x hx g=>by
  rw [Bool.and_eq_true,decide_eq_true_eq,decide_eq_true_eq] at hb
  obtain ⟨s,n⟩:=r
  cases s with
  | val p=>cases p <;> cases hs;exact s_tup hx g hb.1 hb.2
  | lst a ys=>cases Option.some.inj hs;exact s_lst hx g hb.1 hb.2
  | _=>exact non hs) fun h=>h) fun h=>h) fun _ h=>h
theorem vSub_ok {r1 r2:RV}{K:RV->Prop} (h:vSub r1 r2 K):SubQ r1 r2 K :=
 vOpt_use h (fun es hs h=>vOpt_use h (fun x hx h=>vOpt_use h (fun y hy g=>by
  obtain ⟨s1,n1⟩:=r1
  obtain ⟨s2,n2⟩:=r2
  obtain ⟨a,e⟩:=asTab_eq hs
  subst e
  cases asStrS_eq hx
  exact s_tab hy g) fun h=>h) fun h=>h) fun h=>h
theorem plainN_eq {x:Str} (h:plainN x=true):(x == ("__debug__":Str))=false∧(x == ("__classdict__":Str))=false:=by
 unfold plainN at h
 rwa [Bool.and_eq_true,Bool.not_eq_true',Bool.not_eq_true'] at h
theorem lookup_mem {α:Type}{x:Str}{p:α}:∀ {xs:List (Str×α)},xs.lookup x=some p->(x,p)∈xs
 | (y,q) :: r,h=>by
  rw [List.lookup_cons] at h
  cases e:x == y
  ·replace h:=e▸h;exact .tail _ (lookup_mem h)
  ·replace h:=e▸h;cases Option.some.inj h;cases eq_of_beq e;exact .head _
structure VSnd (k:VK) (n:Nat):Prop where
 eo:∀ {ρ σ e}{Q Q':Option Int->Box->Prop},(∀ r σ',Q r σ'->Q' r σ')->vEVo k n ρ σ e Q->EVo k.f ρ σ e Q' k.X
 eb:∀ {ρ σ p op es}{Q Q':RV->Box->Prop},(∀ r σ',Q r σ'->Q' r σ')->vEB k n ρ σ p op es Q->EB k.f ρ σ p op es Q' k.X
 ev:∀ {ρ σ e}{Q Q':RV->Box->Prop},(∀ r σ',Q r σ'->Q' r σ')->vEV k n ρ σ e Q->EV k.f ρ σ e Q' k.X
 el:∀ {ρ σ es}{Q Q':List RV->Box->Prop},(∀ r σ',Q r σ'->Q' r σ')->vEL k n ρ σ es Q->EL k.f ρ σ es Q' k.X
 et:∀ {ρ σ e}{Q Q':Bool->Box->Prop},(∀ r σ',Q r σ'->Q' r σ')->vET k n ρ σ e Q->ET k.f ρ σ e Q' k.X
 ea:∀ {ρ σ op es}{Q Q':Bool->Box->Prop},(∀ r σ',Q r σ'->Q' r σ')->vEA k n ρ σ op es Q->EA k.f ρ σ op es Q' k.X
theorem EB.mono {ρ:Ab}{σ:Box}{p:Pos}{op:BoolOp}{e:List Expr}{Q Q':RV->Box->Prop} (h:EB f ρ σ p op e Q X) (k:∀ r σ',Q r σ'->Q' r σ'):EB f ρ σ p op e Q' X:=fun s I=>wpAny_mono (h s I) (fun v s' hq_=>by obtain ⟨r,σ',a,b,c,d,q⟩:=hq_;exact ⟨r,σ',a,b,c,d,k _ _ q⟩) fun _ _ x=>x
theorem evals_map:∀ (es:List Expr) (env:Env),evalEach es env=es.map fun e=>eval e env
 | [],_=>rfl
 | e :: r,env=>congrArg (eval e env :: ·) (evals_map r env)
theorem EVo.mono {ρ:Ab}{σ:Box}{e:Option Expr}{Q Q':Option Int->Box->Prop} (h:EVo f ρ σ e Q X) (k:∀ r σ',Q r σ'->Q' r σ'):EVo f ρ σ e Q' X:=by
 cases e with
 | none=>exact k _ _ h
 | some e=>exact EV.mono h (fun r σ' hq_=>by obtain ⟨i,e,q⟩:=hq_;exact ⟨i,e,k _ _ q⟩) id
theorem ET.mono {ρ:Ab}{σ:Box}{e:Expr}{Q Q':Bool->Box->Prop} (h:ET f ρ σ e Q X) (k:∀ r σ',Q r σ'->Q' r σ'):ET f ρ σ e Q' X:=fun s I=>wpAny_mono (h s I) (fun b s' hq_=>by obtain ⟨σ',a,b,q⟩:=hq_;exact ⟨σ',a,b,k _ _ q⟩) fun _ _ x=>x
theorem EA.mono {ρ:Ab}{σ:Box}{op:BoolOp}{e:List Expr}{Q Q':Bool->Box->Prop} (h:EA f ρ σ op e Q X) (k:∀ r σ',Q r σ'->Q' r σ'):EA f ρ σ op e Q' X:=fun s I=>wpAny_mono (h s I) (fun b s' hq_=>by obtain ⟨σ',a,b,q⟩:=hq_;exact ⟨σ',a,b,k _ _ q⟩) fun _ _ x=>x
theorem blt_of {g:Str}{id:String} (h:bltTab.lookup g=some id):g∈bltNames∧bootBuiltins g=some (.builtin id):=by
 have:∀ x∈bltTab,x.1∈bltNames∧bootBuiltins x.1=some (.builtin x.2):=by decide +kernel
 exact this _ (lookup_mem h)
theorem typ_of {g:Str}{id:String} (h:typTab.lookup g=some id):g∈bltNames∧bootBuiltins g=some (.type id):=by
 have:∀ x∈typTab,x.1∈bltNames∧bootBuiltins x.1=some (.type x.2):=by decide +kernel
 exact this _ (lookup_mem h)
theorem vOk {k:VK} (F:k.f.Ok k.sc D) (P:Pg k.f.c) (hd:∀ d,k.d=some d->D=d+1):∀ n,VSnd k n:=by
 intro n
 induction n with
 | zero=>exact ⟨fun q h=>EVo.mono h q,fun q h=>EB.mono h q,fun q h=>EV.mono h q id,fun q h=>EL.mono h q id,fun q h=>ET.mono h q,fun q h=>EA.mono h q⟩
 | succ n ih =>
  refine ⟨fun {ρ σ e Q Q'} q h=>EVo.mono (Q:=Q) ?_ q,fun {ρ σ p op es Q Q'} q h=>EB.mono (Q:=Q) ?_ q,fun {ρ σ e Q Q'} q h=>EV.mono (Q:=Q) ?_ q id,fun {ρ σ es Q Q'} q h=>EL.mono (Q:=Q) ?_ q id,fun {ρ σ e Q Q'} q h=>ET.mono (Q:=Q) ?_ q,fun {ρ σ op es Q Q'} q h=>EA.mono (Q:=Q) ?_ q⟩
  ·cases e with
   | none=>exact EVo_none h
   | some e=>exact EVo_some (ih.ev (fun r σ1 h=>vOpt_use h (fun i hi h=>⟨i,asIntS_eq hi,h⟩) False.elim) h)
  ·cases es with
   | nil=>exact h
   | cons e r=>cases r with
    | nil=>exact EB_last (ih.ev (fun _ _ h=>h) h)
    | cons e' r=>cases op with
     | And=>exact EB_and F (ih.ev (fun r1 σ1 h=>vOpt_use h (fun b hb h=>⟨b,asBoolS_eq hb,fun e=>ih.eb (fun _ _ h=>h) (by subst e;exact h),fun e=>by subst e;exact h⟩) False.elim) h)
     | Or=>exact EB_or F (ih.ev (fun r1 σ1 h=>vOpt_use h (fun b hb h=>⟨b,asBoolS_eq hb,fun e=>by subst e;exact h,fun e=>ih.eb (fun _ _ h=>h) (by subst e;exact h)⟩) False.elim) h)
  ·clear q
   have two:∀ {l r:Expr}{J:RV->RV->Box->Prop}{J':RV->RV->Box->Prop},(∀ r1 r2 σ2,J r1 r2 σ2->J' r1 r2 σ2)->(vEV k n ρ σ l fun r1 σ1=>vEV k n ρ σ1 r fun r2 σ2=>J r1 r2 σ2)->EV k.f ρ σ l (fun r1 σ1=>EV k.f ρ σ1 r (fun r2 σ2=>J' r1 r2 σ2) k.X) k.X:=fun j h=>ih.ev (fun r1 σ1 h=>ih.ev (fun r2 σ2 h=>j _ _ _ h) h) h
   cases e with
   | Name x p =>
    refine vG_use h (fun hp h=>?_) fun _ h=>h
    have hp:=plainN_eq hp
    refine vG_use h (fun hg h=>vG_use h (fun hx h=>?_) fun _ h=>vOpt_use h (fun v hv h=>EV_Const F (isGlob_eq hg) (P.const _ (lookup_mem hv)) h hp.1) id) fun _ h=>vOpt_use h (fun r hr h=>EV_Name F hr h hp.1 hp.2) id
    cases eq_of_beq hx
    exact EV_Ranks F P (isGlob_eq hg) h
   | Constant c u p =>
    cases c with
    | int i=>exact EV_int F h
    | str x=>exact vG_use h (fun hx h=>EV_str F h (cpOk_eq hx)) fun _ h=>h
    | none=>exact EV_none F h
    | bool b=>exact EV_bool F h
    | _=>exact h
   | BinOp l op r p=>exact EV_Bin F (two (fun _ _ _=>vBin_ok) h)
   | Compare l ops rs p =>
    cases ops with
    | nil=>exact h
    | cons op ops=>cases ops with
     | cons _ _=>exact h
     | nil=>cases rs with
      | nil=>exact h
      | cons r rs=>cases rs with
       | cons _ _=>exact h
       | nil=>exact vG_use h (fun _ h=>h) fun hb h=>EV_Cmp F (two (fun _ _ _=>vCmp_ok) h) hb
   | Subscript l r p =>
    have gen:(vG (sup r) (vEV k n ρ σ l fun r1 σ1=>vEV k n ρ σ1 r fun r2 σ2=>vSub r1 r2 fun x=>Q x σ2) (EV k.f ρ σ (.Subscript l r p) Q k.X))->EV k.f ρ σ (.Subscript l r p) Q k.X:=fun h=>vG_use h (fun hs h=>EV_Sub F (two (fun _ _ _=>vSub_ok) h) (sup_ok hs).sub) fun _ h=>h
    cases r with
    | Constant c u q=>cases c with
     | int i=>exact EV_Sub F (ih.ev (fun r1 σ1 h=>EV_int F (vSubC_ok h)) h) (sup_ok rfl).sub
     | _=>exact gen h
    | Slice lo hi st q=>exact EV_Slice F (ih.ev (fun r1 σ1 h=>ih.eo (fun a σ2 h=>ih.eo (fun b σ3 h=>ih.eo (fun c σ4 h=>h) h) h) h) h) fun v i=>by cases st <;> exact ⟨_,rfl⟩
    | _=>exact gen h
   | Tuple es u p=>exact EV_Tuple F (ih.el (fun rs σ' h=>vOpt_use h (fun xs hx h=>vG_use h (fun hl h=>⟨xs,hx,Nat.le_of_ble_eq_true hl,h⟩) fun _=>False.elim) False.elim) h)
   | List es p=>exact EV_List F (ih.el (fun rs σ' h=>vOpt_use h (fun xs hx h=>vG_use h (fun hl h=>⟨xs,hx,Nat.le_of_ble_eq_true hl,h⟩) fun _=>False.elim) False.elim) h)
   | Dict ks vs p=>cases ks with
    | nil=>cases vs with
     | nil=>exact EV_Dict F h
     | cons _ _=>exact h
    | cons _ _=>exact h
   | BoolOp op es p=>exact EV_BoolOp (ih.eb (fun _ _ h=>h) h) (congrArg (boolOp p op) (evals_map es k.f.env))
   | IfExp t a b p=>exact EV_IfExp F (ih.et (fun b σ1 h=>⟨fun e=>ih.ev (fun _ _=>id) (by subst e;exact h),fun e=>ih.ev (fun _ _=>id) (by subst e;exact h)⟩) h)
   | UnaryOp op x p=>cases op with
    | USub=>exact EV_Neg F (ih.ev (fun r σ' h=>vOpt_use h (fun a ha h=>⟨a,asIntS_eq ha,h⟩) False.elim) h)
    | Not=>exact EV_Not F (ih.ev (fun r σ' h=>vOpt_use h (fun a ha h=>⟨a,asBoolS_eq ha,h⟩) False.elim) h)
    | _=>exact h
   | Call fn es kw p =>
    cases fn with
    | Name g q=>cases es with
     | nil=>exact h
     | cons x xs=>cases kw with
      | cons _ _=>exact h
      | nil =>
       refine vG_use h (fun hp h=>?_) fun _ h=>h
       rw [Bool.and_eq_true,Bool.and_eq_true] at hp
       obtain ⟨⟨hp,hg⟩,hs⟩:=hp
       have hp:=(plainN_eq hp).1
       have hg:=isGlob_eq hg
       have hst:=noStar_ok (Bool.and_eq_true _ _▸hs).1 xs k.f.env
       have hss:=sups_ok (Bool.and_eq_true _ _▸hs).2 k.f.env p
       refine vOpt_use h (fun i hi h=>vOpt_use h (fun d hk h=>?_) id) fun h=>vOpt_use h (fun id' hi h=>?_) fun h=>vOpt_use h (fun id' hi h=>?_) id
       ·cases hd d hk
        exact vG_use h (fun _ hq_=>by obtain ⟨B,L,hZ,hz,h⟩:=hq_;exact EV_CallB F hZ hz hg (P.isFn i (lookup_mem hi)) (ih.el (fun rs σ' h=>h) h) hst hp) fun _ h=>EV_Call F hg (P.isFn i (lookup_mem hi)) (ih.el (fun rs σ' h=>h) h) hst hp
       ·exact EV_Blt F hg (blt_of hi).1 (blt_of hi).2 (ih.el (fun rs σ' h=>h) h) hst hss hp
       ·exact EV_Typ F hg (typ_of hi).1 (typ_of hi).2 (ih.el (fun rs σ' h=>h) h) hst hss hp
    | _=>exact h
   | _=>exact h
  ·cases es with
   | nil=>exact EL_nil F h
   | cons e r=>exact vG_use h (fun hs h=>EL_cons F (ih.ev (fun r1 σ1 h=>ih.el (fun _ _ h=>h) h) h) (noStar_ok hs r _)) fun _ h=>h
  ·have val:∀ {e},(he:PySem.isTrue e k.f.env (eval e k.f.env)=do
    let v ← eval e k.f.env
    standAt e.pos
    holding [v] (truthy v))->(vEV k n ρ σ e fun r σ'=>vOpt (asBoolS r.sl) (fun b=>Q b σ') False)->ET k.f ρ σ e Q k.X:=fun he h=>ET_val F (he:=he) (ih.ev (fun r σ' h=>vOpt_use h (fun b hb h=>⟨b,asBoolS_eq hb,h⟩) False.elim) h)
   cases e with
   | Compare l ops rs p =>
    cases ops with
    | nil=>exact h
    | cons op ops=>cases ops with
     | cons _ _=>exact h
     | nil=>cases rs with
      | nil=>exact h
      | cons r rs=>cases rs with
       | cons _ _=>exact h
       | nil=>exact vG_use h (fun _ h=>h) fun hb h=>ET_Cmp F (ih.ev (fun r1 σ1 h=>ih.ev (fun r2 σ2 h=>vCmp_ok h) h) h) hb
   | UnaryOp op x p=>cases op with
    | Not=>exact ET_Not F (ih.et (fun _ _ h=>h) h)
    | _=>exact h
   | BoolOp op es p=>exact ET_BoolOp (ih.ea (fun _ _ h=>h) h)
   | Name x p=>exact val rfl h
   | Call x p u v=>exact val rfl h
   | _=>exact h
  ·cases op with
   | And=>cases es with
    | nil=>exact EA_and_nil h
    | cons x r=>exact EA_and F (ih.et (fun b σ1 h=>⟨fun e=>ih.ea (fun _ _=>id) (by subst e;exact h),fun e=>by subst e;exact h⟩) h)
   | Or=>cases es with
    | nil=>exact EA_or_nil h
    | cons x r=>exact EA_or F (ih.et (fun b σ1 h=>⟨fun e=>by subst e;exact h,fun e=>ih.ea (fun _ _=>id) (by subst e;exact h)⟩) h)
end
end
section
theorem vOpt_use' {α:Type}{o:Option α}{A:α->Prop}{B G:Prop} (h:vOpt o A B) (k:∀ x,o=some x->A x->G) (l:o=none->B->G):G:=by
 cases o with
 | none=>exact l rfl h
 | some x=>exact k x rfl h
noncomputable def asNm:Expr->Option Str
 | .Name x _=>some x
 | _=>none
theorem asNm_eq {e:Expr}{x:Str} (h:asNm e=some x):∃ p,e=.Name x p:=by
 cases e with
 | Name y p=>exact ⟨p,Option.some.inj h▸rfl⟩
 | _=>exact non h
noncomputable def asTupE:Expr->Option (List Expr)
 | .Tuple es _ _=>some es
 | _=>none
theorem asTupE_eq {e:Expr}{es:List Expr} (h:asTupE e=some es):∃ k p,e=.Tuple es k p:=by
 cases e with
 | Tuple y k p=>exact ⟨k,p,Option.some.inj h▸rfl⟩
 | _=>exact non h
theorem notTup_sw {ts:List Expr}{u:Nat}{v:Pos}{e:Expr} (h:asTupE e=none) (env:Env):swappedStores [.Tuple ts u v] e env=pure none:=by
 cases e <;> first | rfl | cases h
noncomputable def tnames:List Expr->Option (List Str)
 | []=>some []
 | e :: r=>match asNm e,tnames r with
  | some x,some xs=>some (x :: xs)
  | _,_=>none
theorem tnames_ok:∀ {ts:List Expr}{ns:List Str},tnames ts=some ns->Nms ts ns
 | [],_,h=>by cases Option.some.inj h;exact .nil
 | e :: r,ns,h=>by
  unfold tnames at h
  cases h1:asNm e with
  | none=>rw [h1] at h;exact non h
  | some x=>cases h2:tnames r with
   | none=>rw [h1,h2] at h;exact non h
   | some xs =>
    rw [h1,h2] at h
    cases Option.some.inj h
    obtain ⟨p,rfl⟩:=asNm_eq h1
    exact .cons (tnames_ok h2)
noncomputable def foldOk (vs:List Expr):Bool:=vs.all (foldedForSure 8) || !vs.all (constantsAlone 8)
theorem foldOk_eq {vs:List Expr} (h:foldOk vs=true):vs.all (foldedForSure 8)=true∨vs.all (constantsAlone 8)=false:=by
 unfold foldOk at h
 rwa [Bool.or_eq_true,Bool.not_eq_true'] at h
noncomputable def nodupS:List Str->Bool
 | []=>true
 | x :: xs=>!xs.contains x && nodupS xs
theorem nodupS_eq:∀ {xs:List Str},nodupS xs=true->xs.Nodup
 | [],_=>.nil
 | x :: xs,h=>by
  rw [nodupS,Bool.and_eq_true,Bool.not_eq_true'] at h
  exact List.nodup_cons.mpr ⟨fun m=>Bool.false_ne_true (h.1.symm.trans (List.elem_eq_true_of_mem m)),nodupS_eq h.2⟩
noncomputable def vAsg (k:VK) (n:Nat) (ρ:Ab) (σ:Box) (t e:Expr) (N:Ab->Box->Prop) (L:Prop):Prop :=
 vG (sup e) (vOpt (asNm t) (fun x=>vG (isLoc k.sc x) (vEV k n ρ σ e fun r σ'=>vG (okN r) (N (set ρ x r) σ') False) (k.f.own=true∧k.sc.names.lookup x=some .cell∧(∃ a,k.f.env.cells.lookup x=some a)∧vEV k n ρ σ e fun r σ'=>vG (okN r) (N (set ρ x r) σ') False))
  (vOpt (asTupE t) (fun ts=>vOpt (tnames ts) (fun ns=>vG (ns.all (isLoc k.sc)) (vOpt (asTupE e) (fun vs=>vG (foldOk vs && (nodupS ns && Nat.ble ns.length 1000)) (vEL k n ρ σ vs fun rs σ'=>vG (Nat.beq rs.length ns.length && rs.all okN) (N (setAll ρ ns rs) σ') False) L)
   (vEV k n ρ σ e fun r σ'=>vOpt (asTup r.sl) (fun ys=>vG (Nat.beq ns.length ys.length) (N (setAll ρ ns (ys.map RV.im)) σ') False) False)) L) L) L)) L
noncomputable def vOpt' (o:Option Str) (g:Str->Bool):Bool:=match o with
 | some x=>g x
 | none=>false
noncomputable def vRet (k:VK) (n:Nat) (ρ:Ab) (σ:Box) (e:Expr) (L:Prop):Prop :=
 vG (vOpt' (asNm e) fun x=>plainN x && !isGlob k.sc x) (vOpt (asNm e) (fun x=>vOpt (ρ x) (fun r=>vG (okN r) (k.R ⟨r.sl,true⟩ σ) L) L) L) (vEV k n ρ σ e fun r σ'=>vG (okN r) (k.R ⟨r.sl,true⟩ σ') False)
noncomputable def vAug (k:VK) (n:Nat) (ρ:Ab) (σ:Box) (t e:Expr) (N:Ab->Box->Prop) (L:Prop):Prop :=
 vOpt (asNm t) (fun x=>vG (plainN x && isLoc k.sc x) (vOpt (asInt? (ρ x)) (fun a=>vEV k n ρ σ e fun r σ'=>vOpt (asIntS r.sl) (fun b=>N (set ρ x (.im (.int (a+b)))) σ') False) L) L) L
section
variable {k:VK}{n D:Nat}{ρ:Ab}{σ:Box}{N:Ab->Box->Prop}{L:Prop}
theorem vAsg_ok (F:k.f.Ok k.sc D) (V:VSnd k n) {t e:Expr}{p:Pos} (hL:L->XS k.f ρ σ (.Assign [t] e p) N k.R k.X) (h:vAsg k n ρ σ t e N L):XS k.f ρ σ (.Assign [t] e p) N k.R k.X:=by
 refine vG_use h (fun hs h=>?_) fun _=>hL
 have S:=sup_ok hs
 clear hs
 refine vOpt_use h (fun x hx h=>?_) fun h=>vOpt_use h (fun ts ht h=>vOpt_use h (fun ns hn g=>?_) hL) hL
 ·obtain ⟨q,rfl⟩:=asNm_eq hx
  have go:Stores k.f k.sc x->(vEV k n ρ σ e fun r σ'=>vG (okN r) (N (set ρ x r) σ') False)->XS k.f ρ σ (.Assign [.Name x q] e p) N k.R k.X:=fun st h=>XS_Assign F st (V.ev (fun r σ' h=>vG_use h (fun hn h=>⟨okN_eq hn,h⟩) fun _=>False.elim) h) (S.sw _ _ _)
  exact vG_use h (fun hl h=>go (.inl (isLoc_eq hl)) h) fun _ h=>go (.inr ⟨h.1,h.2.1,h.2.2.1⟩) h.2.2.2
 ·obtain ⟨u,q,rfl⟩:=asTupE_eq ht
  have hn:=tnames_ok hn
  refine vG_use g (fun hl g=>?_) fun _=>hL
  have hl:∀ x∈ns,Stores k.f k.sc x:=fun x hx=>.inl (isLoc_eq (List.all_eq_true.mp hl x hx))
  refine vOpt_use' g (fun vs hv g=>vG_use g (fun hf g'=>?_) fun _=>hL) fun hv g=>?_
  ·rw [Bool.and_eq_true,Bool.and_eq_true] at hf
   obtain ⟨u,q,rfl⟩:=asTupE_eq hv
   exact XS_Tup F hn hl (nodupS_eq hf.2.1) (Nat.le_of_ble_eq_true hf.2.2) (foldOk_eq hf.1) (V.el (fun rs σ' h=>vG_use h (fun ho h=>by
    rw [Bool.and_eq_true] at ho
    exact ⟨Nat.eq_of_beq_eq_true ho.1,fun r hr=>okN_eq (List.all_eq_true.mp ho.2 r hr),h⟩) fun _=>False.elim) g')
  ·exact XS_Unp F hn hl (V.ev (fun r σ' h=>vOpt_use h (fun ys hy h=>vG_use h (fun hl h=>⟨ys,asTup_eq hy,Nat.eq_of_beq_eq_true hl,h⟩) fun _=>False.elim) False.elim) g) (notTup_sw hv _) (S.sw (some (.Tuple ts u q)) p.line k.f.env)
theorem vRet_ok (F:k.f.Ok k.sc D) (V:VSnd k n) {e:Expr}{p:Pos} (hL:L->XS k.f ρ σ (.Return (some e) p) N k.R k.X) (h:vRet k n ρ σ e L):XS k.f ρ σ (.Return (some e) p) N k.R k.X:=by
 have gen:(vEV k n ρ σ e fun r σ'=>vG (okN r) (k.R ⟨r.sl,true⟩ σ') False)->XS k.f ρ σ (.Return (some e) p) N k.R k.X:=fun h=>XS_Return F (V.ev (fun r σ' h=>vG_use h (fun hn h=>⟨(okN_eq hn).imp_right .inl,h⟩) fun _=>False.elim) h)
 refine vG_use h (fun hp h=>vOpt_use h (fun x hx h=>vOpt_use h (fun r hr h=>vG_use h (fun hn h=>?_) fun _=>hL) hL) hL) fun _=>gen
 replace hp:=hx▸hp
 have hp:=plainN_eq (Bool.and_eq_true _ _▸hp).1
 obtain ⟨q,rfl⟩:=asNm_eq hx
 obtain ⟨sl,nw⟩:=r
 cases nw with
 | true=>exact XS_ReturnName F hr h hp.1 hp.2
 | false=>exact XS_Return F (EV_Name F hr ⟨.inr (.inl ((okN_eq hn).resolve_left Bool.false_ne_true)),h⟩ hp.1 hp.2)
theorem vAug_ok (F:k.f.Ok k.sc D) (V:VSnd k n) {t e:Expr}{p:Pos} (hL:L->XS k.f ρ σ (.AugAssign t .Add e p) N k.R k.X) (h:vAug k n ρ σ t e N L):XS k.f ρ σ (.AugAssign t .Add e p) N k.R k.X:=by
 refine vOpt_use h (fun q hq h=>vG_use h (fun hp h=>vOpt_use h (fun a ha g=>?_) hL) fun _=>hL) hL
 rw [Bool.and_eq_true] at hp
 have hx:=plainN_eq hp.1
 obtain ⟨q,rfl⟩:=asNm_eq hq
 obtain ⟨nw,hρ⟩:=asInt?_eq ha
 exact XS_Aug F (.inl (isLoc_eq hp.2)) hρ (V.ev (fun r σ' h=>vOpt_use h (fun b hb h=>⟨b,asIntS_eq hb,h⟩) False.elim) g) hx.1 hx.2
end
noncomputable def hdS:List Stmt->Stmt
 | st :: _=>st
 | []=>.Pass ⟨0,0,0,0⟩
noncomputable def tlS:List Stmt->List Stmt
 | _ :: r=>r
 | []=>[]
noncomputable def nilS:List Stmt->Bool
 | _ :: _=>false
 | []=>true
noncomputable def partsS:Stmt->List Stmt×List Stmt
 | .If _ a b _=>(a,b)
 | .While _ b _ _=>(b,[])
 | .For _ _ b _ _=>(b,[])
 | _=>([],[])
noncomputable def ifA (st:Stmt):List Stmt:=(partsS st).1
noncomputable def whB (st:Stmt):List Stmt:=(partsS st).1
noncomputable def forB (st:Stmt):List Stmt:=(partsS st).1
noncomputable def ifB (st:Stmt):List Stmt:=(partsS st).2
mutual
noncomputable def vXS (k:VK):Nat->Ab->Box->Stmt->(Ab->Box->Prop)->Prop
 | 0,ρ,σ,st,N=>XS k.f ρ σ st N k.R k.X
 | n+1,ρ,σ,st,N=>match st with
  | .If t _ _ _=>vET k n ρ σ t fun c σ'=>vIf c (vXL k n ρ σ' (ifA st) N) (vXL k n ρ σ' (ifB st) N)
  | .Return (some e) _=>vRet k n ρ σ e (XS k.f ρ σ st N k.R k.X)
  | .Assign [t] e _=>vAsg k n ρ σ t e N (XS k.f ρ σ st N k.R k.X)
  | .AugAssign t .Add e _=>vAug k n ρ σ t e N (XS k.f ρ σ st N k.R k.X)
  | .Pass _=>N ρ σ
  | _=>XS k.f ρ σ st N k.R k.X
noncomputable def vXL (k:VK):Nat->Ab->Box->List Stmt->(Ab->Box->Prop)->Prop
 | 0,ρ,σ,sts,N=>XL k.f ρ σ sts N k.R k.X
 | n+1,ρ,σ,sts,N=>vG (nilS sts) (N ρ σ) (vXS k n ρ σ (hdS sts) fun ρ' σ'=>vXL k n ρ' σ' (tlS sts) N)
end
structure VOkS (k:VK) (n:Nat):Prop where
 xs:∀ {ρ σ st}{N N':Ab->Box->Prop},(∀ r σ',N r σ'->N' r σ')->vXS k n ρ σ st N->XS k.f ρ σ st N' k.R k.X
 xl:∀ {ρ σ sts}{N N':Ab->Box->Prop},(∀ r σ',N r σ'->N' r σ')->vXL k n ρ σ sts N->XL k.f ρ σ sts N' k.R k.X
theorem vOkS {k:VK}{D:Nat} (F:k.f.Ok k.sc D) (P:Pg k.f.c) (hd:∀ d,k.d=some d->D=d+1):∀ n,VOkS k n
 | 0=>⟨fun q h=>XS.cut h q,fun q h=>XL.cut h q⟩
 | n+1=>by
  have ih:=vOkS F P hd n
  have V:=vOk F P hd n
  refine ⟨fun {ρ σ st N N'} q h=>XS.cut (N':=N) ?_ q,fun {ρ σ sts N N'} q h=>XL.cut (N':=N) ?_ q⟩
  ·clear q
   cases st with
   | If t a b p=>exact XS_If F (V.et (fun b σ1 h=>⟨fun e=>ih.xl (fun _ _=>id) (by subst e;exact h),fun e=>ih.xl (fun _ _=>id) (by subst e;exact h)⟩) h)
   | Return e p=>cases e with
    | none=>exact h
    | some e=>exact vRet_ok F V id h
   | Assign ts e p=>cases ts with
    | nil=>exact h
    | cons t ts=>cases ts with
     | cons _ _=>exact h
     | nil=>exact vAsg_ok F V id h
   | AugAssign t op e p=>cases op with
    | Add=>exact vAug_ok F V id h
    | _=>exact h
   | Pass p=>exact XS_Pass h
   | _=>exact h
  ·cases sts with
   | nil=>exact XL_nil h
   | cons st r=>exact XL_cons (ih.xs (fun _ _ h=>ih.xl (fun _ _ h=>h) h) h)
section
variable {f:Fx}{sc:Scope}{d:Nat}{X:Prop}{R:RV->Box->Prop}{ρ:Ab}{σ:Box}
theorem XL_v {sts:List Stmt}{N:Ab->Box->Prop} (F:f.Ok sc (d+1)) (P:Pg f.c) (h:vXL ⟨f,sc,some d,X,R⟩ 60 ρ σ sts N):XL f ρ σ sts N R X:=(vOkS F P (fun _ e=>by cases Option.some.inj e;rfl) 60).xl (fun _ _ h=>h) h
theorem XL_v0 {sts:List Stmt}{N:Ab->Box->Prop} (F:f.Ok sc d) (P:Pg f.c) (h:vXL ⟨f,sc,none,X,R⟩ 60 ρ σ sts N):XL f ρ σ sts N R X:=(vOkS F P (fun _ e=>by exact non e) 60).xl (fun _ _ h=>h) h
theorem XS_v {st:Stmt}{N:Ab->Box->Prop} (F:f.Ok sc (d+1)) (P:Pg f.c) (h:vXS ⟨f,sc,some d,X,R⟩ 60 ρ σ st N):XS f ρ σ st N R X:=(vOkS F P (fun _ e=>by cases Option.some.inj e;rfl) 60).xs (fun _ _ h=>h) h
theorem XS_v0 {st:Stmt}{N:Ab->Box->Prop} (F:f.Ok sc d) (P:Pg f.c) (h:vXS ⟨f,sc,none,X,R⟩ 60 ρ σ st N):XS f ρ σ st N R X:=(vOkS F P (fun _ e=>by exact non e) 60).xs (fun _ _ h=>h) h
theorem EV_v {e:Expr}{Q:RV->Box->Prop} (F:f.Ok sc (d+1)) (P:Pg f.c) (h:vEV ⟨f,sc,some d,X,fun _ _=>True⟩ 60 ρ σ e Q):EV f ρ σ e Q X:=(vOk F P (fun _ e=>by cases Option.some.inj e;rfl) 60).ev (fun _ _ h=>h) h
theorem EV_v0 {e:Expr}{Q:RV->Box->Prop} (F:f.Ok sc d) (P:Pg f.c) (h:vEV ⟨f,sc,none,X,fun _ _=>True⟩ 60 ρ σ e Q):EV f ρ σ e Q X:=(vOk F P (fun _ e=>by exact non e) 60).ev (fun _ _ h=>h) h
theorem EL_v {e:List Expr}{Q:List RV->Box->Prop} (F:f.Ok sc (d+1)) (P:Pg f.c) (h:vEL ⟨f,sc,some d,X,fun _ _=>True⟩ 60 ρ σ e Q):EL f ρ σ e Q X:=(vOk F P (fun _ e=>by cases Option.some.inj e;rfl) 60).el (fun _ _ h=>h) h
theorem EL_v0 {e:List Expr}{Q:List RV->Box->Prop} (F:f.Ok sc d) (P:Pg f.c) (h:vEL ⟨f,sc,none,X,fun _ _=>True⟩ 60 ρ σ e Q):EL f ρ σ e Q X:=(vOk F P (fun _ e=>by exact non e) 60).el (fun _ _ h=>h) h
theorem ET_v {e:Expr}{Q:Bool->Box->Prop} (F:f.Ok sc (d+1)) (P:Pg f.c) (h:vET ⟨f,sc,some d,X,fun _ _=>True⟩ 60 ρ σ e Q):ET f ρ σ e Q X:=(vOk F P (fun _ e=>by cases Option.some.inj e;rfl) 60).et (fun _ _ h=>h) h
theorem ET_v0 {e:Expr}{Q:Bool->Box->Prop} (F:f.Ok sc d) (P:Pg f.c) (h:vET ⟨f,sc,none,X,fun _ _=>True⟩ 60 ρ σ e Q):ET f ρ σ e Q X:=(vOk F P (fun _ e=>by exact non e) 60).et (fun _ _ h=>h) h
end
theorem both_t {A B:Prop}{b:Bool} (h:b=true) (p:A):vIf b A B:=by subst h;exact p
theorem both_f {A B:Prop}{b:Bool} (h:b=false) (p:B):vIf b A B:=by subst h;exact p
theorem vIf_mk {A B:Prop}{b:Bool} (h:b=true->A) (k:b=false->B):vIf b A B:=by
 cases b
 ·exact k rfl
 ·exact h rfl
theorem dec_both {A B q:Prop} [Decidable q] (h1:q->A) (h2:¬ q->B):vIf (decide q) A B:=vIf_mk (fun e=>h1 (of_decide_eq_true e)) fun e=>h2 (of_decide_eq_false e)
theorem dec_not {A B q:Prop} [Decidable q] (h1:¬ q->A) (h2:q->B):vIf (!decide q) A B:=vIf_mk (fun e=>h1 (of_decide_eq_false ((Bool.not_eq_true' _).mp e))) fun e=>h2 (of_decide_eq_true ((Bool.not_eq_false' _).mp e))
theorem ndec {q:Prop} [Decidable q] (h:¬ q):(!decide q)=true:=by refine (decide_eq_false h)▸?_;rfl
theorem bT {K:Bool->Prop}{p:Prop} (h:p) (k:K true) (b:Bool) (e:b=true↔p):K b:=e.mpr h▸k
theorem bF {K:Bool->Prop}{p:Prop} (h:¬ p) (k:K false) (b:Bool) (e:b=true↔p):K b:=(Bool.eq_false_iff.mpr fun q=>h (e.mp q):b=false)▸k
theorem ret_of {x y:PV} (h:x=y):(⟨.val x,true⟩:RV)=⟨.val y,true⟩:=h▸rfl
theorem Ab.get {ρ:Ab}{x:Str}{r:RV} (h:ρ x=some r):ρ=set ρ x r:=funext fun y=>by
 unfold set
 by_cases e:y=x
 ·refine (if_pos e)▸?_;refine e▸?_;exact h▸rfl
 ·exact (if_neg e)▸rfl
noncomputable def Has (ρ:Ab):List (Str×RV)->Prop
 | []=>True
 | (x,r) :: xs=>ρ x=some r∧Has ρ xs
noncomputable def sets (ρ:Ab):List (Str×RV)->Ab
 | []=>ρ
 | (x,r) :: xs=>set (sets ρ xs) x r
theorem Has.eq {ρ:Ab}:∀ {xs:List (Str×RV)},Has ρ xs->ρ=sets ρ xs
 | [],_=>rfl
 | (x,r) :: xs,h=>(Ab.get h.1).trans (congrArg (fun ρ=>set ρ x r) (Has.eq h.2))
theorem XS_WhileV {f:Fx}{sc:Scope}{d:Nat}{X:Prop}{R:RV->Box->Prop}{N:Ab->Box->Prop}{ρ:Ab}{σ:Box} (F:f.Ok sc d) {test:Expr}{body:List Stmt}{pos:Pos}{α:Type} (I:α->List (Str×RV)) (J:Nat->α->Prop) (n:Nat) (u:α) (h0:Has ρ (I u)) (h1:J n u)
  (step:∀ n u ρ σ,J n u->ET f (sets ρ (I u)) σ test (fun b σ'=>vIf b (XL f (sets ρ (I u)) σ' body (fun ρ' σ''=>∃ m u,m < n∧Has ρ' (I u)∧J m u) R False) (N (sets ρ (I u)) σ')) False):XS f ρ σ (.While test body [] pos) N R X :=
 XS_While F (fun n ρ _=>∃ u,Has ρ (I u)∧J n u) n ⟨u,h0,h1⟩ fun n ρ σ ⟨u,i,j⟩=>by
  have s:=step n u ρ σ j
  rw [← i.eq] at s
  exact s.mono fun b σ' h=>⟨fun e=>by subst e;exact h.cut fun ρ' σ' ⟨m,u,a,b,c⟩=>⟨m,a,u,b,c⟩,fun e=>by subst e;exact h⟩
theorem XL_step {f:Fx}{X:Prop}{R:RV->Box->Prop}{ρ:Ab}{σ:Box}{sts:List Stmt}{N:Ab->Box->Prop} (h:XS f ρ σ (hdS sts) (fun ρ' σ'=>XL f ρ' σ' (tlS sts) N R X) R X) (hn:nilS sts=false:=by rfl):XL f ρ σ sts N R X:=by
 cases sts with
 | nil=>cases hn
 | cons st r=>exact XL_cons h
theorem XL_cut {f:Fx}{X:Prop}{R:RV->Box->Prop}{ρ:Ab}{σ:Box}{sts:List Stmt}{N:Ab->Box->Prop} (N':Ab->Box->Prop) (h:XS f ρ σ (hdS sts) N' R X) (k:∀ ρ' σ',N' ρ' σ'->XL f ρ' σ' (tlS sts) N R X) (hn:nilS sts=false:=by rfl):XL f ρ σ sts N R X :=
 XL_step (h.cut k) hn
theorem loopV {f:Fx}{sc:Scope}{d:Nat}{R:RV->Box->Prop}{N:Ab->Box->Prop}{ρ:Ab}{σ:Box}{x:Str}{body:List Stmt}{ys:List PV}{α:Type} (I:α->List (Str×RV)) (J:Nat->α->Prop) (u:α) (h0:Has ρ (I u)) (j0:J 0 u)
  (step:∀ T K,(f.pin T K).Ok sc d->∀ i u y ρ σ,ys[i]?=some y->J i u->XL (f.pin T K) (set (sets ρ (I u)) x (.im y)) σ body (fun ρ' _=>∃ u,Has ρ' (I u)∧J (i+1) u) R False) (fin:∀ u ρ σ,J ys.length u->N (sets ρ (I u)) σ) :
  ∃ J:Nat->Ab->Box->Prop,J 0 ρ σ∧(∀ T K,(f.pin T K).Ok sc d->∀ i y ρ σ,ys[i]?=some y->J i ρ σ->XL (f.pin T K) (set ρ x (.im y)) σ body (fun ρ' σ'=>J (i+1) ρ' σ') R False)∧(∀ ρ σ,J ys.length ρ σ->N ρ σ) :=
 ⟨fun i ρ _=>∃ u,Has ρ (I u)∧J i u,⟨u,h0,j0⟩,fun T K F i y ρ σ hy ⟨u,h,j⟩=>(by
  have s:=step T K F i u y ρ σ hy j
  rwa [← h.eq] at s),fun ρ σ ⟨u,h,j⟩=>(by
  have s:=fin u ρ σ j
  rwa [← h.eq] at s)⟩
theorem XL_cutH {f:Fx}{X:Prop}{R:RV->Box->Prop}{ρ:Ab}{σ:Box}{sts:List Stmt}{N:Ab->Box->Prop}{α:Type} (I:α->List (Str×RV)) (J:α->Box->Prop) (h:XS f ρ σ (hdS sts) (fun ρ' σ'=>∃ u,Has ρ' (I u)∧J u σ') R X) (k:∀ u ρ' σ',J u σ'->XL f (sets ρ' (I u)) σ' (tlS sts) N R X) (hn:nilS sts=false:=by rfl):XL f ρ σ sts N R X :=
 XL_cut _ h (fun ρ' σ' hq_=>by obtain ⟨u,H,j⟩:=hq_;exact H.eq▸k u ρ' σ' j) hn
theorem XL_has {f:Fx}{X:Prop}{R:RV->Box->Prop}{ρ:Ab}{σ:Box}{sts:List Stmt}{N:Ab->Box->Prop}{xs:List (Str×RV)} (H:Has ρ xs) (k:XL f (sets ρ xs) σ sts N R X):XL f ρ σ sts N R X:=H.eq▸k
theorem bth_t {P R:Prop}{b:Bool} (h:b=true) (p:P):(b=true->P)∧(b=false->R):=⟨fun _=>p,fun e=>(nomatch h.symm.trans e)⟩
theorem bth_f {P R:Prop}{b:Bool} (h:b=false) (p:R):(b=true->P)∧(b=false->R):=⟨fun e=>(nomatch h.symm.trans e),fun _=>p⟩
theorem exv {s:Slot}{x:PV}{K:PV->Prop} (h:asVal s=some x) (k:K x):∃ y,s=.val y∧K y:=⟨x,asVal_eq h,k⟩
theorem bth_dec {P R q:Prop} [Decidable q] (h1:q->P) (h2:¬ q->R):(decide q=true->P)∧(decide q=false->R):=⟨fun e=>h1 (of_decide_eq_true e),fun e=>h2 (of_decide_eq_false e)⟩
theorem bth_ndec {P R q:Prop} [Decidable q] (h1:¬ q->P) (h2:q->R):((!decide q)=true->P)∧((!decide q)=false->R):=⟨fun e=>h1 (of_decide_eq_false ((Bool.not_eq_true' _).mp e)),fun e=>h2 (of_decide_eq_true ((Bool.not_eq_false' _).mp e))⟩
theorem CBody.mono {f:Fx}{ρ:Ab}{σ:Box}{ifs:List Expr}{elt:Expr}{Q Q':List PV->Box->Prop}{X:Prop} (h:CBody f ρ σ ifs elt Q X) (k:∀ r σ',Q r σ'->Q' r σ'):CBody f ρ σ ifs elt Q' X:=by
 have el:∀ {σ},EV f ρ σ elt (fun r σ'=>∃ x,r.sl=.val x∧Q [x] σ') X->EV f ρ σ elt (fun r σ'=>∃ x,r.sl=.val x∧Q' [x] σ') X:=fun h=>EV.mono h (fun r σ' hq_=>by obtain ⟨x,e,q⟩:=hq_;exact ⟨x,e,k _ _ q⟩) id
 cases ifs with
 | nil=>exact el h
 | cons c r=>cases r with
  | nil=>exact ET.mono h fun b σ' q=>⟨fun e=>el (q.1 e),fun e=>k _ _ (q.2 e)⟩
  | cons _ _=>exact h
theorem comp_gen {f:Fx}{gs:Scope}{d:Nat}{ρ':Ab}{names:List Str}{sp:PV->List PV->Prop}{ifs:List Expr}{elt:Expr}{K:List PV->Box->Prop}{X:Prop}{σ:Box}{α:Type}{enc:α->PV}{ts:List α} (vals:α->List PV) (out:α->List PV) (P:Pg f.c) (hl:ts.length≤1000000)
  (hs:∀ t,sp (enc t) (vals t)∧(vals t).length=names.length∧∀ zs,sp (enc t) zs->zs=vals t)
  (body:∀ g,g.c=f.c->g.Ok gs d->Pg g.c->∀ t∈ts,CBody g (setAll ρ' names ((vals t).map RV.im)) σ ifs elt (fun ys σ'=>ys=out t∧σ'=σ) X) (fin:K (ts.flatMap out) σ) :
  CompQ f gs d ρ' names sp ifs elt K X (ts.map enc) σ:=by
 refine ⟨by rwa [List.length_map],fun y hy=>?_,fun i ys σ'=>ys=(ts.take i).flatMap out∧σ'=σ,⟨rfl,rfl⟩,fun g hg G i y ys zs σ' hy hzs hJ _=>?_,fun ys σ' hJ=>?_⟩
 ·obtain ⟨t,_,rfl⟩:=List.mem_map.mp hy
  exact ⟨vals t,(hs t).1,(hs t).2.1⟩
 ·obtain ⟨rfl,rfl⟩:=hJ
  rw [List.getElem?_map,Option.map_eq_some_iff] at hy
  obtain ⟨t,ht,rfl⟩:=hy
  obtain rfl:=(hs t).2.2 zs hzs
  refine CBody.mono (body g hg.c G (hg.c▸P) t (List.mem_of_getElem? ht)) fun ys' σ' h=>⟨?_,h.2⟩
  rw [h.1];rw [List.take_add_one];rw [ht];rw [List.flatMap_append]
  exact congrArg (_ ++ ·) (List.append_nil _).symm
 ·obtain ⟨rfl,rfl⟩:=hJ
  rwa [List.length_map,List.take_length]
theorem flatMap_if {α β:Type}{p:α->Bool}{h:α->β}:∀ ts:List α,ts.flatMap (fun t=>if p t then [h t] else [])=(ts.filter p).map h
 | []=>rfl
 | t :: ts=>by
  rw [List.flatMap_cons];rw [flatMap_if ts];rw [List.filter_cons]
  cases p t <;> rfl
section
variable {f:Fx}{gs:Scope}{d:Nat}{ρ':Ab}{x:Str}{ifs:List Expr}{elt:Expr}{K:List PV->Box->Prop}{X:Prop}{σ:Box}{α:Type}{enc:α->PV}{ts:List α}
theorem comp_list (out:α->List PV) (P:Pg f.c) (hl:ts.length≤1000000) (body:∀ g,g.c=f.c->g.Ok gs d->Pg g.c->∀ t∈ts,CBody g (set ρ' x (.im (enc t))) σ ifs elt (fun ys σ'=>ys=out t∧σ'=σ) X) (fin:K (ts.flatMap out) σ) :
  CompQ f gs d ρ' [x] (fun y ys=>ys=[y]) ifs elt K X (ts.map enc) σ :=
 comp_gen (fun t=>[enc t]) out P hl (fun t=>⟨rfl,rfl,fun _ h=>h⟩) body fin
theorem comp_map (h:α->PV) (P:Pg f.c) (hl:ts.length≤1000000) (body:∀ g,g.c=f.c->g.Ok gs d->Pg g.c->∀ t∈ts,CBody g (set ρ' x (.im (enc t))) σ ifs elt (fun ys σ'=>ys=[h t]∧σ'=σ) X) (fin:K (ts.map h) σ) :
  CompQ f gs d ρ' [x] (fun y ys=>ys=[y]) ifs elt K X (ts.map enc) σ :=
 comp_list (fun t=>[h t]) P hl body (by rwa [← List.map_eq_flatMap])
theorem comp_filter (p:α->Bool) (P:Pg f.c) (hl:ts.length≤1000000) (body:∀ g,g.c=f.c->g.Ok gs d->Pg g.c->∀ t∈ts,CBody g (set ρ' x (.im (enc t))) σ ifs elt (fun ys σ'=>ys=(if p t then [enc t] else [])∧σ'=σ) X) (fin:K ((ts.filter p).map enc) σ) :
  CompQ f gs d ρ' [x] (fun y ys=>ys=[y]) ifs elt K X (ts.map enc) σ :=
 comp_list (fun t=>if p t then [enc t] else []) P hl body (by rwa [flatMap_if])
theorem comp_none (P:Pg f.c) (hl:ts.length≤1000000) (body:∀ g,g.c=f.c->g.Ok gs d->Pg g.c->∀ t∈ts,CBody g (set ρ' x (.im (enc t))) σ ifs elt (fun ys σ'=>ys=[]∧σ'=σ) X) (fin:K [] σ) :
  CompQ f gs d ρ' [x] (fun y ys=>ys=[y]) ifs elt K X (ts.map enc) σ :=
 comp_list (fun _=>[]) P hl body (by rwa [List.flatMap_eq_nil_iff.mpr fun _ _=>rfl])
end
noncomputable def okDef (n:Nat) (xs:List Str):Bool:=(dfn n).scope.kind == .function && (!(dfn n).scope.isCoroutine && (!(dfn n).scope.isGenerator && (decide ((cellsFrom 0 (dfn n).scope.names []).map (·.1)).Nodup && xs.all fun x=>(dfn n).scope.names.lookup x == some .local || (dfn n).scope.names.lookup x == some .cell)))
structure OkDef (n:Nat) (xs:List Str):Prop where
 kind:(dfn n).scope.kind=.function
 co:(dfn n).scope.isCoroutine=false
 gen:(dfn n).scope.isGenerator=false
 nd:((cellsFrom 0 (dfn n).scope.names []).map (·.1)).Nodup
 loc:∀ x∈xs,(dfn n).scope.names.lookup x=some .local∨(dfn n).scope.names.lookup x=some .cell
theorem OkDef.of {n:Nat}{xs:List Str} (h:okDef n xs=true):OkDef n xs:=by
 unfold okDef at h
 rw [Bool.and_eq_true,Bool.and_eq_true,Bool.and_eq_true,Bool.and_eq_true,Bool.not_eq_true',Bool.not_eq_true',decide_eq_true_eq,List.all_eq_true] at h
 exact ⟨eq_of_beq h.1,h.2.1,h.2.2.1,h.2.2.2.1,fun x hx=>((Bool.or_eq_true _ _).mp (h.2.2.2.2 x hx)).imp eq_of_beq eq_of_beq⟩
section
variable {c:Cx}{d:Nat}{g:Str}{Q:RV->Prop}{X:Prop}{s1 s2:Slot}
theorem in1 (P:Pg c) (n:Nat) (x:Str) (h:∀ f,In f c (dfn n).scope d->Pg f.c->XL f (par1 x s1) ([],0) (dfn n).body (fun _ _=>False) (fun r _=>Q r) X)
  (hok:okDef n [x]=true:=by decide +kernel) (hg:(g,n)∈fnTab:=by decide +kernel) (hbind:∀ v pm code doc,bindArgs (docDef g (dfn n).params (dfn n).body (dfn n).scope pm code doc) ⟨[v],[]⟩=pure [(x,v)]:=by intro _ _ _ _;rfl):Fn c (d+1) g [s1] Q X :=
 have k:=OkDef.of hok
 enter1 (P.defs (g,n) hg) (fun f i=>h f i (i.c▸P)) hbind (k.loc x (.head _)) k.kind k.co k.gen k.nd
theorem in2 (P:Pg c) (n:Nat) (x y:Str) (h:∀ f,In f c (dfn n).scope d->Pg f.c->XL f (par2 x y s1 s2) ([],0) (dfn n).body (fun _ _=>False) (fun r _=>Q r) X)
  (hok:(okDef n [x,y] && !decide (x=y))=true:=by decide +kernel) (hg:(g,n)∈fnTab:=by decide +kernel) (hbind:∀ v u pm code doc,bindArgs (docDef g (dfn n).params (dfn n).body (dfn n).scope pm code doc) ⟨[v,u],[]⟩=pure [(x,v),(y,u)]:=by intro _ _ _ _ _;rfl):Fn c (d+1) g [s1,s2] Q X :=
 have e:=(Bool.and_eq_true _ _).mp hok
 have k:=OkDef.of e.1
 enter2 (P.defs (g,n) hg) (fun f i=>h f i (i.c▸P)) hbind (k.loc x (.head _)) (k.loc y (.tail _ (.head _))) (of_decide_eq_false ((Bool.not_eq_true' _).mp e.2)) k.kind k.co k.gen k.nd
theorem go1 (P:Pg c) (n:Nat) (x:Str) (h:∀ f,f.Ok (dfn n).scope (d+1)->Pg f.c->f.c=c->vXL ⟨f,(dfn n).scope,some d,X,fun r _=>Q r⟩ 60 (par1 x s1) ([],0) (dfn n).body (fun _ _=>False))
  (hok:okDef n [x]=true:=by decide +kernel) (hg:(g,n)∈fnTab:=by decide +kernel) (hbind:∀ v pm code doc,bindArgs (docDef g (dfn n).params (dfn n).body (dfn n).scope pm code doc) ⟨[v],[]⟩=pure [(x,v)]:=by intro _ _ _ _;rfl):Fn c (d+2) g [s1] Q X :=
 in1 P n x (fun f i P=>XL_v i.ok P (h f i.ok P i.c)) hok hg hbind
theorem go1_0 (P:Pg c) (n:Nat) (x:Str) (h:∀ f,f.Ok (dfn n).scope 0->Pg f.c->f.c=c->vXL ⟨f,(dfn n).scope,none,X,fun r _=>Q r⟩ 60 (par1 x s1) ([],0) (dfn n).body (fun _ _=>False))
  (hok:okDef n [x]=true:=by decide +kernel) (hg:(g,n)∈fnTab:=by decide +kernel) (hbind:∀ v pm code doc,bindArgs (docDef g (dfn n).params (dfn n).body (dfn n).scope pm code doc) ⟨[v],[]⟩=pure [(x,v)]:=by intro _ _ _ _;rfl):Fn c 1 g [s1] Q X :=
 in1 P n x (fun f i P=>XL_v0 i.ok P (h f i.ok P i.c)) hok hg hbind
theorem go2 (P:Pg c) (n:Nat) (x y:Str) (h:∀ f,f.Ok (dfn n).scope (d+1)->Pg f.c->f.c=c->vXL ⟨f,(dfn n).scope,some d,X,fun r _=>Q r⟩ 60 (par2 x y s1 s2) ([],0) (dfn n).body (fun _ _=>False))
  (hok:(okDef n [x,y] && !decide (x=y))=true:=by decide +kernel) (hg:(g,n)∈fnTab:=by decide +kernel) (hbind:∀ v u pm code doc,bindArgs (docDef g (dfn n).params (dfn n).body (dfn n).scope pm code doc) ⟨[v,u],[]⟩=pure [(x,v),(y,u)]:=by intro _ _ _ _ _;rfl):Fn c (d+2) g [s1,s2] Q X :=
 in2 P n x y (fun f i P=>XL_v i.ok P (h f i.ok P i.c)) hok hg hbind
theorem go2_0 (P:Pg c) (n:Nat) (x y:Str) (h:∀ f,f.Ok (dfn n).scope 0->Pg f.c->f.c=c->vXL ⟨f,(dfn n).scope,none,X,fun r _=>Q r⟩ 60 (par2 x y s1 s2) ([],0) (dfn n).body (fun _ _=>False))
  (hok:(okDef n [x,y] && !decide (x=y))=true:=by decide +kernel) (hg:(g,n)∈fnTab:=by decide +kernel) (hbind:∀ v u pm code doc,bindArgs (docDef g (dfn n).params (dfn n).body (dfn n).scope pm code doc) ⟨[v,u],[]⟩=pure [(x,v),(y,u)]:=by intro _ _ _ _ _;rfl):Fn c 1 g [s1,s2] Q X :=
 in2 P n x y (fun f i P=>XL_v0 i.ok P (h f i.ok P i.c)) hok hg hbind
end
theorem Fn.up {c:Cx}{d d':Nat}{fn:Str}{args:List Slot}{Q:RV->Prop}{X:Prop} (h:Fn c d fn args Q X) (hd:d≤d':=by omega):Fn c d' fn args Q X:=h.mono hd (fun _ _ q=>q) id
theorem ups_get {m i:Nat}{y:PV} (h:(ups m)[i]?=some y):i < m∧y=.int i:=by
 unfold ups at h
 rw [List.getElem?_map,Option.map_eq_some_iff] at h
 obtain ⟨a,ha,rfl⟩:=h
 obtain ⟨hl,he⟩:=List.getElem?_eq_some_iff.mp ha
 rw [List.length_range] at hl
 rw [List.getElem_range] at he
 exact ⟨hl,he▸rfl⟩
theorem ups_len (m:Nat):(ups m).length=m:=by rw [ups];rw [List.length_map];rw [List.length_range]
theorem rangeV {f:Fx}{sc:Scope}{d:Nat}{R:RV->Box->Prop}{N:Ab->Box->Prop}{ρ:Ab}{σ:Box}{x:Str}{body:List Stmt}{m:Nat}{α:Type} (I:α->List (Str×RV)) (J:Nat->α->Prop) (u:α) (h0:Has ρ (I u)) (j0:J 0 u)
  (step:∀ T K,(f.pin T K).Ok sc d->∀ i u ρ σ,i < m->J i u->XL (f.pin T K) (set (sets ρ (I u)) x (.im (.int i))) σ body (fun ρ' _=>∃ u,Has ρ' (I u)∧J (i+1) u) R False) (fin:∀ u ρ σ,J m u->N (sets ρ (I u)) σ) :
  ∃ J:Nat->Ab->Box->Prop,J 0 ρ σ∧(∀ T K,(f.pin T K).Ok sc d->∀ i y ρ σ,(ups m)[i]?=some y->J i ρ σ->XL (f.pin T K) (set ρ x (.im y)) σ body (fun ρ' σ'=>J (i+1) ρ' σ') R False)∧(∀ ρ σ,J (ups m).length ρ σ->N ρ σ) :=
 loopV I J u h0 j0 (fun T K F i u y ρ σ hy hj=>by
  obtain ⟨hi,rfl⟩:=ups_get hy
  exact step T K F i u ρ σ hi hj) fun u ρ σ hj=>fin u ρ σ (ups_len m▸hj)
theorem lt63 {i n:Nat} (h:i < n) (hn:n≤1000000):(i:Int) < 2 ^ 63:=Int.ofNat_lt.mpr (Nat.lt_of_lt_of_le h (Nat.le_trans hn (by decide)))
theorem Fn.ret {c:Cx}{d d':Nat}{fn:Str}{args:List Slot}{Q:RV->Prop}{X:Prop} (h:Fn c d fn args Q X) (hd:d≤d':=by omega):Fn c d' fn args (fun r=>vG (okN r) (Q ⟨r.sl,true⟩) False) X:=h.mono hd (fun r hn q=>by
 obtain ⟨sl,nw⟩:=r
 subst hn
 exact q) id
theorem loopTV {f:Fx}{sc:Scope}{d:Nat}{R:RV->Box->Prop}{N:Ab->Box->Prop}{ρ:Ab}{σ:Box}{names:List Str}{sp:PV->List PV->Prop}{body:List Stmt}{β:Type}{enc:β->PV}{ts:List β} (vals:β->List PV) (hs:∀ t,sp (enc t) (vals t)∧∀ zs,sp (enc t) zs->zs=vals t)
  {α:Type} (I:α->List (Str×RV)) (J:Nat->α->Prop) (u:α) (h0:Has ρ (I u)) (j0:J 0 u)
  (step:∀ T K,(f.pin T K).Ok sc d->∀ i u t ρ σ,ts[i]?=some t->J i u->XL (f.pin T K) (setAll (sets ρ (I u)) names ((vals t).map RV.im)) σ body (fun ρ' _=>∃ u,Has ρ' (I u)∧J (i+1) u) R False) (fin:∀ u ρ σ,J ts.length u->N (sets ρ (I u)) σ) :
  (∀ y∈ts.map enc,∃ zs,sp y zs)∧∃ J:Nat->Ab->Box->Prop,J 0 ρ σ∧(∀ T K,(f.pin T K).Ok sc d->∀ i y zs ρ σ,(ts.map enc)[i]?=some y->sp y zs->J i ρ σ->XL (f.pin T K) (setAll ρ names (zs.map RV.im)) σ body (fun ρ' σ'=>J (i+1) ρ' σ') R False)∧(∀ ρ σ,J (ts.map enc).length ρ σ->N ρ σ):=by
 refine ⟨fun y hy=>?_,fun i ρ _=>∃ u,Has ρ (I u)∧J i u,⟨u,h0,j0⟩,fun T K F i y zs ρ σ hy hz ⟨u,h,j⟩=>?_,fun ρ σ ⟨u,h,j⟩=>?_⟩
 ·obtain ⟨t,_,rfl⟩:=List.mem_map.mp hy
  exact ⟨_,(hs t).1⟩
 ·rw [List.getElem?_map,Option.map_eq_some_iff] at hy
  obtain ⟨t,ht,rfl⟩:=hy
  obtain rfl:=(hs t).2 zs hz
  have s:=step T K F i u t ρ σ ht j
  rwa [← h.eq] at s
 ·rw [List.length_map] at j
  have s:=fin u ρ σ j
  rwa [← h.eq] at s
theorem s_pick {α:Type}{g:α->PV}{j:Int}{u:Addr}{n1 n2:Bool}{K:RV->Prop} (as:List α) (h0:0≤j) (h1:j < as.length) (hl:as.length≤1000000) (k:∀ a∈as,K (.im (g a))):SubQ ⟨.lst u (as.map g),n1⟩ ⟨.val (.int j),n2⟩ K:=by
 obtain ⟨i,rfl⟩:=Int.eq_ofNat_of_zero_le h0
 have hi:=Int.ofNat_lt.mp h1
 exact s_lst (x:=g as[i]) (by rw [List.getElem?_map];exact congrArg (Option.map g) (List.getElem?_eq_getElem hi)) (k _ (List.getElem_mem hi)) h0 (lt63 hi hl)
end
section
section
variable {c:Cx}
theorem fn_num_of (P:Pg c) {k a b:PV}:Fn c 1 "num_of" [.val (.tup [k,a,b])] (fun r=>r=⟨.val (.tup [a,b]),true⟩) False :=
 go1_0 P 18 "term" fun _ _ _ _=>rfl
theorem fn_is_num (P:Pg c) {k:Str}{xs:List PV}:Fn c 1 "is_num" [.val (.tup (.str k :: xs))] (fun r=>r=⟨.val (.bool (decide (k="num"))),true⟩) False :=
 go1_0 P 17 "term" fun _ _ _ _=>rfl
theorem fn_is_whole_num (P:Pg c) {p q:Int}:Fn c 1 "is_whole_num" [.val (.tup [.str "num",.int p,.int q])] (fun r=>r=⟨.val (.bool (decide (q=1))),true⟩) False :=
 go1_0 P 19 "term" fun _ _ _ _=>rfl
theorem gcd_step {a b:Int}:Int.gcd b (a.fmod b)=Int.gcd a b:=by
 rw [Int.fmod_def];rw [Int.gcd_comm a b];rw [Int.sub_eq_add_neg];rw [← Int.mul_neg];rw [Int.gcd_add_mul_left_right]
theorem absI_eq (x:Int):absI x=x.natAbs:=by unfold absI;split <;> lia
structure GcdJ (a b:Int) (n:Nat) (u:Int×Int):Prop where
 h0:0≤u.1
 h1:0≤u.2
 hn:n=u.2.toNat
 hg:Int.gcd u.1 u.2=Int.gcd a b
theorem GcdJ.start (a b:Int):GcdJ a b (absI b).toNat (absI a,absI b):=by
 rw [absI_eq];rw [absI_eq]
 exact ⟨Int.natCast_nonneg _,Int.natCast_nonneg _,rfl,rfl⟩
theorem GcdJ.next {a b:Int}{n:Nat}{u:Int×Int} (h:GcdJ a b n u) (hv:u.2≠0):(u.1.fmod u.2).toNat < n∧GcdJ a b (u.1.fmod u.2).toNat (u.2,u.1.fmod u.2):=by
 have v:=Int.lt_iff_le_and_ne.mpr ⟨h.h1,hv.symm⟩
 have h2:=Int.fmod_lt_of_pos u.1 v
 exact ⟨h.hn▸(Int.toNat_lt_toNat v).mpr h2,h.h1,Int.fmod_nonneg h.h0 h.h1,rfl,gcd_step.trans h.hg⟩
theorem GcdJ.fin {a b:Int}{n:Nat}{u:Int×Int} (h:GcdJ a b n u) (hv:u.2=0):u.1=Int.gcd a b:=by
 refine h.hg▸?_;refine hv▸?_;refine (Int.gcd_zero_right ..)▸?_
 exact (Int.natAbs_of_nonneg h.h0).symm
theorem fn_gcd (P:Pg c) {a b:Int}:Fn c 1 "gcd" [.val (.int a),.val (.int b)] (fun r=>r=⟨.val (.int (Int.gcd a b)),true⟩) False :=
 go2_0 P 3 "a" "b" fun f F P _=>t_abs (t_abs (XS_WhileV F (fun u:Int×Int=>[("a",.im (.int u.1)),("b",.im (.int u.2))]) (GcdJ a b) _ _ ⟨rfl,rfl,trivial⟩ (.start a b) fun n u ρ σ h =>
  ET_v0 F P (dec_not (fun hv=>XL_v0 F P (b_mod hv ⟨_,(u.2,u.1.fmod u.2),(h.next hv).1,⟨rfl,rfl,trivial⟩,(h.next hv).2⟩)) fun hv=>ret_of (congrArg PV.int (h.fin hv)))))
theorem divInt_red {p q:Int} (hq:q≠0) {g:Int} (hg:g=if q > 0 then (Int.gcd p q:Int) else 0 - (Int.gcd p q:Int)):p.fdiv g=(Rat.divInt p q).num∧q.fdiv g=((Rat.divInt p q).den:Int):=by
 have gp:(0:Int) < (Int.gcd p q:Int):=by
  have:0 < Int.gcd p q:=Int.gcd_pos_of_ne_zero_right _ hq
  lia
 obtain ⟨k,hk⟩:=Int.gcd_dvd_left (a:=p) (b:=q)
 obtain ⟨m,hm⟩:=Int.gcd_dvd_right (a:=p) (b:=q)
 refine (Rat.num_divInt ..)▸?_;refine (Rat.den_divInt ..)▸?_;refine (Int.gcd_comm q p)▸?_;refine (if_neg hq)▸?_
 generalize (Int.gcd p q)=G at *
 have gne:(G:Int)≠0:=by lia
 by_cases h:q > 0
 ·rw [if_pos h] at hg
  subst hg
  have hm0:0 < m:=by
   rcases Int.lt_trichotomy m 0 with h1 | h1 | h1
   ·have:=Int.mul_neg_of_pos_of_neg gp h1;lia
   ·subst h1;simp at hm;lia
   ·exact h1
  have hs:q.sign=1:=Int.sign_eq_one_of_pos h
  refine hs▸?_;refine (Int.one_mul ..)▸?_
  subst hk hm
  refine ⟨?_,?_⟩
  ·refine (Int.mul_fdiv_cancel_left _ gne)▸?_;exact (Int.mul_ediv_cancel_left _ gne)▸rfl
  ·refine (Int.mul_fdiv_cancel_left _ gne)▸?_;refine (Int.natAbs_mul ..)▸?_;refine (Int.natAbs_natCast ..)▸?_;rw [Nat.mul_div_cancel_left _ (by lia)]
   lia
 ·rw [if_neg h] at hg
  subst hg
  have hq':q < 0:=by lia
  have hm0:m < 0:=by
   rcases Int.lt_trichotomy m 0 with h1 | h1 | h1
   ·exact h1
   ·subst h1;simp at hm;lia
   ·have:=Int.mul_pos gp h1;lia
  have hs:q.sign=-1:=Int.sign_eq_neg_one_of_neg hq'
  refine hs▸?_
  subst hk hm
  have gne':(0 - (G:Int))≠0:=by lia
  have e:∀ x:Int,(G:Int) * x=(0 - (G:Int)) * (-x):=fun x=>by rw [Int.zero_sub];rw [Int.neg_mul_neg]
  refine ⟨?_,?_⟩
  ·conv=>lhs;rw [e k]
   refine (Int.mul_fdiv_cancel_left _ gne')▸?_
   refine (show (-1:Int) * (G * k)=G * (-k) by refine (Int.mul_neg ..)▸?_;lia)▸?_;exact (Int.mul_ediv_cancel_left _ gne)▸rfl
  ·conv=>lhs;rw [e m]
   refine (Int.mul_fdiv_cancel_left _ gne')▸?_;refine (Int.natAbs_mul ..)▸?_;refine (Int.natAbs_natCast ..)▸?_;rw [Nat.mul_div_cancel_left _ (by lia)]
   lia
theorem gcd_le_right {p q:Int} (hq:q≠0):Int.gcd p q≤q.natAbs :=
 Nat.le_of_dvd (Int.natAbs_pos.mpr hq) (Int.natAbs_dvd_natAbs.mpr (Int.gcd_dvd_right (a:=p) (b:=q)))
theorem Sm.of {p:Int}{k:Nat} (h:p.natAbs < 2 ^ k) (hk:k≤4200):Sm p:=Nat.lt_of_lt_of_le h (Nat.pow_le_pow_right (by decide) hk)
noncomputable def gcdS (p q:Int):Int:=if q > 0 then (Int.gcd p q:Int) else 0 - (Int.gcd p q:Int)
theorem gcd_sm {p q:Int} (hq:q≠0) (h:Sm q):gcdS p q≠0∧Sm (gcdS p q):=by
 have gp:0 < Int.gcd p q:=Int.gcd_pos_of_ne_zero_right _ hq
 have e:(gcdS p q).natAbs=Int.gcd p q:=by unfold gcdS;split <;> lia
 refine ⟨fun h=>?_,Nat.lt_of_le_of_lt (e▸gcd_le_right (p:=p) hq) h⟩
 rw [h] at e
 exact Nat.ne_of_gt gp e.symm
noncomputable def ratP (q:Rat):PV:=.tup [.int q.num,.int q.den]
theorem ratP_red {p q:Int} (hq:q≠0):PV.tup [.int (p.fdiv (gcdS p q)),.int (q.fdiv (gcdS p q))]=ratP (Rat.divInt p q):=by
 have e:=divInt_red (p:=p) hq (g:=gcdS p q) rfl
 refine e.1▸?_;refine e.2▸?_;rfl
theorem somI {x y:Int}{nw:Bool} (h:x=y):(some ⟨.val (.int x),nw⟩:Option RV)=some ⟨.val (.int y),nw⟩:=h▸rfl
theorem fn_rat (P:Pg c) {p q:Int} (hq:q≠0) (h:Sm q):Fn c 3 "rat" [.val (.int p),.val (.int q)] (fun r=>r=⟨.val (ratP (Rat.divInt p q)),true⟩) False :=
 in2 P 9 "top" "bottom" fun f i P=>XL_step (XS_v i.ok P (both_f (decide_eq_false hq) (XL_cutH (fun nw:Bool=>[("g",⟨.val (.int (gcdS p q)),nw⟩),("top",.im (.int p)),("bottom",.im (.int q))]) (fun _ _=>True)
  (XS_v i.ok P (dec_both (fun hp=>(fn_gcd P).is ⟨_,⟨somI (if_pos hp).symm,rfl,rfl,trivial⟩,trivial⟩) fun hp=>(fn_gcd P).is ⟨_,⟨somI (if_neg hp).symm,rfl,rfl,trivial⟩,trivial⟩))
  fun nw ρ σ _=>XL_v i.ok P (b_div (gcd_sm hq h).1 (gcd_sm hq h).2 (b_div (gcd_sm hq h).1 (gcd_sm hq h).2 (ret_of (ratP_red hq)))))))
noncomputable def Sq (q:Rat):Prop:=q.num.natAbs < 2 ^ 2000∧q.den < 2 ^ 2000
theorem Sm.mul {a b:Int} (ha:a.natAbs < 2 ^ 2000) (hb:b.natAbs < 2 ^ 2000):Sm (a * b):=by
 have h1:a.natAbs * b.natAbs < 2 ^ 2000 * 2 ^ 2000:=Nat.mul_lt_mul'' ha hb
 rw [← Int.natAbs_mul,← Nat.pow_add] at h1
 exact Nat.lt_of_lt_of_le h1 (Nat.pow_le_pow_right (by decide) (by decide))
theorem Sq.d {q:Rat} (h:Sq q):(q.den:Int).natAbs < 2 ^ 2000:=h.2
theorem sm2000 {a:Int} (h:a.natAbs < 2 ^ 2000):Sm a:=Sm.of h (by decide)
theorem den_ne (a:Rat):(a.den:Int)≠0:=Int.natCast_ne_zero.mpr a.den_nz
theorem fn_radd (P:Pg c) {a b:Rat} (ha:Sq a) (hb:Sq b):Fn c 5 "radd" [.val (ratP a),.val (ratP b)] (fun r=>r=⟨.val (ratP (a+b)),true⟩) False :=
 go2 P 10 "a" "b" fun f F P _=>b_mul (mulOk_of (sm2000 ha.1) (sm2000 hb.d)) (b_mul (mulOk_of (sm2000 hb.1) (sm2000 ha.d)) (b_mul (mulOk_of (sm2000 ha.d) (sm2000 hb.d))
  ((fn_rat P (Int.mul_ne_zero (den_ne a) (den_ne b)) (Sm.mul ha.d hb.d)).is (ret_of (congrArg ratP (by rw [Rat.add_def'];rw [← Rat.divInt_ofNat];rw [Int.natCast_mul]))))))
theorem fn_rmul (P:Pg c) {a b:Rat} (ha:Sq a) (hb:Sq b):Fn c 5 "rmul" [.val (ratP a),.val (ratP b)] (fun r=>r=⟨.val (ratP (a * b)),true⟩) False :=
 go2 P 11 "a" "b" fun f F P _=>b_mul (mulOk_of (sm2000 ha.1) (sm2000 hb.1)) (b_mul (mulOk_of (sm2000 ha.d) (sm2000 hb.d))
  ((fn_rat P (Int.mul_ne_zero (den_ne a) (den_ne b)) (Sm.mul ha.d hb.d)).is (ret_of (congrArg ratP (by refine (Rat.mul_def' ..)▸?_;refine (Rat.divInt_ofNat ..)▸?_;exact (Int.natCast_mul ..)▸rfl)))))
theorem fn_rinv (P:Pg c) {a:Rat} (ha:Sq a) (h0:a≠0):Fn c 5 "rinv" [.val (ratP a)] (fun r=>r=⟨.val (ratP a⁻¹),true⟩) False :=
 go1 P 12 "a" fun f F P _=>(fn_rat P (fun h=>h0 (Rat.num_eq_zero.mp h)) (sm2000 ha.1)).is (ret_of (congrArg ratP (Rat.inv_def a).symm))
noncomputable def sgn (a b:Int):Int:=if a=b then 0 else if a < b then -1 else 1
theorem fn_sign_ints (P:Pg c) {a b:Int}:Fn c 1 "sign_between" [.val (.int a),.val (.int b)] (fun r=>r=⟨.val (.int (sgn a b)),true⟩) False :=
 go2_0 P 22 "one" "other" fun _ _ _ _=>dec_both (fun h=>ret_of (congrArg PV.int (if_pos h).symm)) fun h=>dec_both (fun k=>ret_of (congrArg PV.int ((if_neg h).trans (if_pos k)).symm)) fun k=>ret_of (congrArg PV.int ((if_neg h).trans (if_neg k)).symm)
noncomputable def sgnS (a b:Str):Int:=if a=b then 0 else if strLt a b=true then -1 else 1
theorem fn_sign_strs (P:Pg c) {a b:Str}:Fn c 1 "sign_between" [.val (.str a),.val (.str b)] (fun r=>r=⟨.val (.int (sgnS a b)),true⟩) False :=
 go2_0 P 22 "one" "other" fun _ _ _ _=>dec_both (fun h=>ret_of (congrArg PV.int (if_pos h).symm)) fun h=>vIf_mk (fun k=>ret_of (congrArg PV.int ((if_neg h).trans (if_pos k)).symm)) fun k=>ret_of (congrArg PV.int ((if_neg h).trans (if_neg (Bool.eq_false_iff.mp k))).symm)
end
end
section
section
variable {c:Cx}
theorem sm_pow2 {m:Nat} (h:m≤4096):Sm ((2:Int) ^ m):=by
 unfold Sm
 rw [Int.natAbs_pow]
 exact Nat.pow_lt_pow_right (by decide) (Nat.lt_of_le_of_lt h (by decide))
structure BitsJ (k:Nat) (u:Nat×Nat):Prop where
 pos:1≤u.1
 lt:u.1 * 2 ^ u.2 < 2 ^ k
theorem BitsJ.next {k m:Nat}{u:Nat×Nat} (h:BitsJ k u) (hm:1≤m) (hge:2 ^ m≤u.1):u.1 / 2 ^ m < u.1∧BitsJ k (u.1 / 2 ^ m,u.2+m):=by
 refine ⟨Nat.div_lt_self h.pos (Nat.one_lt_two_pow (Nat.ne_of_gt hm)),(Nat.le_div_iff_mul_le (Nat.two_pow_pos m)).mpr (by rwa [Nat.one_mul]),Nat.lt_of_le_of_lt ?_ h.lt⟩
 rw [Nat.pow_add];rw [Nat.mul_comm (2 ^ u.2)];rw [← Nat.mul_assoc]
 exact Nat.mul_le_mul_right _ (Nat.div_mul_le_self _ _)
theorem BitsJ.fin {k:Nat}{u:Nat×Nat} (h:BitsJ k u) (h2:u.1 < 2):u.2+u.1≤k:=by
 obtain ⟨n,v⟩:=u
 have h0:=h.pos
 have h1:=h.lt
 obtain rfl:n=1:=Nat.le_antisymm (Nat.le_of_lt_succ h2) h0
 rw [Nat.one_mul] at h1
 exact (Nat.pow_lt_pow_iff_right (by decide)).mp h1
theorem cast_pow2 (m:Nat):((2:Int) ^ m)=((2 ^ m:Nat):Int):=(Int.natCast_pow 2 m).symm
theorem fn_bits (P:Pg c) {g:Int}{k d:Nat}{Q:RV->Prop}{X:Prop} (h1:1≤g) (h:g < 2 ^ k) (q:∀ m:Nat,m≤k->Q ⟨.val (.int m),true⟩) (hd:1≤d:=by omega):Fn c d "bits_of" [.val (.int g)] Q X:=by
 obtain ⟨n,rfl⟩:=Int.eq_ofNat_of_zero_le (Int.le_trans (by decide) h1)
 rw [cast_pow2] at h
 have J0:BitsJ k (n,0):=⟨Int.ofNat_le.mp h1,by show n * 1 < _;refine (Nat.mul_one ..)▸?_;exact Int.ofNat_lt.mp h⟩
 refine Fn.up (go1_0 P 4 "n" fun f F P _=>?_) hd
 refine XS_For F (.inl rfl) (ES_val F (EV_v0 F P ?_))
 refine loopV (fun u:Nat×Nat=>[("n",.im (.int u.1)),("found",.im (.int u.2))]) (fun i u=>BitsJ k u∧(i=3->u.1 < 2)) (n,0) ⟨rfl,rfl,trivial⟩ ⟨J0,fun e=>nomatch e⟩ (fun T K F1 i u y ρ σ hy hJ=>?_) fun u ρ σ hJ=>?_
 ·have hm:∃ m:Nat,y=.int m∧1≤m∧m≤4096∧(i+1=3->m=1):=by
   match i,hy with
   | 0,hy=>cases Option.some.inj hy;exact ⟨4096,rfl,by decide,by decide,fun e=>nomatch e⟩
   | 1,hy=>cases Option.some.inj hy;exact ⟨64,rfl,by decide,by decide,fun e=>nomatch e⟩
   | 2,hy=>cases Option.some.inj hy;exact ⟨1,rfl,by decide,by decide,fun _=>rfl⟩
  obtain ⟨m,rfl,hm1,hm2,hm3⟩:=hm
  refine XL_v0 F1 P (b_pow (Int.natCast_nonneg m) (Int.ofNat_le.mpr hm2) (Sm.of (k:=2) (by decide) (by decide)) ?_)
  refine XS_WhileV F1 (fun u:Nat×Nat=>[("n",.im (.int u.1)),("found",.im (.int u.2)),("many",.im (.int m)),("step",.im (.int (2 ^ m)))]) (fun n u=>n=u.1∧BitsJ k u) _ u ⟨rfl,rfl,rfl,rfl,trivial⟩ ⟨rfl,hJ.1⟩ fun n u ρ σ hJ=>ET_v0 F1 P (dec_both (fun hge=>?_) fun hlt=>?_)
  ·have hge:2 ^ m≤u.1:=Int.ofNat_le.mp (cast_pow2 m▸hge)
   have nx:=hJ.2.next hm1 hge
   exact XL_v0 F1 P (b_div (Int.pow_ne_zero (by decide)) (sm_pow2 hm2) ⟨_,(u.1 / 2 ^ m,u.2+m),hJ.1▸nx.1,⟨somI (by refine (cast_pow2 ..)▸?_;exact (Int.ofNat_fdiv _ _).symm),rfl,rfl,rfl,trivial⟩,rfl,nx.2⟩)
  ·refine ⟨u,⟨rfl,rfl,trivial⟩,hJ.2,fun h3=>?_⟩
   replace hlt:=(hm3 h3)▸hlt
   exact Int.ofNat_lt.mp (Int.not_le.mp hlt)
 ·exact q (u.2+u.1) (hJ.1.fin (hJ.2 rfl))
noncomputable def rpow (a:Rat) (n:Int):Rat:=if n < 0 then a⁻¹ ^ n.natAbs else a ^ n.natAbs
theorem inv_small {a:Rat}{k:Nat} (h1:a.num.natAbs < 2 ^ k) (h2:a.den < 2 ^ k):a⁻¹.num.natAbs < 2 ^ k∧a⁻¹.den < 2 ^ k:=by
 refine (Rat.inv_def ..)▸?_;refine (Rat.num_divInt ..)▸?_;refine (Rat.den_divInt ..)▸?_
 refine ⟨Nat.lt_of_le_of_lt (Int.natAbs_ediv_le_natAbs _ _) ?_,?_⟩
 ·refine (Int.natAbs_mul ..)▸?_
  refine Nat.lt_of_le_of_lt (Nat.mul_le_mul_right _ (?_:a.num.sign.natAbs≤1)) (Nat.lt_of_le_of_lt (Nat.le_of_eq (Nat.one_mul _)) h2)
  refine (Int.natAbs_sign ..)▸?_;split <;> decide
 ·split
  ·exact Nat.one_lt_two_pow fun e=>by rw [e] at h2;exact a.den_nz (Nat.lt_one_iff.mp h2)
  ·exact Nat.lt_of_le_of_lt (Nat.div_le_self _ _) h1
set_option tactic.hygienic true in
theorem great_ok {b:Rat}{k:Nat} (h1:b.num.natAbs < 2 ^ k) (h2:b.den < 2 ^ k):1≤(if (b.den:Int) > absI b.num then (b.den:Int) else absI b.num)∧(if (b.den:Int) > absI b.num then (b.den:Int) else absI b.num) < 2 ^ k:=by
 refine (cast_pow2 ..)▸?_;refine (absI_eq ..)▸?_
 split
 ·exact ⟨Int.ofNat_le.mpr b.den_pos,Int.ofNat_lt.mpr h2⟩
 ·rename_i h
  exact ⟨Int.le_trans (Int.ofNat_le.mpr b.den_pos) (Int.not_lt.mp h),Int.ofNat_lt.mpr h1⟩
theorem few_bits {m b k:Nat} (hb:b≤k) (h:m * k≤200000):¬ ((m:Int) * b > 200000) :=
 Int.not_lt.mpr (Int.ofNat_le.mpr (Nat.le_trans (Nat.mul_le_mul_left m hb) h))
theorem fn_rpower (P:Pg c) {a:Rat}{n:Int}{k:Nat} (h1:a.num.natAbs < 2 ^ k) (h2:a.den < 2 ^ k) (hk:k≤2000) (hn:n.natAbs≤4096) (hnk:n.natAbs * k≤200000) (h0:a≠0∨0≤n) :
  Fn c 7 "rpower" [.val (ratP a),.val (.int n)] (fun r=>r=⟨.val (ratP (rpow a n)),true⟩) False:=by
 have pk:(2:Nat) ^ k≤2 ^ 2000:=Nat.pow_le_pow_right (by decide) hk
 refine in2 P 13 "a" "n" fun f i P=>XL_cutH (fun u:Rat×Bool=>[("a",⟨.val (ratP u.1),u.2⟩),("n",.im (.int n.natAbs))]) (fun u _=>u.1.num.natAbs < 2 ^ k∧u.1.den < 2 ^ k∧rpow a n=u.1 ^ n.natAbs) (XS_v i.ok P (dec_both (fun hneg=>?_) fun hpos=>?_)) fun u ρ σ h=>?_
 ·have i:=inv_small h1 h2
  exact (fn_rinv P ⟨Nat.lt_of_lt_of_le h1 pk,Nat.lt_of_lt_of_le h2 pk⟩ (h0.resolve_right (Int.not_le.mpr hneg))).is ⟨(a⁻¹,true),⟨rfl,somI (by lia),trivial⟩,i.1,i.2,if_pos hneg⟩
 ·exact ⟨(a,false),⟨rfl,somI (by lia),trivial⟩,h1,h2,if_neg hpos⟩
 ·have g:=great_ok h.1 h.2.1
  refine XL_step (XS_v i.ok P (t_abs (t_max (XL_cutH (fun _:Unit=>[("a",⟨.val (ratP u.1),u.2⟩),("n",.im (.int n.natAbs))]) (fun _ _=>True) (XS_v i.ok P (dec_both (fun _=>dec_both (fun _=>fn_bits P g.1 g.2 fun m hm=>?_) ?_) ?_)) fun _ ρ σ _=>XL_v i.ok P ?_))))
  ·exact b_mul (mulOk_one (Nat.lt_of_le_of_lt (show (n.natAbs:Int).natAbs≤4096 from hn) (by decide))) (both_f (decide_eq_false (few_bits hm hnk)) ⟨(),⟨rfl,rfl,trivial⟩,trivial⟩)
  ·exact fun _=>⟨(),⟨rfl,rfl,trivial⟩,trivial⟩
  ·exact fun _=>⟨(),⟨rfl,rfl,trivial⟩,trivial⟩
  ·refine b_pow (Int.natCast_nonneg _) (Int.ofNat_le.mpr hn) (Sm.of h.1 (Nat.le_trans hk (by decide))) (b_pow (Int.natCast_nonneg _) (Int.ofNat_le.mpr hn) (Sm.of (k:=k) h.2.1 (Nat.le_trans hk (by decide))) (ret_of ?_))
   rw [h.2.2];rw [ratP];rw [Rat.num_pow];rw [Rat.den_pow];rw [Int.natCast_pow];rfl
end
end
section
set_option genInjectivity true in
inductive T where
 | num (p q:Int) | sym (s:Str) | pow (b e:T) | sum (ts:List T) | prod (ts:List T)
noncomputable def T.kind:T->Str
 | .num ..=>"num" | .sym ..=>"sym" | .pow ..=>"pow" | .sum ..=>"sum" | .prod ..=>"prod"
mutual
noncomputable def T.args:T->List PV
 | .num p q=>[.int p,.int q]
 | .sym s=>[.str s]
 | .pow b e=>[.tup (.str b.kind :: b.args),.tup (.str e.kind :: e.args)]
 | .sum ts=>[.tup (T.encs ts)]
 | .prod ts=>[.tup (T.encs ts)]
noncomputable def T.encs:List T->List PV
 | []=>[]
 | t :: ts=>.tup (.str t.kind :: t.args) :: T.encs ts
end
noncomputable def T.enc (t:T):PV:=.tup (.str t.kind :: t.args)
theorem T.encs_map:∀ ts,T.encs ts=ts.map T.enc
 | []=>rfl
 | t :: ts=>congrArg (t.enc :: ·) (T.encs_map ts)
theorem T.enc_sum (ts:List T):(T.sum ts).enc=.tup [.str "sum",.tup (ts.map T.enc)]:=T.encs_map ts▸rfl
theorem T.enc_prod (ts:List T):(T.prod ts).enc=.tup [.str "prod",.tup (ts.map T.enc)]:=T.encs_map ts▸rfl
noncomputable def T.nm (r:Rat):T:=.num r.num r.den
noncomputable def T.isNum:T->Bool
 | .num ..=>true
 | _=>false
noncomputable def T.isProd:T->Bool
 | .prod ..=>true
 | _=>false
noncomputable def T.isSum:T->Bool
 | .sum ..=>true
 | _=>false
noncomputable def T.val:T->Rat
 | .num p q=>Rat.divInt p q
 | _=>0
theorem T.val_nm (r:Rat):(T.nm r).val=r:=Rat.num_divInt_den r
noncomputable def T.bare:T->List T
 | .prod ts=>ts.filter fun t=>!t.isNum
 | t=>[t]
noncomputable def T.num1:T->Rat
 | .num p q=>Rat.divInt p q
 | _=>1
noncomputable def T.front:T->Rat
 | .prod (t :: _)=>t.num1
 | _=>1
noncomputable def T.base:T->T
 | .pow b _=>b
 | t=>t
noncomputable def T.exp:T->T
 | .pow _ e=>e
 | _=>.num 1 1
set_option genInjectivity true in
inductive O where
 | q (r:Rat) | s (x:Str) | l (xs:List O)
mutual
noncomputable def O.cmp:O->O->Ordering
 | .q a,.q b=>if a < b then .lt else if a=b then .eq else .gt
 | .q _,_=>.lt
 | .s _,.q _=>.gt
 | .s x,.s y=>if x=y then .eq else if strLt x y=true then .lt else .gt
 | .s _,.l _=>.lt
 | .l xs,.l ys=>O.cmps xs ys
 | .l _,_=>.gt
noncomputable def O.cmps:List O->List O->Ordering
 | [],[]=>.eq
 | [],_ :: _=>.gt
 | _ :: _,[]=>.lt
 | x :: xs,y :: ys=>(O.cmp x y).then (O.cmps xs ys)
end
noncomputable def sgnO:Ordering->Int
 | .lt=>-1 | .eq=>0 | .gt=>1
mutual
noncomputable def T.code:T->O
 | .num p q=>.l [.q 1,.q (Rat.divInt p q)]
 | .prod ts=>.l [.q 0,.l (T.fcodes ts),.q (T.front (.prod ts))]
 | .sym x=>.l [.q 0,.l [.l [.l [.q 0,.s x],.q (-1)]],.q 1]
 | .sum ts=>.l [.q 0,.l [.l [.l [.q 2,.l (T.codes ts)],.q (-1)]],.q 1]
 | .pow b e=>.l [.q 0,.l [.l [T.bcode b,.q (-e.val)]],.q 1]
noncomputable def T.bcode:T->O
 | .sym x=>.l [.q 0,.s x]
 | .sum ts=>.l [.q 2,.l (T.codes ts)]
 | _=>.l [.q 9]
noncomputable def T.fcode:T->O
 | .pow b e=>.l [T.bcode b,.q (-e.val)]
 | .sym x=>.l [.l [.q 0,.s x],.q (-1)]
 | .sum ts=>.l [.l [.q 2,.l (T.codes ts)],.q (-1)]
 | _=>.l [.l [.q 9],.q (-1)]
noncomputable def T.fcodes:List T->List O
 | []=>[]
 | t :: ts=>if t.isNum then T.fcodes ts else T.fcode t :: T.fcodes ts
noncomputable def T.codes:List T->List O
 | []=>[]
 | t :: ts=>t.code :: T.codes ts
end
theorem T.codes_map:∀ ts,T.codes ts=ts.map T.code
 | []=>rfl
 | t :: ts=>congrArg (t.code :: ·) (T.codes_map ts)
theorem T.fcodes_map:∀ ts,T.fcodes ts=(ts.filter fun t=>!t.isNum).map T.fcode
 | []=>rfl
 | t :: ts=>by
  refine List.filter_cons▸?_
  show (if t.isNum then T.fcodes ts else T.fcode t :: T.fcodes ts)=_
  refine (T.fcodes_map ts)▸?_
  cases t.isNum <;> rfl
theorem T.fcode_eq (t:T) (h:t.base.isNum=false) (h2:∀ ts,t.base≠.prod ts) (h3:∀ b e,t.base≠.pow b e):t.fcode=.l [t.base.bcode,.q (-t.exp.val)]:=by
 have f:∀ o:O,O.l [o,.q (-1)]=.l [o,.q (-(T.val (.num 1 1)))]:=fun o=>by exact (show T.val (.num 1 1)=1 by decide +kernel)▸rfl
 cases t with
 | num p q=>cases h
 | prod ts=>exact absurd rfl (h2 ts)
 | pow b e=>rfl
 | _=>exact f _
theorem T.code_eq (t:T) (h:t.isNum=false):t.code=.l [.q 0,.l (t.bare.map T.fcode),.q t.front]:=by
 cases t with
 | num p q=>cases h
 | prod ts=>exact congrArg (fun l=>O.l [.q 0,.l l,.q _]) (T.fcodes_map ts)
 | _=>rfl
mutual
noncomputable def T.cm:T->Prop
 | .num p q=>∃ r:Rat,p=r.num∧q=r.den∧r.num.natAbs < 2 ^ 2000∧r.den < 2 ^ 2000
 | .sym _=>True
 | .pow b e=>T.cmB b∧T.cm e∧e.isNum=true
 | .sum ts=>T.cms ts∧ts.length≤1000000
 | .prod ts=>T.cmf ts∧ts.length≤1000000∧ts≠[]
noncomputable def T.cmB:T->Prop
 | .sym _=>True
 | .sum ts=>T.cms ts∧ts.length≤1000000
 | _=>False
noncomputable def T.cms:List T->Prop
 | []=>True
 | t :: ts=>t.cm∧T.cms ts
noncomputable def T.cmf:List T->Prop
 | []=>True
 | t :: ts=>t.isProd=false∧t.cm∧T.cmf ts
end
mutual
noncomputable def T.sz:T->Nat
 | .num ..=>1
 | .sym ..=>1
 | .pow b e=>b.sz+e.sz+1
 | .sum ts=>T.szs ts+1
 | .prod ts=>T.szs ts+1
noncomputable def T.szs:List T->Nat
 | []=>0
 | t :: ts=>max t.sz (T.szs ts)
end
end
section
noncomputable def csOk (scope sc:Scope):Bool:=scope.kind == .function && scope.names.all fun x=>match x.2 with
 | .free=>scope.names.lookup x.1 == some .free && sc.names.lookup x.1 == some .cell
 | .local=>scope.names.lookup x.1 == some .local
 | .cell=>false
 | _=>true
theorem CScope.of {scope sc:Scope} (h:csOk scope sc=true):CScope scope sc:=by
 unfold csOk at h
 simp only [Bool.and_eq_true,List.all_eq_true] at h
 obtain ⟨h1,h2⟩:=h
 refine ⟨by simpa using h1,fun x hx e=>?_,fun x hx e=>?_,fun x hx e=>?_⟩
 ·have:=h2 x hx;rw [e] at this;simpa using this
 ·have:=h2 x hx;rw [e] at this;simpa using this
 ·have:=h2 x hx;rw [e] at this;simp at this
theorem CScope.nofree {scope:Scope} (h:(scope.names.all fun x=>x.2 != .free)=true):∀ x∈scope.names,x.2=.free->False:=fun x hx e=>by
 have:=List.all_eq_true.mp h x hx
 replace this:=e▸this;cases this
theorem onlyFrees {scope:Scope} (ys:List Str) (h:(scope.names.all fun x=>x.2 != .free || ys.contains x.1)=true) (x:Str×NameKind) (hx:x∈scope.names) (e:x.2=.free):x.1∈ys:=by
 have:=List.all_eq_true.mp h x hx
 replace this:=e▸this
 exact List.elem_iff.mp this
theorem onlyFree {scope:Scope} (y:Str) (h:(scope.names.all fun x=>x.2 != .free || x.1 == y)=true) (x:Str×NameKind) (hx:x∈scope.names) (e:x.2=.free):x.1=y:=by
 have:=List.all_eq_true.mp h x hx
 replace this:=e▸this
 exact eq_of_beq this
section
variable {c:Cx}
theorem isNum_dec (t:T):decide (t.kind="num")=t.isNum:=by cases t <;> rfl
theorem fn_isnumT (P:Pg c) {t:T}:Fn c 1 "is_num" [.val t.enc] (fun r=>r=⟨.val (.bool t.isNum),true⟩) False:=isNum_dec t▸fn_is_num P
theorem bare_A (P:Pg c) {k:Str}{xs:List PV} (hk:k≠"prod"):Fn c 3 "bare_factors" [.val (.tup (.str k :: xs))] (fun r=>∃ a,r=⟨.lst a [.tup (.str k :: xs)],true⟩) False:=by
 refine in1 P 24 "term" fun f i P=>?_
 obtain ⟨F,rfl,own,cells,hz⟩:=i
 exact XL_v F P (both_t (ndec hk) fun a=>⟨a,rfl⟩)
theorem bare_B (P:Pg c) {ts:List T} (hl:ts.length≤1000000):Fn c 3 "bare_factors" [.val (.tup [.str "prod",.tup (ts.map T.enc)])] (fun r=>∃ a,r=⟨.lst a ((ts.filter fun t=>!t.isNum).map T.enc),true⟩) False:=by
 refine in1 P 24 "term" fun f i P=>?_
 obtain ⟨F,rfl,own,cells,hz⟩:=i
 refine XL_v F P ?_
 refine EV_Comp F (CScope.of (by decide +kernel)) (fun x hx e=>(CScope.nofree (by decide +kernel) x hx e).elim) (fun g=>.name (.inl (by decide +kernel))) (by decide +kernel) (ES.T F (ES_val F ?_))
 refine EV_v F P (comp_filter (fun t=>!t.isNum) P hl (fun g hc G P t ht=>?_) fun a=>⟨a,rfl⟩)
 exact ET_v G P ((fn_isnumT P).is ⟨fun e=>EV_v G P ⟨_,rfl,(if_pos e).symm,rfl⟩,fun e=>⟨(if_neg (Bool.eq_false_iff.mp e)).symm,rfl⟩⟩)
theorem fn_bare (P:Pg c) {t:T} (hl:∀ ts,t=.prod ts->ts.length≤1000000):Fn c 3 "bare_factors" [.val t.enc] (fun r=>∃ a,r=⟨.lst a (t.bare.map T.enc),true⟩) False:=by
 cases t with
 | prod ts=>exact T.enc_prod ts▸bare_B P (hl ts rfl)
 | _=>exact bare_A P (of_decide_eq_false rfl)
theorem fn_bareE (P:Pg c) {t:T}{d:Nat}{Q:RV->Prop}{X:Prop} (hl:∀ ts,t=.prod ts->ts.length≤1000000) (q:∀ a,Q ⟨.lst a (t.bare.map T.enc),true⟩) (hd:3≤d):Fn c d "bare_factors" [.val t.enc] Q X :=
 (fn_bare P hl).does (fun r _ hq_=>by obtain ⟨a,e⟩:=hq_;exact e▸q a) hd
theorem isnum_is (P:Pg c) {t:T}{b:Bool} (h:t.isNum=b):Fn c 1 "is_num" [.val t.enc] (fun r=>r=⟨.val (.bool b),true⟩) False:=h▸fn_isnumT P
end
end
section
theorem strLt_irrefl (x:Str):strLt x x=false:=by
 unfold strLt
 exact decide_eq_false (List.lt_irrefl _)
theorem strLt_trans {x y z:Str} (h:strLt x y=true) (k:strLt y z=true):strLt x z=true:=by
 unfold strLt at *
 exact decide_eq_true (List.lt_trans (of_decide_eq_true h) (of_decide_eq_true k))
theorem strLt_tri {x y:Str} (h:x≠y):strLt x y=true↔¬ strLt y x=true:=by
 unfold strLt
 simp only [decide_eq_true_eq]
 refine ⟨fun h1 h2=>List.lt_irrefl _ (List.lt_trans h1 h2),fun h1=>?_⟩
 have h2:x.cps.toList≤y.cps.toList:=h1
 rcases List.le_iff_lt_or_eq.mp h2 with h3 | h3
 ·exact h3
 ·exfalso;apply h
  cases x;cases y
  simp only [Array.toList_inj] at h3
  subst h3;rfl
theorem rat_lt_asymm {a b:Rat} (h:a < b) (k:b < a):False:=by rw [Rat.lt_iff] at *;lia
theorem rat_lt_trans {a b c:Rat} (h:a < b) (k:b < c):a < c :=
 Rat.lt_iff_le_and_ne.mpr ⟨Rat.le_trans (Rat.le_of_lt h) (Rat.le_of_lt k),by rintro rfl;exact rat_lt_asymm h k⟩
noncomputable def ifQ (a b:Rat):Ordering:=if a < b then .lt else if a=b then .eq else .gt
noncomputable def ifS (x y:Str):Ordering:=if x=y then .eq else if strLt x y=true then .lt else .gt
theorem ifQ_eq {a b:Rat}:ifQ a b=.eq↔a=b:=by
 unfold ifQ
 by_cases h:a < b
 ·refine (if_pos h)▸?_;exact ⟨nofun,fun e=>absurd (e▸h) Rat.lt_irrefl⟩
 ·refine (if_neg h)▸?_
  by_cases h':a=b
  ·refine (if_pos h')▸?_;exact ⟨fun _=>h',fun _=>rfl⟩
  ·refine (if_neg h')▸?_;exact ⟨nofun,fun e=>absurd e h'⟩
theorem ifQ_lt {a b:Rat}:ifQ a b=.lt↔a < b:=by
 unfold ifQ
 by_cases h:a < b
 ·refine (if_pos h)▸?_;exact ⟨fun _=>h,fun _=>rfl⟩
 ·refine (if_neg h)▸?_
  refine ⟨fun e=>?_,fun e=>absurd e h⟩
  split at e <;> cases e
theorem ifQ_swap {a b:Rat}:(ifQ a b).swap=ifQ b a:=by
 cases h:ifQ a b with
 | eq=>refine (ifQ_eq.mp h)▸?_;refine (ifQ_eq.mpr rfl).symm▸?_;rfl
 | lt =>
  have h:=ifQ_lt.mp h
  unfold ifQ
  refine (if_neg (fun k=>rat_lt_asymm h k))▸?_;rw [if_neg (fun e=>Rat.lt_irrefl (e▸h))];rfl
 | gt =>
  have h1:¬ a < b:=fun k=>by cases (ifQ_lt.mpr k).symm.trans h
  have h2:a≠b:=fun k=>by cases (ifQ_eq.mpr k).symm.trans h
  exact (ifQ_lt.mpr (Rat.lt_iff_le_and_ne.mpr ⟨Rat.not_lt.mp h1,Ne.symm h2⟩)).symm
theorem ifS_eq {a b:Str}:ifS a b=.eq↔a=b:=by
 unfold ifS
 by_cases h:a=b
 ·refine (if_pos h)▸?_;exact ⟨fun _=>h,fun _=>rfl⟩
 ·refine (if_neg h)▸?_
  refine ⟨fun e=>?_,fun e=>absurd e h⟩
  split at e <;> cases e
theorem ifS_lt {a b:Str}:ifS a b=.lt↔strLt a b=true:=by
 unfold ifS
 by_cases h:a=b
 ·refine (if_pos h)▸?_;refine h▸?_;refine (strLt_irrefl ..)▸?_;exact ⟨nofun,nofun⟩
 ·refine (if_neg h)▸?_
  by_cases k:strLt a b=true
  ·refine (if_pos k)▸?_;exact ⟨fun _=>k,fun _=>rfl⟩
  ·refine (if_neg k)▸?_;exact ⟨nofun,fun e=>absurd e k⟩
theorem ifS_swap {a b:Str}:(ifS a b).swap=ifS b a:=by
 cases h:ifS a b with
 | eq=>refine (ifS_eq.mp h)▸?_;refine (ifS_eq.mpr rfl).symm▸?_;rfl
 | lt =>
  have k:=ifS_lt.mp h
  have n:a≠b:=fun e=>by cases (ifS_eq.mpr e).symm.trans h
  unfold ifS
  refine (if_neg (Ne.symm n))▸?_;refine (if_neg ((strLt_tri n).mp k))▸?_;rfl
 | gt =>
  have h1:¬ strLt a b=true:=fun k=>by cases (ifS_lt.mpr k).symm.trans h
  have h2:a≠b:=fun k=>by cases (ifS_eq.mpr k).symm.trans h
  exact (ifS_lt.mpr ((strLt_tri (Ne.symm h2)).mpr h1)).symm
theorem O.ind {p:O->Prop} (hq:∀ r,p (.q r)) (hs:∀ x,p (.s x)) (hl:∀ xs,(∀ x∈xs,p x)->p (.l xs)) (x:O):p x :=
 O.rec (motive_1:=p) (motive_2:=fun xs=>∀ x∈xs,p x) hq hs hl (fun _ h=>(List.not_mem_nil h).elim) (fun a xs ha hx t h=>(List.mem_cons.mp h).elim (fun e=>e▸ha) (hx t)) x
theorem O.cmps_eq:∀ {xs ys:List O},(∀ x∈xs,∀ y,O.cmp x y=.eq↔x=y)->(O.cmps xs ys=.eq↔xs=ys)
 | [],[],_=>⟨fun _=>rfl,fun _=>rfl⟩
 | [],_ :: _,_=>⟨nofun,nofun⟩
 | _ :: _,[],_=>⟨nofun,nofun⟩
 | x :: xs,y :: ys,h=>by
  rw [List.cons.injEq];rw [← h x (.head _) y];rw [← O.cmps_eq fun z hz=>h z (.tail _ hz)]
  show (O.cmp x y).then (O.cmps xs ys)=.eq↔_
  cases O.cmp x y with
  | eq=>exact ⟨fun e=>⟨rfl,e⟩,fun e=>e.2⟩
  | _=>exact ⟨nofun,fun e=>nomatch e.1⟩
set_option tactic.hygienic true in
theorem O.cmp_eq (x y:O):O.cmp x y=.eq↔x=y:=by
 refine O.ind (p:=fun x=>∀ y,O.cmp x y=.eq↔x=y) (fun a y=>?_) (fun a y=>?_) (fun xs h y=>?_) x y <;> cases y
 case refine_1.q b=>exact ifQ_eq.trans ⟨congrArg O.q,O.q.inj⟩
 case refine_2.s b=>exact ifS_eq.trans ⟨congrArg O.s,O.s.inj⟩
 case refine_3.l b=>exact (O.cmps_eq h).trans ⟨congrArg O.l,O.l.inj⟩
 all_goals exact ⟨nofun,nofun⟩
theorem O.cmps_swap:∀ {xs ys:List O},(∀ x∈xs,∀ y,(O.cmp x y).swap=O.cmp y x)->(O.cmps xs ys).swap=O.cmps ys xs
 | [],[],_=>rfl
 | [],_ :: _,_=>rfl
 | _ :: _,[],_=>rfl
 | x :: xs,y :: ys,h=>by
  show ((O.cmp x y).then (O.cmps xs ys)).swap=(O.cmp y x).then (O.cmps ys xs)
  refine (h x (.head _) y)▸?_;refine (O.cmps_swap fun z hz=>h z (.tail _ hz))▸?_
  cases O.cmp x y <;> rfl
set_option tactic.hygienic true in
theorem O.cmp_swap (x y:O):(O.cmp x y).swap=O.cmp y x:=by
 refine O.ind (p:=fun x=>∀ y,(O.cmp x y).swap=O.cmp y x) (fun a y=>?_) (fun a y=>?_) (fun xs h y=>?_) x y <;> cases y
 case refine_1.q b=>exact ifQ_swap
 case refine_2.s b=>exact ifS_swap
 case refine_3.l b=>exact O.cmps_swap h
 all_goals rfl
theorem O.cmps_lt_trans:∀ {xs ys zs:List O},(∀ x∈xs,∀ y z,O.cmp x y=.lt->O.cmp y z=.lt->O.cmp x z=.lt)->O.cmps xs ys=.lt->O.cmps ys zs=.lt->O.cmps xs zs=.lt
 | [],[],_,_,h,_=>nomatch h
 | [],_ :: _,_,_,h,_=>nomatch h
 | _ :: _,[],[],_,_,k=>nomatch k
 | _ :: _,[],_ :: _,_,_,k=>nomatch k
 | _ :: _,_ :: _,[],_,_,_=>rfl
 | x :: xs,y :: ys,z :: zs,t,h,k=>by
  have h:(O.cmp x y).then (O.cmps xs ys)=.lt:=h
  have k:(O.cmp y z).then (O.cmps ys zs)=.lt:=k
  show (O.cmp x z).then (O.cmps xs zs)=.lt
  cases h1:O.cmp x y with
  | gt=>rw [h1] at h;cases h
  | lt =>
   cases k1:O.cmp y z with
   | lt=>refine (t x (.head _) y z h1 k1).symm▸?_;rfl
   | eq=>refine ((O.cmp_eq y z).mp k1)▸?_;refine h1.symm▸?_;rfl
   | gt=>rw [k1] at k;cases k
  | eq =>
   rw [h1] at h
   refine ((O.cmp_eq x y).mp h1)▸?_
   cases k1:O.cmp y z with
   | lt=>rfl
   | eq =>
    rw [k1] at k
    exact O.cmps_lt_trans (fun z hz=>t z (.tail _ hz)) h k
   | gt=>rw [k1] at k;cases k
set_option tactic.hygienic true in
theorem O.cmp_lt_trans (x y z:O):O.cmp x y=.lt->O.cmp y z=.lt->O.cmp x z=.lt:=by
 refine O.ind (p:=fun x=>∀ y z,O.cmp x y=.lt->O.cmp y z=.lt->O.cmp x z=.lt) (fun a y z h k=>?_) (fun a y z h k=>?_) (fun xs ih y z h k=>?_) x y z <;> cases z <;> cases y
 case refine_1.q.q c b=>exact ifQ_lt.mpr (rat_lt_trans (ifQ_lt.mp h) (ifQ_lt.mp k))
 case refine_2.s.s c b=>exact ifS_lt.mpr (strLt_trans (ifS_lt.mp h) (ifS_lt.mp k))
 case refine_3.l.l c b=>exact O.cmps_lt_trans ih h k
 all_goals first | rfl | (cases h;done) | (cases k;done)
end
section
theorem T.ind {p:T->Prop} (hn:∀ a b,p (.num a b)) (hs:∀ x,p (.sym x)) (hp:∀ b e,p b->p e->p (.pow b e)) (hS:∀ ts,(∀ t∈ts,p t)->p (.sum ts)) (hP:∀ ts,(∀ t∈ts,p t)->p (.prod ts)) (t:T):p t :=
 T.rec (motive_1:=p) (motive_2:=fun ts=>∀ t∈ts,p t) hn hs hp hS hP (fun _ h=>(List.not_mem_nil h).elim) (fun a ts ha hts t h=>(List.mem_cons.mp h).elim (fun e=>e▸ha) (hts t)) t
theorem nbs_all:∀ {xs:List PV},(∀ x∈xs,x.nb=true)->PV.nbs xs=true
 | [],_=>rfl
 | x :: xs,h=>Bool.and_eq_true _ _▸⟨h x (.head _),nbs_all fun y hy=>h y (.tail _ hy)⟩
theorem T.encs_nb {ts:List T} (h:∀ t∈ts,t.enc.nb=true):PV.nbs (T.encs ts)=true :=
 nbs_all fun x hx=>by
  rw [T.encs_map] at hx
  obtain ⟨t,ht,rfl⟩:=List.mem_map.mp hx
  exact h t ht
theorem T.enc_nb (t:T):t.enc.nb=true :=
 T.ind (p:=fun t=>t.enc.nb=true) (fun _ _=>rfl) (fun _=>rfl) (fun b e hb he=>by show (b.enc.nb && (e.enc.nb && true))=true;refine hb.symm▸?_;refine he.symm▸?_;rfl)
  (fun ts h=>(Bool.and_true _).trans (T.encs_nb h)) (fun ts h=>(Bool.and_true _).trans (T.encs_nb h)) t
theorem encs_inj:∀ {as bs:List T},(∀ a∈as,∀ b,a.enc=b.enc->a=b)->T.encs as=T.encs bs->as=bs
 | [],[],_,_=>rfl
 | [],_ :: _,_,h=>nomatch h
 | _ :: _,[],_,h=>nomatch h
 | a :: as,b :: bs,k,h=>by
  injection h with h1 h2
  refine (k a (.head _) b h1)▸?_;exact (encs_inj (fun a ha=>k a (.tail _ ha)) h2)▸rfl
theorem T.enc_inj (a b:T) (h:a.enc=b.enc):a=b:=by
 have dec:∀ {a b:T},a.enc=b.enc->a.kind=b.kind∧a.args=b.args:=fun h=>by
  injection h with h
  injection h with h1 h2
  injection h1 with h1
  exact ⟨h1,h2⟩
 refine T.ind (p:=fun a=>∀ b,a.enc=b.enc->a=b) (fun p q b h=>?_) (fun x b h=>?_) (fun b e hb he c h=>?_) (fun ts ht b h=>?_) (fun ts ht b h=>?_) a b h
 all_goals obtain ⟨hk,ha⟩:=dec h
 ·cases b with
  | num=>injection ha with h1 h2;injection h2 with h2;injection h1 with h1;injection h2 with h2;refine h1▸?_;exact h2▸rfl
  | _=>exact absurd hk (of_decide_eq_false rfl)
 ·cases b with
  | sym=>injection ha with h1;injection h1 with h1;exact h1▸rfl
  | _=>exact absurd hk (of_decide_eq_false rfl)
 ·cases c with
  | pow b' e'=>injection ha with h1 h2;injection h2 with h2;refine (hb b' h1)▸?_;exact (he e' h2)▸rfl
  | _=>exact absurd hk (of_decide_eq_false rfl)
 ·cases b with
  | sum us=>injection ha with h1;injection h1 with h1;exact (encs_inj ht h1)▸rfl
  | _=>exact absurd hk (of_decide_eq_false rfl)
 ·cases b with
  | prod us=>injection ha with h1;injection h1 with h1;exact (encs_inj ht h1)▸rfl
  | _=>exact absurd hk (of_decide_eq_false rfl)
mutual
noncomputable def T.dp:T->Nat
 | .num ..=>1
 | .sym ..=>1
 | .pow b e=>max b.dp e.dp+1
 | .sum ts=>T.dps ts+2
 | .prod ts=>T.dps ts+2
noncomputable def T.dps:List T->Nat
 | []=>0
 | t :: ts=>max t.dp (T.dps ts)
end
theorem T.encs_depth:∀ {ts:List T},(∀ t∈ts,t.enc.depth=t.dp)->PV.depths (T.encs ts)=T.dps ts
 | [],_=>rfl
 | t :: ts,h=>by
  show max t.enc.depth (PV.depths (T.encs ts))=max t.dp (T.dps ts)
  refine (h t (.head _))▸?_;exact (T.encs_depth fun t ht=>h t (.tail _ ht))▸rfl
theorem T.enc_depth (t:T):t.enc.depth=t.dp :=
 T.ind (p:=fun t=>t.enc.depth=t.dp) (fun _ _=>rfl) (fun _=>rfl) (fun b e hb he=>by
   show max 0 (max b.enc.depth (max e.enc.depth 0))+1=max b.dp e.dp+1
   refine hb▸?_;refine he▸?_;refine (Nat.zero_max ..)▸?_;exact (Nat.max_zero ..)▸rfl)
  (fun ts h=>congrArg (·+2) (T.encs_depth h)) (fun ts h=>congrArg (·+2) (T.encs_depth h)) t
theorem T.encs_key {n:Nat}:∀ {ts:List T},(∀ t∈ts,t.dp≤n->t.enc.key n=true)->T.dps ts≤n->PV.keys n (T.encs ts)=true
 | [],_,_=>by cases n <;> rfl
 | t :: ts,h,hd=>by
  have h1:t.enc.key n=true:=h t (.head _) (Nat.le_trans (Nat.le_max_left ..) hd)
  have h2:=T.encs_key (fun t ht=>h t (.tail _ ht)) (Nat.le_trans (Nat.le_max_right ..) hd)
  refine (show PV.keys n (T.encs (t :: ts))=(t.enc.key n && PV.keys n (T.encs ts)) by cases n <;> rfl).symm▸?_;refine h1.symm▸?_;refine h2.symm▸?_;rfl
theorem T.enc_key (t:T):∀ n:Nat,t.dp≤n->t.enc.key n=true:=by
 have list:∀ {ts:List T},(∀ t∈ts,∀ n:Nat,t.dp≤n->t.enc.key n=true)->∀ {κ:Str} (n:Nat),T.dps ts+2≤n->(PV.tup [.str κ,.tup (T.encs ts)]).key n=true:=fun h κ n hn=>by
  match n,hn with
  | n+2,hn =>
   show (PV.keys n (T.encs _) && true)=true
   refine (T.encs_key (fun t ht=>h t ht n) (Nat.le_of_add_le_add_right hn)).symm▸?_;rfl
 refine T.ind (p:=fun t=>∀ n:Nat,t.dp≤n->t.enc.key n=true) (fun p q n h=>?_) (fun x n h=>?_) (fun b e hb he n h=>?_) (fun ts ht n h=>list ht n h) (fun ts ht n h=>list ht n h) t
 ·cases n with
  | zero=>cases h
  | succ n=>cases n <;> rfl
 ·cases n with
  | zero=>cases h
  | succ n=>cases n <;> rfl
 ·cases n with
  | zero=>cases h
  | succ n =>
   have h:max b.dp e.dp≤n:=Nat.le_of_succ_le_succ h
   refine (show (T.pow b e).enc.key (n+1)=(b.enc.key n && (e.enc.key n && true)) by cases n <;> rfl).symm▸?_;refine (hb n (Nat.le_trans (Nat.le_max_left ..) h)).symm▸?_;refine (he n (Nat.le_trans (Nat.le_max_right ..) h)).symm▸?_;rfl
end
section
section
variable {c:Cx}
theorem rat_eq_iff {a b:Rat}:a=b↔a.num * b.den=b.num * a.den :=
 ⟨fun h=>by exact h▸rfl,fun h=>Rat.le_antisymm ((Rat.le_iff ..).mpr (Int.le_of_eq h)) ((Rat.le_iff ..).mpr (Int.le_of_eq h.symm))⟩
theorem sgn_rat (a b:Rat):sgn (a.num * b.den) (b.num * a.den)=sgnO (O.cmp (.q a) (.q b)):=by
 show _=sgnO (ifQ a b)
 unfold sgn ifQ
 by_cases h:a=b
 ·rw [if_pos (rat_eq_iff.mp h)];rw [if_neg (h▸Rat.lt_irrefl)];rw [if_pos h];rfl
 ·rw [if_neg (fun e=>h (rat_eq_iff.mpr e))];rw [if_neg h]
  by_cases h':a < b
  ·rw [if_pos ((Rat.lt_iff a b).mp h')];rw [if_pos h'];rfl
  ·rw [if_neg (fun e=>h' ((Rat.lt_iff a b).mpr e))];rw [if_neg h'];rfl
theorem neg_lt {a b:Rat}:b < a↔-a < -b:=by
 rw [Rat.lt_iff];rw [Rat.lt_iff]
 show _↔-a.num * b.den < -b.num * a.den
 rw [Int.neg_mul];rw [Int.neg_mul];rw [Int.neg_lt_neg_iff]
theorem cmp_neg (a b:Rat):O.cmp (.q b) (.q a)=O.cmp (.q (-a)) (.q (-b)):=by
 show ifQ b a=ifQ (-a) (-b)
 cases h:ifQ b a with
 | lt=>exact (ifQ_lt.mpr (neg_lt.mp (ifQ_lt.mp h))).symm
 | eq=>exact (ifQ_eq.mpr (by exact (ifQ_eq.mp h)▸rfl)).symm
 | gt =>
  rw [← ifQ_swap] at h ⊢
  have h:ifQ a b=.lt:=by cases e:ifQ a b <;> rw [e] at h <;> first | rfl | cases h
  refine (ifQ_lt.mpr (neg_lt.mp (ifQ_lt.mp h)))▸?_;rfl
theorem sgnO_zero {o:Ordering}:sgnO o=0↔o=.eq:=by cases o <;> exact ⟨fun h=>(by cases h;try rfl),fun h=>(by cases h;try rfl)⟩
theorem fn_compare_values (P:Pg c) {a b:Rat} (ha:Sq a) (hb:Sq b):Fn c 3 "compare_values" [.val (ratP a),.val (ratP b)] (fun r=>r=⟨.val (.int (sgnO (O.cmp (.q a) (.q b)))),true⟩) False :=
 go2 P 23 "one" "other" fun f F P _=>b_mul (mulOk_of (sm2000 ha.1) (sm2000 hb.d)) (b_mul (mulOk_of (sm2000 hb.1) (sm2000 ha.d)) ((fn_sign_ints P).is (ret_of (congrArg PV.int (sgn_rat a b)))))
theorem fn_numofT (P:Pg c) {p q:Int}:Fn c 1 "num_of" [.val (T.num p q).enc] (fun r=>r=⟨.val (.tup [.int p,.int q]),true⟩) False:=fn_num_of P
noncomputable def NumOk (t:T):Prop:=∃ r:Rat,t=T.nm r∧Sq r
theorem NumOk.of {t:T} (h:t.cm) (hn:t.isNum=true):NumOk t:=by
 cases t with
 | num p q=>obtain ⟨r,rfl,rfl,h⟩:=h;exact ⟨r,rfl,h⟩
 | _=>cases hn
theorem fn_compare_exponents (P:Pg c) {a b:T} (ha:NumOk a) (hb:NumOk b):Fn c 5 "compare_exponents" [.val a.enc,.val b.enc] (fun r=>r=⟨.val (.int (sgnO (O.cmp (.q (-a.val)) (.q (-b.val))))),true⟩) False:=by
 obtain ⟨x,rfl,hx⟩:=ha
 obtain ⟨y,rfl,hy⟩:=hb
 refine (T.val_nm ..)▸?_;refine (T.val_nm ..)▸?_;refine (cmp_neg ..)▸?_
 exact go2 P 28 "one" "other" fun f F P _=>(fn_isnumT P (t:=T.nm x)).is ((fn_isnumT P (t:=T.nm y)).is ((fn_numofT P).is ((fn_numofT P).is ((fn_compare_values P hy hx).is rfl))))
theorem front_A (P:Pg c) {k:Str}{xs:List PV} (hk:k≠"prod"):Fn c 3 "front_value" [.val (.tup (.str k :: xs))] (fun r=>r=⟨.val (ratP 1),true⟩) False :=
 go1 P 25 "term" fun f F P _=>both_f (decide_eq_false hk) rfl
theorem front_B (P:Pg c) {r:Rat}{es:List PV}:Fn c 3 "front_value" [.val (.tup [.str "prod",.tup ((T.nm r).enc :: es)])] (fun v=>v=⟨.val (ratP r),true⟩) False :=
 go1 P 25 "term" fun f F P _=>(fn_isnumT P (t:=T.nm r)).is ((fn_numofT P).is rfl)
theorem front_C (P:Pg c) {k:Str}{xs es:List PV} (hk:k≠"num"):Fn c 3 "front_value" [.val (.tup [.str "prod",.tup (.tup (.str k :: xs) :: es)])] (fun r=>r=⟨.val (ratP 1),true⟩) False :=
 go1 P 25 "term" fun f F P _=>(fn_is_num P).is (both_f (decide_eq_false hk) rfl)
theorem fn_front (P:Pg c) {t:T} (h:t.cm):Fn c 3 "front_value" [.val t.enc] (fun r=>r=⟨.val (ratP t.front),true⟩) False:=by
 cases t with
 | prod ts =>
  cases ts with
  | nil=>exact absurd rfl h.2.2
  | cons t ts =>
   cases t with
   | num p q =>
    obtain ⟨r,rfl,rfl,_⟩:=h.1.2.1
    refine (show (T.prod (T.num r.num r.den :: ts)).front=r from Rat.num_divInt_den r).symm▸?_
    exact front_B P
   | _=>exact front_C P (of_decide_eq_false rfl)
 | _=>exact front_A P (of_decide_eq_false rfl)
theorem base_A (P:Pg c) {k:Str}{xs:List PV} (hk:k≠"pow"):Fn c 1 "base_and_exponent" [.val (.tup (.str k :: xs))] (fun r=>r=⟨.val (.tup [.tup (.str k :: xs),(T.num 1 1).enc]),true⟩) False :=
 go1_0 P 26 "term" fun f F P _=>both_f (decide_eq_false hk) rfl
theorem fn_base_exp (P:Pg c) {t:T}:Fn c 1 "base_and_exponent" [.val t.enc] (fun r=>r=⟨.val (.tup [t.base.enc,t.exp.enc]),true⟩) False:=by
 cases t with
 | pow b e=>exact go1_0 P 26 "term" fun _ _ _ _=>rfl
 | _=>exact base_A P (of_decide_eq_false rfl)
end
end
section
section
variable {c:Cx}
theorem q_in {K:Bool->Prop}{x:Str}{ys:List PV}{n1 n2:Bool} (b0:Bool) (hb:b0=true↔PV.str x∈ys) (hn:PV.nbs ys=true) (h:K b0):CmpQ c .In ⟨.val (.str x),n1⟩ ⟨.val (.tup ys),n2⟩ K :=
 q_inT rfl hn (Nat.zero_le _) fun b hb'=>Bool.eq_iff_iff.mpr (hb.trans hb'.symm)▸h
theorem sgnO_then {o p:Ordering} (h:¬ sgnO o=0):sgnO (o.then p)=sgnO o:=by cases o <;> first | rfl | exact absurd rfl h
theorem sgnO_nil {o p:Ordering} (h:sgnO o=0):sgnO (o.then p)=sgnO p:=by refine (sgnO_zero.mp h)▸?_;rfl
noncomputable def CmpJ (ca cb:List O) (i:Nat):Prop:=O.cmps ca cb=O.cmps (ca.drop i) (cb.drop i)
section
variable {ca cb:List O}{i:Nat}
theorem CmpJ.step {u v:O} (h:CmpJ ca cb i) (ha:ca[i]?=some u) (hb:cb[i]?=some v):O.cmps ca cb=(O.cmp u v).then (O.cmps (ca.drop (i+1)) (cb.drop (i+1))):=by
 obtain ⟨h1,rfl⟩:=List.getElem?_eq_some_iff.mp ha
 obtain ⟨h2,rfl⟩:=List.getElem?_eq_some_iff.mp hb
 unfold CmpJ at h
 rwa [List.drop_eq_getElem_cons h1,List.drop_eq_getElem_cons h2] at h
theorem CmpJ.next {u v:O} (h:CmpJ ca cb i) (ha:ca[i]?=some u) (hb:cb[i]?=some v) (e:sgnO (O.cmp u v)=0):CmpJ ca cb (i+1):=by
 have h:=h.step ha hb
 rwa [sgnO_zero.mp e] at h
theorem CmpJ.stop {u v:O} (h:CmpJ ca cb i) (ha:ca[i]?=some u) (hb:cb[i]?=some v) (e:¬ sgnO (O.cmp u v)=0):sgnO (O.cmp u v)=sgnO (O.cmps ca cb):=by
 rw [h.step ha hb];rw [sgnO_then e]
theorem CmpJ.fin (h:CmpJ ca cb (min ca.length cb.length)):sgn (cb.length:Int) ca.length=sgnO (O.cmps ca cb):=by
 refine (h ..)▸?_
 rcases Nat.lt_trichotomy ca.length cb.length with h | h | h
 ·refine (Nat.min_eq_left (Nat.le_of_lt h)).symm▸?_;refine List.drop_length.symm▸?_;refine (List.drop_eq_getElem_cons h).symm▸?_
  exact (if_neg fun e=>Nat.ne_of_gt h (Int.ofNat_inj.mp e)).trans (if_neg (Int.not_lt.mpr (Int.ofNat_le.mpr (Nat.le_of_lt h))))
 ·refine (h ..)▸?_;refine (Nat.min_self ..)▸?_;refine (List.drop_length ..)▸?_;refine (h ..)▸?_;refine List.drop_length.symm▸?_
  exact if_pos rfl
 ·refine (Nat.min_eq_right (Nat.le_of_lt h)).symm▸?_;refine List.drop_length.symm▸?_;refine (List.drop_eq_getElem_cons h).symm▸?_
  exact (if_neg fun e=>Nat.ne_of_lt h (Int.ofNat_inj.mp e)).trans (if_pos (Int.ofNat_lt.mpr h))
end
theorem min_py (a b:Nat):(if (b:Int) < a then (b:Int) else a)=((min a b:Nat):Int):=by
 split <;> lia
theorem fn_compare_rows (P:Pg c) {d:Nat} (hd:1≤d) {as bs:List PV}{ca cb:List O} (hla:as.length≤1000000) (hlb:bs.length≤1000000) (la:ca.length=as.length) (lb:cb.length=bs.length)
  (h:∀ (i:Nat) (h1:i < as.length) (h2:i < bs.length) (h3:i < ca.length) (h4:i < cb.length),Fn c d "compare_terms" [.val as[i],.val bs[i]] (fun r=>r=⟨.val (.int (sgnO (O.cmp ca[i] cb[i]))),true⟩) False) :
  Fn c (d+2) "compare_rows" [.val (.tup as),.val (.tup bs)] (fun r=>r=⟨.val (.int (sgnO (O.cmps ca cb))),true⟩) False:=by
 refine go2 P 27 "ones" "others" fun f F P hc=>?_
 subst hc
 refine XS_For F (.inl rfl) (ES_Range F rfl (EV_v F P (t_lenT hla (t_lenT hlb (t_min ⟨min as.length bs.length,congrArg (fun x=>Slot.val (.int x)) (min_py _ _),Nat.le_trans (Nat.min_le_left ..) hla,?_⟩)))))
 refine rangeV (α:=Unit) (fun _=>[("ones",.im (.tup as)),("others",.im (.tup bs))]) (fun i _=>CmpJ ca cb i) () ⟨rfl,rfl,trivial⟩ rfl (fun T K F1 i _ ρ σ hi hJ=>?_) fun _ ρ σ hJ=>?_
 ·have h1:=Nat.lt_of_lt_of_le hi (Nat.min_le_left ..)
  have h2:=Nat.lt_of_lt_of_le hi (Nat.min_le_right ..)
  have h3:=la▸h1
  have h4:=lb▸h2
  exact XL_v F1 P (s_tup (List.getElem?_eq_getElem h1) (s_tup (List.getElem?_eq_getElem h2) ((h i h1 h2 h3 h4).is (dec_not (fun hne=>ret_of (congrArg PV.int (hJ.stop (List.getElem?_eq_getElem h3) (List.getElem?_eq_getElem h4) hne))) fun heq=>⟨(),⟨rfl,rfl,trivial⟩,hJ.next (List.getElem?_eq_getElem h3) (List.getElem?_eq_getElem h4) heq⟩) (Nat.le_refl _))
   (Int.natCast_nonneg i) (lt63 h2 hlb)) (Int.natCast_nonneg i) (lt63 h1 hla))
 ·refine t_lenT hlb (t_lenT hla ((fn_sign_ints P).is (ret_of (congrArg PV.int ?_)) hd))
  rw [← la,← lb] at hJ ⊢
  exact hJ.fin
theorem cmp_q_self (r:Rat):O.cmp (.q r) (.q r)=.eq:=ifQ_eq.mpr rfl
theorem sgnS_eq (x y:Str):sgnS x y=sgnO (O.cmp (.s x) (.s y)):=by
 show (if x=y then (0:Int) else if strLt x y=true then -1 else 1)=sgnO (ifS x y)
 unfold ifS
 split
 ·rfl
 ·split <;> rfl
theorem then_nil (o:Ordering):o.then .eq=o:=by cases o <;> rfl
theorem cmp_pair (a b c d:O):O.cmp (.l [a,b]) (.l [c,d])=(O.cmp a c).then (O.cmp b d):=congrArg (fun o=>(O.cmp a c).then o) (then_nil _)
theorem cmp_same (r:Rat) (b d:O):O.cmp b d=O.cmp (.l [.q r,b]) (.l [.q r,d]):=((cmp_pair ..).trans (congrArg (fun o=>Ordering.then o (O.cmp b d)) (cmp_q_self r))).symm
theorem cmps_fst {a c:O}{o:Ordering} (h:O.cmp a c=o) (ho:o≠.eq) (as cs:List O):o=O.cmp (.l (a :: as)) (.l (c :: cs)):=by
 show o=(O.cmp a c).then (O.cmps as cs)
 refine h.symm▸?_
 cases o <;> first | rfl | exact absurd rfl ho
noncomputable def CT (c:Cx) (n d:Nat):Prop:=∀ a b:T,a.cm->b.cm->a.sz≤n->b.sz≤n->Fn c d "compare_terms" [.val a.enc,.val b.enc] (fun r=>r=⟨.val (.int (sgnO (O.cmp a.code b.code))),true⟩) False
theorem cms_mem:∀ {ts:List T},T.cms ts->∀ t∈ts,t.cm
 | [],_,t,h=>(List.not_mem_nil h).elim
 | u :: us,h,t,ht=>(List.mem_cons.mp ht).elim (fun e=>e▸h.1) (cms_mem h.2 t)
theorem szs_mem:∀ {ts:List T},∀ t∈ts,t.sz≤T.szs ts
 | [],t,h=>(List.not_mem_nil h).elim
 | u :: us,t,ht=>(List.mem_cons.mp ht).elim (fun e=>e▸Nat.le_max_left ..) fun h=>Nat.le_trans (szs_mem t h) (Nat.le_max_right ..)
theorem fn_rowsT (P:Pg c) {n d:Nat} (hd:1≤d) (H:CT c n d) {as bs:List T} (ha:T.cms as) (hb:T.cms bs) (la:as.length≤1000000) (lb:bs.length≤1000000) (sa:T.szs as≤n) (sb:T.szs bs≤n) :
  Fn c (d+2) "compare_rows" [.val (.tup (T.encs as)),.val (.tup (T.encs bs))] (fun r=>r=⟨.val (.int (sgnO (O.cmps (T.codes as) (T.codes bs)))),true⟩) False:=by
 rw [T.encs_map];rw [T.encs_map];rw [T.codes_map];rw [T.codes_map]
 refine fn_compare_rows P hd (by rwa [List.length_map]) (by rwa [List.length_map]) (by rw [List.length_map];rw [List.length_map]) (by rw [List.length_map];rw [List.length_map]) fun i h1 h2 h3 h4=>?_
 rw [List.getElem_map];rw [List.getElem_map];rw [List.getElem_map];rw [List.getElem_map]
 exact H _ _ (cms_mem ha _ (List.getElem_mem _)) (cms_mem hb _ (List.getElem_mem _)) (Nat.le_trans (szs_mem _ (List.getElem_mem _)) sa) (Nat.le_trans (szs_mem _ (List.getElem_mem _)) sb)
theorem fn_compare_bases (P:Pg c) {n d:Nat} (hd:1≤d) (H:CT c n d) {a b:T} (ha:a.cmB) (hb:b.cmB) (sa:a.sz≤n+1) (sb:b.sz≤n+1) :
  Fn c (d+4) "compare_bases" [.val a.enc,.val b.enc] (fun r=>r=⟨.val (.int (sgnO (O.cmp a.bcode b.bcode))),true⟩) False:=by
 cases a with
 | sym x =>
  cases b with
  | sym y=>exact go2 P 29 "one" "other" fun f F P _ _ _=>(fn_sign_ints P).is ((fn_sign_strs P).is (ret_of (congrArg PV.int ((sgnS_eq x y).trans (congrArg sgnO (cmp_same 0 (.s x) (.s y)))))))
  | sum bs=>exact go2 P 29 "one" "other" fun f F P _ _ _=>(fn_sign_ints P).is (ret_of (congrArg (fun o=>PV.int (sgnO o)) (cmps_fst (o:=.lt) (a:=.q 0) (c:=.q 2) (by decide +kernel) (by decide) [.s x] [.l (T.codes bs)])))
  | _=>exact hb.elim
 | sum as =>
  cases b with
  | sym y=>exact go2 P 29 "one" "other" fun f F P _ _ _=>(fn_sign_ints P).is (ret_of (congrArg (fun o=>PV.int (sgnO o)) (cmps_fst (o:=.gt) (a:=.q 2) (c:=.q 0) (by decide +kernel) (by decide) [.l (T.codes as)] [.s y])))
  | sum bs =>
   refine go2 P 29 "one" "other" fun f F P hc _ _=>?_
   subst hc
   exact (fn_sign_ints P).is (q_in true ⟨fun _=>.head _,fun _=>rfl⟩ rfl ((fn_rowsT P hd H ha.1 hb.1 ha.2 hb.2 (Nat.le_of_succ_le_succ sa) (Nat.le_of_succ_le_succ sb)).is (ret_of (congrArg (fun o=>PV.int (sgnO o)) (cmp_same 2 (.l (T.codes as)) (.l (T.codes bs)))))))
  | _=>exact hb.elim
 | _=>exact ha.elim
end
end
section
section
variable {c:Cx}
theorem sq_one:Sq 1:=⟨Nat.one_lt_two_pow (by decide),Nat.one_lt_two_pow (by decide)⟩
structure Fac (t:T):Prop where
 prod:t.isProd=false
 num:t.isNum=false
 cm:t.cm
theorem Fac.base {t:T} (h:Fac t):t.base.cmB∧NumOk t.exp∧t.base.sz≤t.sz:=by
 have one:NumOk (.num 1 1):=⟨1,rfl,sq_one⟩
 cases t with
 | num p q=>cases h.num
 | prod ts=>cases h.prod
 | sym x=>exact ⟨trivial,one,Nat.le_refl _⟩
 | sum ts=>exact ⟨h.cm,one,Nat.le_refl _⟩
 | pow b e=>exact ⟨h.cm.1,.of h.cm.2.1 h.cm.2.2,Nat.le_trans (Nat.le_add_right ..) (Nat.le_add_right ..)⟩
theorem Fac.fcode {t:T} (h:Fac t):t.fcode=.l [t.base.bcode,.q (-t.exp.val)]:=by
 have hb:=h.base.1
 refine T.fcode_eq t ?_ ?_ ?_
 ·cases e:t.base <;> rw [e] at hb <;> first | rfl | exact hb.elim
 ·intro ts e;rw [e] at hb;exact hb.elim
 ·intro b e' e;rw [e] at hb;exact hb.elim
theorem fn_compare_factors (P:Pg c) {n d:Nat} (hd:1≤d) (H:CT c n d) {a b:T} (ha:Fac a) (hb:Fac b) (sa:a.sz≤n+1) (sb:b.sz≤n+1) :
  Fn c (d+6) "compare_factors" [.val a.enc,.val b.enc] (fun r=>r=⟨.val (.int (sgnO (O.cmp a.fcode b.fcode))),true⟩) False:=by
 have fa:=ha.base
 have fb:=hb.base
 refine ha.fcode▸?_;refine hb.fcode▸?_;refine (cmp_pair ..)▸?_
 refine go2 P 30 "one" "other" fun f F P hc=>?_
 subst hc
 exact (fn_base_exp P).is ((fn_base_exp P).is ((fn_compare_bases P hd H fa.1 fb.1 (Nat.le_trans fa.2.2 sa) (Nat.le_trans fb.2.2 sb)).is (dec_not (fun hne=>ret_of (congrArg PV.int (sgnO_then hne).symm)) fun heq=>(fn_compare_exponents P fa.2.1 fb.2.1).is (ret_of (congrArg PV.int (sgnO_nil heq).symm)))))
theorem cmf_mem:∀ {ts:List T},T.cmf ts->∀ f∈ts,f.isProd=false∧f.cm
 | [],_,f,hf=>(List.not_mem_nil hf).elim
 | u :: us,h,f,hf=>(List.mem_cons.mp hf).elim (fun e=>e▸⟨h.1,h.2.1⟩) (cmf_mem h.2.2 f)
theorem bare_fac {t:T} (h:t.cm) (hn:t.isNum=false):(∀ f∈t.bare,Fac f∧f.sz≤t.sz)∧t.bare.length≤1000000:=by
 have one:∀ t:T,t.isProd=false->t.isNum=false->t.cm->(∀ f∈[t],Fac f∧f.sz≤t.sz)∧[t].length≤1000000:=fun t h1 h2 h3 =>
  ⟨fun f hf=>by obtain rfl:=List.mem_singleton.mp hf;exact ⟨⟨h1,h2,h3⟩,Nat.le_refl _⟩,Nat.le_of_ble_eq_true rfl⟩
 cases t with
 | num p q=>cases hn
 | prod ts =>
  refine ⟨fun f hf=>?_,Nat.le_trans (List.length_filter_le _ _) h.2.1⟩
  have hm:=List.mem_filter.mp hf
  have k:=cmf_mem h.1 f hm.1
  exact ⟨⟨k.1,(Bool.not_eq_true' _).mp hm.2,k.2⟩,Nat.le_succ_of_le (szs_mem f hm.1)⟩
 | _=>exact one _ rfl rfl h
theorem front_sq {t:T} (h:t.cm):Sq t.front:=by
 cases t with
 | prod ts =>
  cases ts with
  | nil=>exact sq_one
  | cons t ts =>
   cases t with
   | num p q =>
    obtain ⟨r,rfl,rfl,k⟩:=h.1.2.1
    refine (show (T.prod (.num r.num r.den :: ts)).front=r from Rat.num_divInt_den r).symm▸?_
    exact k
   | _=>exact sq_one
 | _=>exact sq_one
theorem cmp_trip (ca cb:List O) (r s:Rat):O.cmp (.l [.q 0,.l ca,.q r]) (.l [.q 0,.l cb,.q s])=(O.cmps ca cb).then (O.cmp (.q r) (.q s)):=by
 show (O.cmp (.q 0) (.q 0)).then ((O.cmps ca cb).then ((O.cmp (.q r) (.q s)).then .eq))=_
 rw [cmp_q_self];rw [then_nil];rfl
theorem map_get {α β:Type}{g:α->β}{xs:List α}{i:Nat} (h:i < xs.length):(xs.map g)[i]?=some (g xs[i]):=by rw [List.getElem?_map];rw [List.getElem?_eq_getElem h];rfl
theorem cm_len {t:T} (h:t.cm):∀ ts,t=.prod ts->ts.length≤1000000:=fun ts e=>by subst e;exact h.2.1
theorem fn_terms_bare (P:Pg c) {n d:Nat} (hd:1≤d) (H:CT c n d) {a b:T} (ha:a.cm) (hb:b.cm) (sa:a.sz≤n+1) (sb:b.sz≤n+1) (na:a.isNum=false) (nb:b.isNum=false) :
  Fn c (d+8) "compare_terms" [.val a.enc,.val b.enc] (fun r=>r=⟨.val (.int (sgnO ((O.cmps (a.bare.map T.fcode) (b.bare.map T.fcode)).then (O.cmp (.q a.front) (.q b.front))))),true⟩) False:=by
 have fa:=bare_fac ha na
 have fb:=bare_fac hb nb
 have la:(a.bare.map T.enc).length≤1000000:=by rw [List.length_map];exact fa.2
 have lb:(b.bare.map T.enc).length≤1000000:=by rw [List.length_map];exact fb.2
 refine go2 P 31 "one" "other" fun f F P hc=>?_
 subst hc
 refine (isnum_is P na).is ((isnum_is P na).is ((isnum_is P nb).is (q_bne (fn_bareE P (cm_len ha) (fun x=>fn_bareE P (cm_len hb) (fun y=>XS_For F (.inl rfl) (ES_Range F rfl (EV_v F P (t_lenL la (t_lenL lb (t_min ⟨min (a.bare.map T.enc).length (b.bare.map T.enc).length,congrArg (fun x=>Slot.val (.int x)) (min_py _ _),Nat.le_trans (Nat.min_le_left ..) la,?_⟩)))))) (Nat.le_of_ble_eq_true rfl)) (Nat.le_of_ble_eq_true rfl)))))
 refine rangeV (α:=Unit) (fun _=>[("one",.im a.enc),("other",.im b.enc),("ones",⟨.lst x (a.bare.map T.enc),true⟩),("others",⟨.lst y (b.bare.map T.enc),true⟩)]) (fun i _=>CmpJ (a.bare.map T.fcode) (b.bare.map T.fcode) i) () ⟨rfl,rfl,rfl,rfl,trivial⟩ rfl (fun T' K F1 i _ ρ σ hi hJ=>?_) fun _ ρ σ hJ=>?_
 ·rw [List.length_map,List.length_map] at hi
  have h1:=Nat.lt_of_lt_of_le hi (Nat.min_le_left ..)
  have h2:=Nat.lt_of_lt_of_le hi (Nat.min_le_right ..)
  have f1:=fa.1 _ (List.getElem_mem h1)
  have f2:=fb.1 _ (List.getElem_mem h2)
  exact XL_v F1 P (s_lst (map_get h1) (s_lst (map_get h2) ((fn_compare_factors P hd H f1.1 f2.1 (Nat.le_trans f1.2 sa) (Nat.le_trans f2.2 sb)).is
   (dec_not (fun hne=>have e:=hJ.stop (map_get h1) (map_get h2) hne;ret_of (congrArg PV.int (e.trans (sgnO_then (e▸hne)).symm))) fun heq=>⟨(),⟨rfl,rfl,rfl,rfl,trivial⟩,hJ.next (map_get h1) (map_get h2) heq⟩))
   (Int.natCast_nonneg i) (lt63 h2 fb.2)) (Int.natCast_nonneg i) (lt63 h1 fa.2))
 ·have e:sgn ((b.bare.map T.enc).length:Int) (a.bare.map T.enc).length=sgnO (O.cmps (a.bare.map T.fcode) (b.bare.map T.fcode)):=by
   have len:∀ l:List T,(l.map T.enc).length=(l.map T.fcode).length:=fun l=>by rw [List.length_map];exact (List.length_map ..)▸rfl
   rw [len,len] at hJ ⊢
   exact hJ.fin
  exact t_lenL lb (t_lenL la ((fn_sign_ints P).is (dec_not (fun hne=>ret_of (congrArg PV.int (e.trans (sgnO_then (e▸hne)).symm))) fun heq=>(fn_front P ha).is ((fn_front P hb).is ((fn_compare_values P (front_sq ha) (front_sq hb)).is (ret_of (congrArg PV.int (sgnO_nil (e▸heq)).symm)))))))
theorem fn_compare_terms (P:Pg c) {n d:Nat} (hd:1≤d) (H:CT c n d):CT c (n+1) (d+8):=by
 intro a b ha hb sa sb
 cases na:a.isNum with
 | true =>
  obtain ⟨x,rfl,hx⟩:=NumOk.of ha na
  cases nb:b.isNum with
  | true =>
   obtain ⟨y,rfl,hy⟩:=NumOk.of hb nb
   have e:O.cmp (T.nm x).code (T.nm y).code=O.cmp (.q x) (.q y):=by
    show O.cmp (.l [.q 1,.q (Rat.divInt x.num x.den)]) (.l [.q 1,.q (Rat.divInt y.num y.den)])=_
    refine (Rat.num_divInt_den ..)▸?_;refine (Rat.num_divInt_den ..)▸?_;exact (cmp_same ..)▸rfl
   refine e▸?_
   exact go2 P 31 "one" "other" fun f F P _=>(isnum_is P na).is ((isnum_is P nb).is ((fn_numofT P).is ((fn_numofT P).is ((fn_compare_values P hx hy).is rfl))))
  | false =>
   refine (T.code_eq b nb)▸?_
   exact go2 P 31 "one" "other" fun f F P _=>(isnum_is P na).is ((isnum_is P nb).is ((isnum_is P na).is ((isnum_is P nb).is (q_bne ((isnum_is P na).is (ret_of (congrArg (fun o=>PV.int (sgnO o)) (cmps_fst (o:=.gt) (a:=.q 1) (c:=.q 0) (by decide +kernel) (by decide) _ _))))))))
 | false =>
  cases nb:b.isNum with
  | true =>
   obtain ⟨y,rfl,hy⟩:=NumOk.of hb nb
   refine (T.code_eq a na)▸?_
   exact go2 P 31 "one" "other" fun f F P _=>(isnum_is P na).is ((isnum_is P na).is ((isnum_is P nb).is (q_bne ((isnum_is P na).is (ret_of (congrArg (fun o=>PV.int (sgnO o)) (cmps_fst (o:=.lt) (a:=.q 0) (c:=.q 1) (by decide +kernel) (by decide) _ _)))))))
  | false =>
   refine (T.code_eq a na)▸?_;refine (T.code_eq b nb)▸?_;refine (cmp_trip ..)▸?_
   exact fn_terms_bare P hd H ha hb sa sb na nb
end
end
section
noncomputable def T.le (a b:T):Bool:=O.cmp a.code b.code != .gt
section
variable {c:Cx}
theorem T.sz_pos (t:T):1≤t.sz:=by cases t <;> exact Nat.succ_le_succ (Nat.zero_le _)
theorem fn_CT (P:Pg c):∀ n,CT c n (8 * n+1)
 | 0=>fun a b _ _ sa _=>absurd (Nat.lt_of_lt_of_le a.sz_pos sa) (Nat.lt_irrefl 0)
 | n+1=>fn_compare_terms P (Nat.le_of_ble_eq_true rfl) (fn_CT P n)
theorem sgnO_le (o:Ordering):decide (sgnO o≤0)=(o != .gt):=by cases o <;> rfl
structure Rows (n:Nat) (ts:List T):Prop where
 cm:∀ t∈ts,t.cm
 sz:∀ t∈ts,t.sz≤n
theorem nil_merge (bs:List T):List.merge [] bs T.le=bs:=by simp
section
variable {as bs zs:List T}{i j k:Nat}
structure MJ (as bs:List T) (k:Nat) (w:Nat×Nat×List T):Prop where
 hi:w.1≤as.length
 hj:w.2.1≤bs.length
 hk:w.1+w.2.1+k=as.length+bs.length
 hm:List.merge as bs T.le=w.2.2 ++ List.merge (as.drop w.1) (bs.drop w.2.1) T.le
theorem MJ.len {w:Nat×Nat×List T} (h:MJ as bs k w):w.2.2.length≤as.length+bs.length:=by
 have:=congrArg List.length h.hm
 rw [List.length_append,List.length_merge] at this
 exact this▸Nat.le_add_right ..
noncomputable def Fst (as bs:List T) (i j:Nat):Bool->Prop
 | true=>∃ hi:i < as.length,bs.length≤j∨∃ hj:j < bs.length,T.le as[i] bs[j]=true
 | false=>∃ hj:j < bs.length,as.length≤i∨∃ hi:i < as.length,T.le as[i] bs[j]=false
theorem MJ.one {w:Nat×Nat×List T} (h:MJ as bs k w) (hi:w.1 < as.length) (hc:bs.length≤w.2.1∨∃ hj:w.2.1 < bs.length,T.le as[w.1] bs[w.2.1]=true):k - 1 < k∧MJ as bs (k - 1) (w.1+1,w.2.1,w.2.2 ++ [as[w.1]]):=by
 have hk:=h.hk
 cases k with
 | zero=>exact absurd (hk▸Nat.add_lt_add_of_lt_of_le hi h.hj) (Nat.lt_irrefl _)
 | succ k =>
 refine ⟨Nat.lt_succ_self k,hi,h.hj,hk▸(show w.1+1+w.2.1+k=w.1+w.2.1+(k+1) by rw [Nat.add_right_comm w.1];rw [Nat.add_assoc (w.1+w.2.1)];rw [Nat.add_comm 1]),?_⟩
 show _=(w.2.2 ++ [as[w.1]]) ++ List.merge (as.drop (w.1+1)) (bs.drop w.2.1) T.le
 rw [h.hm];rw [List.append_assoc];rw [List.drop_eq_getElem_cons hi]
 refine congrArg (w.2.2 ++ ·) ?_
 rcases hc with hc | ⟨hj,hc⟩
 ·rw [List.drop_eq_nil_of_le hc];rw [List.merge_right];rw [List.merge_right];rfl
 ·rw [List.drop_eq_getElem_cons hj];rw [List.cons_merge_cons];rw [if_pos hc];rfl
theorem MJ.two {w:Nat×Nat×List T} (h:MJ as bs k w) (hj:w.2.1 < bs.length) (hc:as.length≤w.1∨∃ hi:w.1 < as.length,T.le as[w.1] bs[w.2.1]=false):k - 1 < k∧MJ as bs (k - 1) (w.1,w.2.1+1,w.2.2 ++ [bs[w.2.1]]):=by
 have hk:=h.hk
 cases k with
 | zero=>exact absurd (hk▸Nat.add_lt_add_of_le_of_lt h.hi hj) (Nat.lt_irrefl _)
 | succ k =>
 refine ⟨Nat.lt_succ_self k,h.hi,hj,hk▸(show w.1+(w.2.1+1)+k=w.1+w.2.1+(k+1) by rw [← Nat.add_assoc w.1];rw [Nat.add_assoc (w.1+w.2.1)];rw [Nat.add_comm 1]),?_⟩
 show _=(w.2.2 ++ [bs[w.2.1]]) ++ List.merge (as.drop w.1) (bs.drop (w.2.1+1)) T.le
 rw [h.hm];rw [List.append_assoc];rw [List.drop_eq_getElem_cons hj]
 refine congrArg (w.2.2 ++ ·) ?_
 rcases hc with hc | ⟨hi,hc⟩
 ·rw [List.drop_eq_nil_of_le hc];rw [nil_merge];rw [nil_merge];rfl
 ·rw [List.drop_eq_getElem_cons hi];rw [List.cons_merge_cons];rw [if_neg (Bool.eq_false_iff.mp hc)];rfl
end
noncomputable def mI (as bs:List T) (u v a:Addr) (w:Nat×Nat×List T):List (Str×RV) :=
 [("ones",⟨.lst u (as.map T.enc),false⟩),("others",⟨.lst v (bs.map T.enc),false⟩),("at",.im (.int w.1)),("spot",.im (.int w.2.1)),("found",⟨.lst a (w.2.2.map T.enc),true⟩)]
theorem somA {a:Addr}{zs:List T}{t:T}:(some ⟨.lst a (zs.map T.enc ++ [t.enc]),true⟩:Option RV)=some ⟨.lst a ((zs ++ [t]).map T.enc),true⟩:=by refine List.map_append▸?_;rfl
theorem merged_body {f:Fx} (P:Pg f.c) {n:Nat} (F:f.Ok (dfn 32).scope (8 * n+2)) {as bs:List T}{u v a:Addr} (ha:Rows n as) (hb:Rows n bs) (hl:as.length+bs.length≤1000000) {k:Nat}{w:Nat×Nat×List T}{ρ:Ab}{σ:Box}{R:RV->Box->Prop} (hJ:MJ as bs k w) (hne:w.1 < as.length∨w.2.1 < bs.length) :
  XL f (sets ρ (mI as bs u v a w)) σ (whB (hdS (tlS (dfn 32).body))) (fun ρ' _=>∃ m w',m < k∧Has ρ' (mI as bs u v a w')∧MJ as bs m w') R False:=by
 have la:as.length≤1000000:=Nat.le_trans (Nat.le_add_right ..) hl
 have lb:bs.length≤1000000:=Nat.le_trans (Nat.le_add_left ..) hl
 have len:∀ l:List T,(l.map T.enc).length=l.length:=fun l=>List.length_map _
 have lz:(w.2.2.map T.enc).length≤1000000:=by refine (len ..)▸?_;exact Nat.le_trans hJ.len hl
 refine XL_cutH (fun b:Bool=>("is_first",.im (.bool b)) :: mI as bs u v a w) (fun b _=>Fst as bs w.1 w.2.1 b) (XS_v F P (t_lenL (by refine (len ..)▸?_;exact lb) (dec_both (fun hge=>⟨true,⟨rfl,rfl,rfl,rfl,rfl,rfl,trivial⟩,?_⟩) fun hlt=>t_lenL (by refine (len ..)▸?_;exact la) (dec_both (fun hlt'=>?_) fun hge=>⟨false,⟨rfl,rfl,rfl,rfl,rfl,rfl,trivial⟩,?_⟩)))) fun b ρ σ hF=>?_
 ·rw [len] at hge
  have hge:=Int.ofNat_le.mp hge
  exact ⟨hne.resolve_right (Nat.not_lt.mpr hge),.inl hge⟩
 ·rw [len] at hlt hlt'
  have hj:=Nat.not_le.mp fun e=>hlt (Int.ofNat_le.mpr e)
  have hi:=Int.ofNat_lt.mp hlt'
  refine s_lst (map_get hi) (s_lst (map_get hj) ((fn_CT P n _ _ (ha.cm _ (List.getElem_mem hi)) (hb.cm _ (List.getElem_mem hj)) (ha.sz _ (List.getElem_mem hi)) (hb.sz _ (List.getElem_mem hj))).is ⟨_,⟨rfl,rfl,rfl,rfl,rfl,rfl,trivial⟩,?_⟩) (Int.natCast_nonneg _) (lt63 hj lb)) (Int.natCast_nonneg _) (lt63 hi la)
  refine (sgnO_le ..)▸?_
  cases e:T.le as[w.1] bs[w.2.1] with
  | true=>refine (show (O.cmp as[w.1].code bs[w.2.1].code != .gt)=true from e ..)▸?_;exact ⟨hi,.inr ⟨hj,e⟩⟩
  | false=>refine (show (O.cmp as[w.1].code bs[w.2.1].code != .gt)=false from e ..)▸?_;exact ⟨hj,.inr ⟨hi,e⟩⟩
 ·rw [len] at hlt hge
  exact ⟨Nat.not_le.mp fun e=>hlt (Int.ofNat_le.mpr e),.inl (Nat.not_lt.mp fun e=>hge (Int.ofNat_lt.mpr e))⟩
 ·cases b with
  | true=>exact XL_v F P (XS_Append F rfl lz (EV_v F P (s_lst (map_get hF.1) (exv rfl ⟨_,(w.1+1,w.2.1,w.2.2 ++ [as[w.1]'hF.1]),(hJ.one hF.1 hF.2).1,⟨rfl,rfl,rfl,rfl,somA,trivial⟩,(hJ.one hF.1 hF.2).2⟩) (Int.natCast_nonneg _) (lt63 hF.1 la))))
  | false=>exact XL_v F P (XS_Append F rfl lz (EV_v F P (s_lst (map_get hF.1) (exv rfl ⟨_,(w.1,w.2.1+1,w.2.2 ++ [bs[w.2.1]'hF.1]),(hJ.two hF.1 hF.2).1,⟨rfl,rfl,rfl,rfl,somA,trivial⟩,(hJ.two hF.1 hF.2).2⟩) (Int.natCast_nonneg _) (lt63 hF.1 lb))))
theorem fn_merged (P:Pg c) {n:Nat}{as bs:List T}{u v:Addr}{Q:RV->Prop}{X:Prop} (ha:Rows n as) (hb:Rows n bs) (hl:as.length+bs.length≤1000000) (q:∀ a,Q ⟨.lst a ((List.merge as bs T.le).map T.enc),true⟩) :
  Fn c (8 * n+3) "merged_terms" [.lst u (as.map T.enc),.lst v (bs.map T.enc)] Q X:=by
 have len:∀ l:List T,(l.map T.enc).length=l.length:=fun l=>List.length_map _
 refine go2 P 32 "ones" "others" fun f F P _ a=>XS_WhileV F (mI as bs u v a) (MJ as bs) _ (0,0,[]) ⟨rfl,rfl,rfl,rfl,rfl,trivial⟩ ⟨Nat.zero_le _,Nat.zero_le _,Nat.zero_add _,rfl⟩ fun k w ρ σ hJ=>ET_v F P (t_lenL (by refine (len ..)▸?_;exact Nat.le_trans (Nat.le_add_right ..) hl) (dec_both (fun hlt=>merged_body P F ha hb hl hJ (.inl (Int.ofNat_lt.mp (len as▸hlt)))) fun hge=>t_lenL (by refine (len ..)▸?_;exact Nat.le_trans (Nat.le_add_left ..) hl) (dec_both (fun hlt=>merged_body P F ha hb hl hJ (.inr (Int.ofNat_lt.mp (len bs▸hlt)))) fun hge'=>?_)))
 rw [len] at hge hge'
 have e:=hJ.hm
 rw [List.drop_eq_nil_of_le (Nat.not_lt.mp fun e=>hge (Int.ofNat_lt.mpr e)),List.drop_eq_nil_of_le (Nat.not_lt.mp fun e=>hge' (Int.ofNat_lt.mpr e)),List.merge_right,List.append_nil] at e
 have q:=q a
 replace q:=e▸q
 exact q
end
end
section
theorem T.le_trans (a b c:T) (h:T.le a b=true) (k:T.le b c=true):T.le a c=true:=by
 unfold T.le at *
 cases h1:O.cmp a.code b.code with
 | gt=>replace h:=h1▸h;cases h
 | eq=>refine ((O.cmp_eq _ _).mp h1)▸?_;exact k
 | lt =>
  cases k1:O.cmp b.code c.code with
  | gt=>replace k:=k1▸k;cases k
  | eq=>refine ((O.cmp_eq _ _).mp k1)▸?_;refine h1▸?_;rfl
  | lt=>refine (O.cmp_lt_trans _ _ _ h1 k1)▸?_;rfl
theorem T.le_total (a b:T):(T.le a b || T.le b a)=true:=by
 unfold T.le
 refine (O.cmp_swap a.code b.code)▸?_
 cases O.cmp a.code b.code <;> rfl
section
variable {c:Cx}
theorem Rows.take {n:Nat}{ts:List T} (h:Rows n ts) (k:Nat):Rows n (ts.take k):=⟨fun t ht=>h.cm t (List.mem_of_mem_take ht),fun t ht=>h.sz t (List.mem_of_mem_take ht)⟩
theorem Rows.drop {n:Nat}{ts:List T} (h:Rows n ts) (k:Nat):Rows n (ts.drop k):=⟨fun t ht=>h.cm t (List.mem_of_mem_drop ht),fun t ht=>h.sz t (List.mem_of_mem_drop ht)⟩
theorem Rows.perm {n:Nat}{ts us:List T} (h:Rows n ts) (p:us.Perm ts):Rows n us:=⟨fun t ht=>h.cm t (p.mem_iff.mp ht),fun t ht=>h.sz t (p.mem_iff.mp ht)⟩
noncomputable def Sorted (us ts:List T):Prop:=us.Perm ts∧us.Pairwise fun a b=>T.le a b=true
theorem Sorted.short {ts:List T} (h:ts.length < 2):Sorted ts ts:=⟨.refl _,match ts,h with
 | [],_=>.nil
 | [t],_=>List.pairwise_singleton ..⟩
theorem Sorted.merge {us vs ts:List T}{m:Nat} (h:Sorted us (ts.take m)) (h':Sorted vs (ts.drop m)):Sorted (List.merge us vs T.le) ts:=by
 refine ⟨(List.merge_perm_append ..).trans ?_,List.pairwise_merge T.le_trans T.le_total _ _ h.2 h'.2⟩
 have:=h.1.append h'.1
 rwa [List.take_append_drop] at this
theorem Sorted.len {us vs ts:List T}{m:Nat} (h:Sorted us (ts.take m)) (h':Sorted vs (ts.drop m)):us.length+vs.length=ts.length:=by
 refine h.1.length_eq▸?_;refine h'.1.length_eq▸?_;refine List.length_append▸?_;exact (List.take_append_drop ..)▸rfl
theorem fn_sort (P:Pg c) {n:Nat}:∀ (L:Nat) (ts:List T) (u:Addr) {Q:RV->Prop}{X:Prop},ts.length≤2 ^ L->ts.length≤1000000->Rows n ts->(∀ a us,Sorted us ts->Q ⟨.lst a (us.map T.enc),true⟩) ->
  Fn c (8 * n+5+2 * L) "sort_terms" [.lst u (ts.map T.enc)] Q X
 | 0,ts,u,Q,X,hL,hlen,hr,q=>by
  have hl:(ts.map T.enc).length≤1000000:=by rwa [List.length_map]
  refine go1 P 33 "some_terms" fun f F P _=>t_lenL hl (both_t (decide_eq_true ?_) (t_listL hl fun a=>q a ts (.short (Nat.lt_succ_of_le hL))))
  rw [List.length_map]
  exact Int.ofNat_lt.mpr (Nat.lt_succ_of_le hL)
 | L+1,ts,u,Q,X,hL,hlen,hr,q=>by
  have hl:(ts.map T.enc).length≤1000000:=by rwa [List.length_map]
  have hm:((ts.map T.enc).length:Int).fdiv 2=((ts.length / 2:Nat):Int):=by rw [List.length_map];exact (Int.ofNat_fdiv ts.length 2).symm
  have h0:0≤((ts.map T.enc).length:Int).fdiv 2:=hm▸Int.natCast_nonneg _
  have e1:(ts.take (ts.length / 2)).map T.enc=(ts.map T.enc).take (((ts.map T.enc).length:Int).fdiv 2).toNat:=by refine (hm ..)▸?_;refine (Int.toNat_natCast ..)▸?_;exact (List.map_take ..)▸rfl
  have e2:(ts.drop (ts.length / 2)).map T.enc=(ts.map T.enc).drop (((ts.map T.enc).length:Int).fdiv 2).toNat:=by refine (hm ..)▸?_;refine (Int.toNat_natCast ..)▸?_;exact (List.map_drop ..)▸rfl
  have hp:ts.length≤2 * 2 ^ L:=Nat.le_trans hL (Nat.le_of_eq (Nat.pow_succ'))
  have l1:(ts.take (ts.length / 2)).length≤2 ^ L:=Nat.le_trans (List.length_take_le ..) (Nat.div_le_of_le_mul hp)
  have l2:(ts.drop (ts.length / 2)).length≤2 ^ L:=by refine (List.length_drop ..)▸?_;omega
  have ih:∀ (ts:List T) (u:Addr) {Q:RV->Prop}{X:Prop},ts.length≤2 ^ L->ts.length≤1000000->Rows n ts->(∀ a us,Sorted us ts->Q ⟨.lst a (us.map T.enc),true⟩)->Fn c (8 * n+5+2 * L) "sort_terms" [.lst u (ts.map T.enc)] Q X:=fn_sort P L
  refine go1 P 33 "some_terms" fun f F P hc=>?_
  subst hc
  refine t_lenL hl (dec_both (fun hlt=>t_listL hl fun a=>q a ts (.short ?_)) fun _=>t_lenL hl (b_div (by decide) (Sm.of (k:=2) (by decide) (by decide)) ⟨hl,_,⟨h0,e1⟩,fun a =>
   ih (ts.take (ts.length / 2)) a l1 (Nat.le_trans (List.length_take_le' ..) hlen) (hr.take _) fun b us hs=>⟨hl,_,⟨h0,e2⟩,fun a' =>
   ih (ts.drop (ts.length / 2)) a' l2 (Nat.le_trans (List.drop_sublist ..).length_le hlen) (hr.drop _) fun b' vs hs'=>Fn.up (fn_merged P ((hr.take _).perm hs.1) ((hr.drop _).perm hs'.1) (Nat.le_trans (Nat.le_of_eq (hs.len hs')) hlen) fun x=>q x _ (hs.merge hs')) (Nat.le_trans (Nat.add_le_add_left (by decide:3≤5) (8 * n)) (Nat.le_add_right _ (2 * L)))⟩⟩))
  rw [List.length_map] at hlt
  exact Int.ofNat_lt.mp hlt
end
end
section
noncomputable def ONE:T:=.num 1 1
noncomputable def ZERO:T:=.num 0 1
theorem nm_inj {r s:Rat}:T.nm r=T.nm s↔r=s:=by
 refine ⟨fun h=>?_,fun h=>by exact h▸rfl⟩
 have:=congrArg T.val h
 rwa [T.val_nm,T.val_nm] at this
noncomputable def T.cf:T->Rat
 | .num p q=>Rat.divInt p q
 | .prod (t :: _)=>t.num1
 | _=>1
noncomputable def T.restL (t:T) (ts:List T):T:=match t with
 | .num _ _=>(match ts with
  | [x]=>x
  | _=>.prod ts)
 | _=>.prod (t :: ts)
noncomputable def T.rest:T->T
 | .num _ _=>ONE
 | .prod (t :: ts)=>T.restL t ts
 | t=>t
noncomputable def T.facs:T->List T
 | .prod ts=>ts
 | t=>[t]
open Classical in
noncomputable def withN (r:Rat) (t:T):T :=
 if r=0∨t=ONE then T.nm r else if r=1 then t else .prod (T.nm r :: t.facs)
noncomputable def T.nokN:T->Prop
 | .num p q=>∃ r:Rat,p=r.num∧q=r.den
 | _=>True
noncomputable def T.nok:T->Prop
 | .num p q=>∃ r:Rat,p=r.num∧q=r.den
 | .prod (t :: _)=>t.nokN
 | .prod []=>False
 | _=>True
theorem isProd_dec (t:T):decide (t.kind="prod")=t.isProd:=by cases t <;> rfl
theorem isSum_dec (t:T):decide (t.kind="sum")=t.isSum:=by cases t <;> rfl
theorem kind_num {t:T} (h:t.isNum=false):t.kind≠"num":=of_decide_eq_false ((isNum_dec t).trans h)
theorem kind_prod {t:T} (h:t.isProd=false):t.kind≠"prod":=of_decide_eq_false ((isProd_dec t).trans h)
theorem kind_sum {t:T} (h:t.isSum=false):t.kind≠"sum":=of_decide_eq_false ((isSum_dec t).trans h)
section
variable {c:Cx}
open Classical in
theorem q_eqT {K:Bool->Prop}{a b:T}{n1 n2:Bool} (hd:a.dp≤50∨b.dp≤50) (h:K (decide (a=b))):CmpQ c .Eq ⟨.val a.enc,n1⟩ ⟨.val b.enc,n2⟩ K :=
 q_vv a.enc_nb b.enc_nb (by rwa [T.enc_depth,T.enc_depth]) fun x hx=>(Bool.eq_iff_iff.mpr (decide_eq_true_iff.trans ((Iff.intro (congrArg T.enc) (T.enc_inj a b)).trans hx.symm)):decide (a=b)=x)▸h
theorem ratP_inj {r s:Rat}:ratP r=ratP s↔r=s:=by
 refine ⟨fun h=>?_,fun h=>by exact h▸rfl⟩
 injection h with h
 injection h with h1 h2
 injection h2 with h2
 injection h1 with h1
 injection h2 with h2
 exact Rat.ext h1 (Int.ofNat_inj.mp h2)
theorem q_eqR {K:Bool->Prop}{r s:Rat}{n1 n2:Bool} (h:K (decide (r=s))):CmpQ c .Eq ⟨.val (ratP r),n1⟩ ⟨.val (ratP s),n2⟩ K :=
 q_vv rfl rfl (.inl (Nat.le_of_ble_eq_true rfl)) fun x hx=>(Bool.eq_iff_iff.mpr (decide_eq_true_iff.trans (ratP_inj.symm.trans hx.symm)):decide (r=s)=x)▸h
theorem fn_number_term (P:Pg c) {p q:PV}:Fn c 1 "number_term" [.val (.tup [p,q])] (fun r=>r=⟨.val (.tup [.str "num",p,q]),true⟩) False:=go1_0 P 43 "r" fun _ _ _ _=>rfl
theorem fn_number_termT (P:Pg c) {r:Rat}:Fn c 1 "number_term" [.val (ratP r)] (fun v=>v=⟨.val (T.nm r).enc,true⟩) False:=fn_number_term P
theorem nr_A (P:Pg c) {k:Str}{xs:List PV} (h1:k≠"num") (h2:k≠"prod"):Fn c 1 "number_and_rest" [.val (.tup (.str k :: xs))] (fun v=>v=⟨.val (.tup [ratP 1,.tup (.str k :: xs)]),true⟩) False :=
 go1_0 P 44 "t" fun f F P _=>both_f (decide_eq_false h1) (both_t (ndec h2) rfl)
theorem nr_B (P:Pg c) {k:Str}{xs zs:List PV} (hk:k≠"num"):Fn c 1 "number_and_rest" [.val (.tup [.str "prod",.tup (.tup (.str k :: xs) :: zs)])] (fun v=>v=⟨.val (.tup [ratP 1,.tup [.str "prod",.tup (.tup (.str k :: xs) :: zs)]]),true⟩) False :=
 go1_0 P 44 "t" fun f F P _=>both_t (ndec hk) rfl
theorem nr_C (P:Pg c) {p q x:PV}:Fn c 1 "number_and_rest" [.val (.tup [.str "prod",.tup [.tup [.str "num",p,q],x]])] (fun v=>v=⟨.val (.tup [.tup [p,q],x]),true⟩) False :=
 go1_0 P 44 "t" fun f F P _=>t_lenT (Nat.le_of_ble_eq_true rfl) rfl
theorem nr_D (P:Pg c) {p q:PV}{zs:List PV} (h1:zs.length≠1) (h2:zs.length < 1000000):Fn c 1 "number_and_rest" [.val (.tup [.str "prod",.tup (.tup [.str "num",p,q] :: zs)])] (fun v=>v=⟨.val (.tup [.tup [p,q],.tup [.str "prod",.tup zs]]),true⟩) False :=
 go1_0 P 44 "t" fun f F P _=>t_lenT h2 (both_f (decide_eq_false fun e=>h1 (Nat.succ.inj (Int.ofNat_inj.mp e))) ⟨h2,_,rfl,rfl,rfl,by decide,Nat.le_add_left ..,rfl⟩)
theorem fn_number_and_rest (P:Pg c) {t:T} (h:t.nok) (hl:∀ ts,t=.prod ts->ts.length≤1000000):Fn c 1 "number_and_rest" [.val t.enc] (fun v=>v=⟨.val (.tup [ratP t.cf,t.rest.enc]),true⟩) False:=by
 cases t with
 | num p q =>
  obtain ⟨r,rfl,rfl⟩:=h
  refine (show (T.num r.num r.den).cf=r from Rat.num_divInt_den r).symm▸?_
  exact go1_0 P 44 "t" fun _ _ _ _=>rfl
 | prod ts =>
  cases ts with
  | nil=>exact h.elim
  | cons t ts =>
   have hl:=hl _ rfl
   cases t with
   | num p q =>
    obtain ⟨r,rfl,rfl⟩:=h
    refine (show (T.prod (.num r.num r.den :: ts)).cf=r from Rat.num_divInt_den r).symm▸?_
    cases ts with
    | nil=>exact nr_D P (zs:=[]) (by decide) (by decide)
    | cons x xs =>
     cases xs with
     | nil=>exact nr_C P
     | cons y ys =>
      refine nr_D P (zs:=T.encs (x :: y :: ys)) (fun e=>?_) (by rw [T.encs_map];rw [List.length_map];exact hl)
      rw [T.encs_map,List.length_map] at e
      cases e
   | _=>exact nr_B P (of_decide_eq_false rfl)
 | _=>exact nr_A P (of_decide_eq_false rfl) (of_decide_eq_false rfl)
open Classical in
theorem wn_head {f:Fx} (P:Pg f.c) {d:Nat} (F:f.Ok (dfn 45).scope (d+2)) {r:Rat}{t:T}
  (h:XL f (par2 "r" "rest" (.val (ratP r)) (.val t.enc)) ([],0) (tlS (tlS (dfn 45).body)) (fun _ _=>False) (fun v _=>v=⟨.val (T.prod (T.nm r :: t.facs)).enc,true⟩) False) :
  XL f (par2 "r" "rest" (.val (ratP r)) (.val t.enc)) ([],0) (dfn 45).body (fun _ _=>False) (fun v _=>v=⟨.val (withN r t).enc,true⟩) False:=by
 unfold withN
 by_cases h0:r=0∨t=ONE
 ·refine (if_pos h0)▸?_
  exact XL_v F P (dec_both (fun _=>(fn_number_termT P).is rfl) fun h1=>q_eqT (b:=ONE) (.inr (by decide)) (both_t (decide_eq_true (h0.resolve_left fun e=>h1 (Rat.num_eq_zero.mpr e))) ((fn_number_termT P).is rfl)))
 ·refine (if_neg h0)▸?_
  refine XL_step (XS_v F P (both_f (decide_eq_false fun e=>h0 (.inl (Rat.num_eq_zero.mp e))) (q_eqT (b:=ONE) (.inr (by decide)) (both_f (decide_eq_false fun e=>h0 (.inr e)) (XL_step (XS_v F P (q_eqR (s:=1) ?_)))))))
  by_cases h2:r=1
  ·refine (if_pos h2)▸?_
   exact both_t (decide_eq_true h2) rfl
  ·refine (if_neg h2)▸?_
   exact both_f (decide_eq_false h2) h
theorem fn_with_number (P:Pg c) {r:Rat}{t:T} (hl:∀ ts,t=.prod ts->ts.length < 1000000):Fn c 3 "with_number" [.val (ratP r),.val t.enc] (fun v=>v=⟨.val (withN r t).enc,true⟩) False:=by
 cases hp:t.isProd with
 | true =>
  cases t with
  | prod ts =>
   have h:(T.encs ts).length < 1000000:=by rw [T.encs_map];rw [List.length_map];exact hl ts rfl
   exact in2 P 45 "r" "rest" fun f i P=>wn_head P i.ok (XL_v i.ok P ((fn_number_termT P).is (b_tup (Nat.add_comm ..▸h) rfl)))
  | _=>cases hp
 | false =>
  have hf:(T.prod (T.nm r :: t.facs)).enc=.tup [.str "prod",.tup [(T.nm r).enc,t.enc]]:=by cases t <;> first | rfl | cases hp
  exact in2 P 45 "r" "rest" fun f i P=>wn_head P i.ok (XL_v i.ok P ((fn_number_termT P).is (both_f (decide_eq_false (kind_prod hp)) (b_tup (Nat.le_of_ble_eq_true rfl) (ret_of hf.symm)))))
end
end
section
noncomputable def T.sumsOf:T->List T
 | .sum us=>us
 | t=>[t]
noncomputable def flatS (ts:List T):List T:=ts.flatMap T.sumsOf
noncomputable def flatP (ts:List T):List T:=ts.flatMap T.facs
section
variable {c:Cx}
theorem kind_call (t:T):t.kind≠"call":=by cases t <;> exact of_decide_eq_false rfl
theorem fn_is_one_call (P:Pg c) {t:T}{n:PV}:Fn c 1 "is_one_call" [.val t.enc,.val n] (fun v=>v=⟨.val (.bool false),true⟩) False :=
 go2_0 P 48 "t" "name" fun f F P _=>both_f (decide_eq_false (kind_call t)) rfl
theorem asp_A (P:Pg c) {t:T} (h:t.kind≠"pow"):Fn c 3 "as_power" [.val t.enc] (fun v=>v=⟨.val (.tup [t.enc,(T.num 1 1).enc]),true⟩) False :=
 go1 P 49 "t" fun f F P _=>both_f (decide_eq_false h) ((fn_is_one_call P).is rfl)
theorem fn_as_power (P:Pg c) {t:T}:Fn c 3 "as_power" [.val t.enc] (fun v=>v=⟨.val (.tup [t.base.enc,t.exp.enc]),true⟩) False:=by
 cases t with
 | pow b e=>exact go1 P 49 "t" fun _ _ _ _=>rfl
 | _=>exact asp_A P (of_decide_eq_false rfl)
structure Flat (k:Str) (g:T->List T) (t:T):Prop where
 one:t.kind=k->t.enc=.tup [.str k,.tup ((g t).map T.enc)]
 other:t.kind≠k->g t=[t]
theorem flat_sum (t:T):Flat "sum" T.sumsOf t:=by
 cases t with
 | sum ts=>exact ⟨fun _=>T.enc_sum ts,fun h=>absurd rfl h⟩
 | _=>exact ⟨fun h=>absurd h (of_decide_eq_false rfl),fun _=>rfl⟩
theorem flat_prod (t:T):Flat "prod" T.facs t:=by
 cases t with
 | prod ts=>exact ⟨fun _=>T.enc_prod ts,fun h=>absurd rfl h⟩
 | _=>exact ⟨fun h=>absurd h (of_decide_eq_false rfl),fun _=>rfl⟩
theorem fn_flat (P:Pg c) {k:Str}{ts:List T}{u:Addr}{g:T->List T}{Q:RV->Prop}{X:Prop}{d:Nat} (hg:∀ t,Flat k g t) (hlen:(ts.flatMap g).length≤1000000) (q:∀ a,Q ⟨.lst a ((ts.flatMap g).map T.enc),true⟩) (hd:1≤d:=by exact Nat.le_of_ble_eq_true rfl) :
  Fn c d "flat_parts" [.lst u (ts.map T.enc),.val (.str k)] Q X:=by
 refine Fn.up (go2_0 P 46 "parts" "kind" fun f F P _ a=>XS_For F (.inl rfl) (ES_Name F (nw:=false) rfl (fun _=>rfl) (loopV (fun w:List T=>[("kind",.im (.str k)),("found",⟨.lst a (w.map T.enc),true⟩)]) (fun i w=>w=(ts.take i).flatMap g) [] ⟨rfl,rfl,trivial⟩ rfl (fun T' K F1 i w y ρ σ hy hw=>?_) fun w ρ σ hw=>?_))) hd
 ·rw [List.getElem?_map,Option.map_eq_some_iff] at hy
  obtain ⟨t,ht,rfl⟩:=hy
  have step:w ++ g t=(ts.take (i+1)).flatMap g:=by refine hw▸?_;refine List.take_add_one▸?_;refine ht▸?_;refine List.flatMap_append▸?_;simp
  have hle:(w.map T.enc).length+((g t).map T.enc).length≤1000000:=by
   rw [List.length_map];rw [List.length_map];refine List.length_append▸?_;refine step▸?_
   rw [← List.take_append_drop (i+1) ts,List.flatMap_append,List.length_append] at hlen
   exact Nat.le_trans (Nat.le_add_right ..) hlen
  have hm:w.map T.enc ++ (g t).map T.enc=(w ++ g t).map T.enc:=List.map_append.symm
  by_cases hk:t.kind=k
  ·refine ((hg t).one hk)▸?_
   exact XL_v0 F1 P (XS_Extend F1 rfl (EV_v0 F1 P (both_t (decide_eq_true rfl) (t_listT (Nat.le_trans (Nat.le_add_left ..) hle) fun b=>⟨_,_,rfl,hle,w ++ g t,⟨rfl,congrArg (fun l=>some (RV.mk (.lst a l) true)) hm,trivial⟩,step⟩))))
  ·rw [(hg t).other hk] at hle hm step
   exact XL_v0 F1 P (XS_Extend F1 rfl (EV_v0 F1 P (both_f (decide_eq_false hk) fun b=>⟨_,_,rfl,hle,w ++ [t],⟨rfl,congrArg (fun l=>some (RV.mk (.lst a l) true)) hm,trivial⟩,step⟩)))
 ·rw [List.length_map,List.take_length] at hw
  subst hw
  exact q a
end
end
section
open Classical in
noncomputable def lookT (es:List (T×Rat)) (t:T):Option Rat:=(es.find? fun x=>decide (x.1=t)).map (·.2)
open Classical in
noncomputable def putT (es:List (T×Rat)) (t:T) (r:Rat):List (T×Rat):=if (lookT es t).isSome then es.map (fun x=>if x.1=t then (x.1,r) else x) else es ++ [(t,r)]
noncomputable def encW (v:Rat->PV) (x:T×Rat):PV×PV:=(x.1.enc,v x.2)
noncomputable def encE (x:T×Rat):PV×PV:=encW ratP x
open Classical in
theorem lookP_enc (v:Rat->PV) (es:List (T×Rat)) (t:T):lookP (es.map (encW v)) t.enc=(lookT es t).map v:=by
 unfold lookP lookT
 refine (List.find?_map)▸?_;rw [Option.map_map];rw [Option.map_map]
 have e:(fun x:T×Rat=>decide (x.1=t))=(fun x=>decide (x.1=t.enc)) ∘ encW v:=funext fun x=>decide_eq_decide.mpr ⟨congrArg T.enc,T.enc_inj _ _⟩
 refine e▸?_;rfl
open Classical in
theorem putP_enc (v:Rat->PV) (es:List (T×Rat)) (t:T) (r:Rat):putP (es.map (encW v)) t.enc (v r)=(putT es t r).map (encW v):=by
 unfold putP putT
 rw [lookP_enc];rw [Option.isSome_map]
 cases (lookT es t).isSome with
 | false=>exact (List.map_append (f:=encW v) (l₂:=[(t,r)])).symm
 | true =>
  show List.map _ (es.map _)=List.map _ (es.map _)
  rw [List.map_map];rw [List.map_map]
  refine List.map_congr_left fun x _=>?_
  show (if x.1.enc=t.enc then (x.1.enc,v r) else encW v x)=encW v (if x.1=t then (x.1,r) else x)
  by_cases h:x.1=t
  ·rw [if_pos h];rw [if_pos (congrArg T.enc h)];rfl
  ·rw [if_neg h];rw [if_neg fun e=>h (T.enc_inj _ _ e)]
theorem putT_len (es:List (T×Rat)) (t:T) (r:Rat):(putT es t r).length≤es.length+1:=by
 unfold putT
 split
 ·rw [List.length_map];exact Nat.le_succ _
 ·rw [List.length_append];exact Nat.le_refl _
theorem foldl_len {f:List (T×Rat)->T->List (T×Rat)} (h:∀ es p,(f es p).length≤es.length+1):∀ (ps:List T) (es:List (T×Rat)),(ps.foldl f es).length≤es.length+ps.length
 | [],es=>Nat.le_refl _
 | p :: ps,es=>Nat.le_trans (foldl_len h ps _) (Nat.le_trans (Nat.add_le_add_right (h es p) _) (Nat.le_of_eq (by rw [List.length_cons];rw [Nat.add_assoc];rw [Nat.add_comm 1])))
open Classical in
theorem lookT_none {es:List (T×Rat)}{t:T}:lookT es t=none↔t∉es.map (·.1):=by
 unfold lookT
 rw [Option.map_eq_none_iff];rw [List.find?_eq_none];rw [List.mem_map]
 exact ⟨fun h ⟨x,hx,e⟩=>h x hx (decide_eq_true e),fun h x hx e=>h ⟨x,hx,of_decide_eq_true e⟩⟩
open Classical in
theorem putT_keys {es:List (T×Rat)} (t:T) (r:Rat) (h:(es.map (·.1)).Nodup):((putT es t r).map (·.1)).Nodup:=by
 unfold putT
 cases q:lookT es t with
 | none =>
  show ((es ++ [(t,r)]).map (·.1)).Nodup
  rw [List.map_append];rw [List.nodup_append]
  refine ⟨h,List.pairwise_singleton _ _,fun a ha b hb e=>?_⟩
  have e:a=t:=e.trans (List.mem_singleton.mp hb)
  exact lookT_none.mp q (e▸ha)
 | some v =>
  show ((es.map fun x=>if x.1=t then (x.1,r) else x).map (·.1)).Nodup
  have e:∀ x:T×Rat,((·.1) ∘ fun x:T×Rat=>if x.1=t then (x.1,r) else x) x=x.1:=fun x=>by
   show (if x.1=t then (x.1,r) else x).1=x.1
   split <;> rfl
  rwa [List.map_map,List.map_congr_left fun x _=>e x]
noncomputable def addTo (es:List (T×Rat)) (p:T):List (T×Rat):=putT es p.rest ((lookT es p.rest).getD 0+p.cf)
noncomputable def count (ps:List T):List (T×Rat):=ps.foldl addTo []
theorem count_snoc (ps:List T) (p:T):count (ps ++ [p])=addTo (count ps) p:=List.foldl_append
theorem count_keys (ps:List T):((count ps).map (·.1)).Nodup:=by
 have:∀ (ps:List T) (es:List (T×Rat)),(es.map (·.1)).Nodup->((ps.foldl addTo es).map (·.1)).Nodup:=fun ps=>by
  induction ps with
  | nil=>exact fun es h=>h
  | cons p ps ih=>exact fun es h=>ih _ (putT_keys _ _ h)
 exact this ps [] List.nodup_nil
theorem count_len (ps:List T):(count ps).length≤ps.length:=Nat.le_trans (foldl_len (fun es p=>putT_len ..) ps []) (Nat.le_of_eq (Nat.zero_add _))
open Classical in
noncomputable def dropT (es:List (T×Rat)) (t:T):List (T×Rat):=es.filter fun x=>decide (x.1≠t)
open Classical in
theorem dropT_self {es:List (T×Rat)}{t:T} (h:t∉es.map (·.1)):dropT es t=es :=
 List.filter_eq_self.mpr fun a ha=>decide_eq_true fun e=>h (e▸List.mem_map.mpr ⟨a,ha,rfl⟩)
open Classical in
theorem dropT_at {t:T}{r:Rat}:∀ {es:List (T×Rat)} (h:(es.map (·.1)).Nodup) {j:Nat},es[j]?=some (t,r)->es.eraseIdx j=dropT es t∧lookT es t=some r
 | [],_,j,q=>nomatch q
 | x :: es,h,0,q=>by
  cases Option.some.inj q
  rw [List.map_cons,List.nodup_cons] at h
  refine ⟨?_,?_⟩
  ·rw [List.eraseIdx_cons_zero];rw [dropT];rw [List.filter_cons];rw [if_neg (by simp)]
   exact (dropT_self h.1).symm
  ·rw [lookT];rw [List.find?_cons];rw [decide_eq_true rfl];rfl
 | x :: es,h,j+1,q=>by
  rw [List.map_cons,List.nodup_cons] at h
  have q:es[j]?=some (t,r):=q
  have hx:x.1≠t:=fun e=>h.1 (e▸List.mem_map.mpr ⟨(t,r),List.mem_of_getElem? q,rfl⟩)
  have i:=dropT_at h.2 q
  refine ⟨?_,?_⟩
  ·rw [List.eraseIdx_cons_succ];rw [dropT];rw [List.filter_cons];rw [if_pos (decide_eq_true hx)];rw [i.1];rfl
  ·rw [lookT];rw [List.find?_cons];rw [decide_eq_false hx];exact i.2
theorem dropT_none {es:List (T×Rat)}{t:T} (h:∀ (j:Nat) r,es[j]?≠some (t,r)):dropT es t=es∧lookT es t=none:=by
 have hm:t∉es.map (·.1):=fun hm=>by
  obtain ⟨x,hx,rfl⟩:=List.mem_map.mp hm
  obtain ⟨j,hj⟩:=List.mem_iff_getElem?.mp hx
  exact h j x.2 hj
 exact ⟨dropT_self hm,lookT_none.mpr hm⟩
noncomputable def numS (ps:List T):Rat:=(lookT (count ps) ONE).getD 0
open Classical in
noncomputable def othS (ps:List T):List (T×Rat):=(dropT (count ps) ONE).filter fun x=>decide (x.2≠0)
noncomputable def foundS (ps:List T):List T:=(othS ps).map fun x=>withN x.2 x.1
end
section
structure GOk (n L:Nat) (ps:List T):Prop where
 nok:∀ p∈ps,p.nok∧(∀ ts,p=.prod ts->ts.length≤1000000)∧p.rest.dp≤8∧Sq p.cf
 sq:∀ i,∀ t r,lookT (count (ps.take i)) t=some r->Sq r
 len:ps.length≤2 ^ L∧2 ^ L≤900000
 rest:∀ x∈count ps,∀ ts,x.1=.prod ts->ts.length < 1000000
 found:Rows n (foundS ps)
section
variable {c:Cx}
theorem sq_zero:Sq 0:=⟨Nat.two_pow_pos 2000,Nat.one_lt_two_pow (by decide)⟩
theorem key_enc {t:T} (h:t.dp≤8):∃ ks,t.enc=.tup ks∧(PV.tup ks).key 8=true:=⟨_,rfl,T.enc_key t 8 h⟩
theorem othS_len (ps:List T):(othS ps).length≤ps.length:=by
 unfold othS dropT
 exact Nat.le_trans (List.length_filter_le _ _) (Nat.le_trans (List.length_filter_le _ _) (count_len ps))
theorem GOk.few {n L:Nat}{ps:List T} (G:GOk n L ps):ps.length≤900000:=Nat.le_trans G.len.1 G.len.2
theorem few_le {n:Nat} (h:n≤900000):n≤1000000:=Nat.le_trans h (by decide)
theorem sum_counts {f:Fx} (P:Pg f.c) {n L:Nat}{parts:List T} (G:GOk n L (flatS parts)) {d:Nat}{u:Addr} (F:f.Ok (dfn 47).scope (d+9)) {N:Ab->Box->Prop}{R:RV->Box->Prop}{X:Prop}
  (h:∀ ρ σ a,XL f (sets ρ [("number",.im (ratP (numS (flatS parts)))),("counts",⟨.dct a ((dropT (count (flatS parts)) ONE).map (encW ratP)),true⟩)]) σ (tlS (tlS (tlS (dfn 47).body))) N R X) :
  XL f (par1 "parts" (.lst u (parts.map T.enc))) ([],0) (dfn 47).body N R X:=by
 have lc:∀ ps:List T,ps.length≤900000->((count ps).map (encW ratP)).length≤1000000:=fun ps h=>by rw [List.length_map];exact few_le (Nat.le_trans (count_len ps) h)
 refine XL_step (XS_v F P fun ad=>XL_step (XS_For F (.inl rfl) (ES_val F (EV_v F P (fn_flat P flat_sum (few_le G.few) fun b=>⟨rfl,loopV (fun es:List (T×Rat)=>[("counts",⟨.dct ad (es.map (encW ratP)),true⟩)]) (fun i es=>es=count ((flatS parts).take i)) [] ⟨rfl,trivial⟩ rfl (fun T' K F1 i es y ρ σ hy hJ=>?_) fun es ρ σ hJ=>?_⟩)))))
 ·subst hJ
  rw [List.getElem?_map,Option.map_eq_some_iff] at hy
  obtain ⟨p,hp,rfl⟩:=hy
  have hp:(flatS parts)[i]?=some p:=hp
  have k:=G.nok p (List.mem_of_getElem? hp)
  have hsq:Sq ((lookT (count ((flatS parts).take i)) p.rest).getD 0):=by
   cases q:lookT (count ((flatS parts).take i)) p.rest with
   | none=>exact sq_zero
   | some r=>exact G.sq i _ r q
  have key:=T.enc_key p.rest 8 k.2.2.1
  have add:Fn f.c 5 "radd" [.val ((lookP ((count ((flatS parts).take i)).map (encW ratP)) p.rest.enc).getD (ratP 0)),.val (ratP p.cf)] (fun r=>r=⟨.val (ratP ((lookT (count ((flatS parts).take i)) p.rest).getD 0+p.cf)),true⟩) False:=by
   refine (lookP_enc ..)▸?_;refine (Option.getD_map ..)▸?_
   exact fn_radd P hsq k.2.2.2
  refine XL_v F1 P ((fn_number_and_rest P k.1 k.2.1).is (XS_SetItem F1 rfl (lc _ (Nat.le_trans (List.length_take_le' ..) G.few)) (EV_v F1 P (EV_Get F1 (EV_v F1 P ⟨_,_,rfl,EV_v F1 P ⟨_,rfl,key,EV_v F1 P ⟨_,rfl,add.is ⟨_,rfl,EV_v F1 P ⟨_,rfl,key,_,⟨congrArg (fun l=>some (RV.mk (.dct ad l) true)) (putP_enc ratP _ p.rest _),trivial⟩,?_⟩⟩⟩⟩⟩)))))
  refine List.take_add_one▸?_;refine hp▸?_
  exact (count_snoc _ p).symm
 ·obtain rfl:es=count (flatS parts):=by refine hJ▸?_;rw [List.length_map];exact congrArg count List.take_length
  refine XL_step (XS_Pop F (.inl rfl) rfl (by decide) (lc _ G.few) (EV_v F P ⟨_,rfl,T.enc_key ONE 8 (by decide),EV_v F P ⟨_,rfl,fun hno=>?_,fun j y hj=>?_⟩⟩))
  ·have e:=dropT_none (es:=count (flatS parts)) (t:=ONE) fun j r hj=>hno j (ratP r) (by refine (List.getElem?_map)▸?_;refine hj▸?_;rfl)
   refine XL_has ?_ (h _ _ ad)
   refine ⟨?_,?_,trivial⟩
   ·rw [numS];rw [e.2];rfl
   ·refine e.1.symm▸?_;rfl
  ·rw [List.getElem?_map,Option.map_eq_some_iff] at hj
   obtain ⟨x,hj,hx⟩:=hj
   have hx1:x.1=ONE:=T.enc_inj _ _ (congrArg Prod.fst hx)
   have hx2:ratP x.2=y:=congrArg Prod.snd hx
   have e:=dropT_at (t:=ONE) (r:=x.2) (count_keys (flatS parts)) (j:=j) (by refine hj▸?_;exact hx1▸rfl)
   refine XL_has ?_ (h _ _ ad)
   refine ⟨?_,?_,trivial⟩
   ·rw [numS];rw [e.2];refine hx2▸?_;rfl
   ·refine e.1▸?_;refine (eraseIdx_map' ..)▸?_;rfl
end
end
section
section
variable {c:Cx}
theorem sum_found {f:Fx} (P:Pg f.c) {n L:Nat}{ps:List T} (G:GOk n L ps) {d:Nat} (F:f.Ok (dfn 47).scope (d+9)) {N:Ab->Box->Prop}{R:RV->Box->Prop}{X:Prop}{ρ:Ab}{σ:Box}{a:Addr}
  (h:∀ ρ σ a,XL f (sets ρ [("found",⟨.lst a ((foundS ps).map T.enc),true⟩),("number",.im (ratP (numS ps)))]) σ (tlS (tlS (tlS (tlS (dfn 47).body)))) N R X) :
  XL f (sets ρ [("number",.im (ratP (numS ps))),("counts",⟨.dct a ((dropT (count ps) ONE).map (encW ratP)),true⟩)]) σ (tlS (tlS (tlS (dfn 47).body))) N R X:=by
 have hlen:(dropT (count ps) ONE).length≤1000000:=few_le (Nat.le_trans (Nat.le_trans (List.length_filter_le _ _) (count_len ps)) G.few)
 refine XL_step (XS_AssignComp F (CScope.of (by decide +kernel)) (fun x hx e=>(CScope.nofree (by decide +kernel) x hx e).elim) (by decide +kernel) (fun g=>.pair (.inl (by decide +kernel)) (.inl (by decide +kernel))) (by decide +kernel)
  (EST_items F rfl rfl (fun h=>nomatch h) ?_))
 refine List.map_map.symm▸?_
 refine comp_gen (fun x=>[x.1.enc,ratP x.2]) (fun x=>if decide (x.2≠0) then [(withN x.2 x.1).enc] else []) P hlen (fun x=>⟨⟨_,_,rfl,rfl⟩,rfl,fun zs ⟨u,v,e1,e2⟩=>by cases e1;exact e2⟩) (fun g hc G' P z hz=>?_) fun b=>?_
 ·refine ET_v G' P (bth_ndec (fun hne=>EV_v G' P ((fn_with_number P (r:=z.2) (t:=z.1) (G.rest z (List.mem_filter.mp hz).1)).is ⟨_,rfl,?_,rfl⟩)) fun heq=>⟨?_,rfl⟩)
  ·have n:z.2≠0:=fun e=>hne (Rat.num_eq_zero.mpr e)
   exact (if_pos (decide_eq_true n))▸rfl
  ·have n:¬ z.2≠0:=fun h=>h (Rat.num_eq_zero.mp heq)
   exact (if_neg fun e=>n (of_decide_eq_true e))▸rfl
 ·refine XL_has ?_ (h _ _ b)
  refine ⟨?_,rfl,trivial⟩
  rw [flatMap_if];rw [foundS];refine List.map_map.symm▸?_;rfl
end
end
section
open Classical in
noncomputable def tailS (q:Rat):List T:=if q=0 then [] else [T.nm q]
noncomputable def closeL:List T->T
 | []=>ZERO
 | [x]=>x
 | xs=>.sum xs
inductive GS:List T->T->Prop
 | done {parts us:List T}:(∀ t∈foundS (flatS parts),t.isSum=false)->Sorted us (foundS (flatS parts))->GS parts (closeL (us ++ tailS (numS (flatS parts))))
 | again {parts:List T}{u:T}:(∃ t∈foundS (flatS parts),t.isSum=true)->GS (foundS (flatS parts) ++ [T.nm (numS (flatS parts))]) u->GS parts u
inductive GT (n L:Nat):Nat->List T->Prop
 | done {m:Nat}{parts:List T}:GOk n L (flatS parts)->parts.length≤1000000->(∀ t∈foundS (flatS parts),t.isSum=false)->GT n L m parts
 | again {m:Nat}{parts:List T}:GOk n L (flatS parts)->parts.length≤1000000->(∃ t∈foundS (flatS parts),t.isSum=true)->GT n L m (foundS (flatS parts) ++ [T.nm (numS (flatS parts))])->GT n L (m+1) parts
section
variable {c:Cx}
theorem foundS_len (ps:List T):(foundS ps).length≤ps.length:=by unfold foundS;rw [List.length_map];exact othS_len ps
theorem somN {a:Addr}{zs:List T}:(some ⟨.lst a (zs.map T.enc ++ []),true⟩:Option RV)=some ⟨.lst a (zs.map T.enc),true⟩:=by exact (List.append_nil ..)▸rfl
theorem close_sum {f:Fx} (P:Pg f.c) {d:Nat} (F:f.Ok (dfn 47).scope (d+9)) {ρ:Ab}{σ:Box}{b:Addr}{xs:List T}{Q:RV->Prop}{X:Prop} (hl:xs.length≤1000000) (q:Q ⟨.val (closeL xs).enc,true⟩) :
  XL f (sets ρ [("found",⟨.lst b (xs.map T.enc),true⟩)]) σ (tlS (tlS (tlS (tlS (tlS (tlS (dfn 47).body)))))) (fun _ _=>False) (fun r _=>Q r) X:=by
 have hl:(xs.map T.enc).length≤1000000:=by rwa [List.length_map]
 match xs,hl,q with
 | [],hl,q=>exact XL_v F P (t_lenL hl q)
 | [x],hl,q=>exact XL_v F P (t_lenL hl (t_lenL hl q))
 | x :: y :: r,hl,q =>
  have q:Q ⟨.val (T.sum (x :: y :: r)).enc,true⟩:=q
  rw [T.enc_sum] at q
  exact XL_v F P (t_lenL hl (t_lenL hl (t_tuple hl q)))
theorem gsum_round (P:Pg c) {n L d:Nat} (hd:8 * n+5+2 * L≤d+8) {parts:List T}{u:Addr}{Q:RV->Prop}{X:Prop} (G:GOk n L (flatS parts))
  (next:(∃ t∈foundS (flatS parts),t.isSum=true)->∀ v,Fn c (d+8) "gathered_sum" [.lst v ((foundS (flatS parts) ++ [T.nm (numS (flatS parts))]).map T.enc)] Q X)
  (q:(∀ t∈foundS (flatS parts),t.isSum=false)->∀ us,Sorted us (foundS (flatS parts))->Q ⟨.val (closeL (us ++ tailS (numS (flatS parts)))).enc,true⟩) :
  Fn c (d+10) "gathered_sum" [.lst u (parts.map T.enc)] Q X:=by
 refine in1 P 47 "parts" fun f i P=>?_
 obtain ⟨F,rfl,_⟩:=i
 have few:=Nat.le_trans (foundS_len _) G.few
 refine sum_counts P G F fun ρ σ a=>sum_found P G F fun ρ σ a=>XL_step (XS_v F P ?_)
 refine EV_Comp F (CScope.of (by decide +kernel)) (fun x hx e=>(CScope.nofree (by decide +kernel) x hx e).elim) (fun g=>.name (.inl (by decide +kernel))) (by decide +kernel) (ES.T F (ES_Name F (nw:=true) rfl (fun h=>nomatch h) ?_))
 refine comp_filter (fun t=>t.isSum) P (few_le few) (fun g hc G' P t ht=>?_) fun b=>t_lenL ?_ (dec_both (fun hgt=>(fn_number_termT P).is fun b2=>b_lst ?_ fun b3=>?_) fun hle=>?_)
 ·exact ET_v G' P (bth_dec (fun h=>EV_v G' P ⟨_,rfl,(if_pos ((isSum_dec t).symm.trans (decide_eq_true h))).symm,rfl⟩) fun h=>⟨(if_neg (Bool.eq_false_iff.mp ((isSum_dec t).symm.trans (decide_eq_false h)))).symm,rfl⟩)
 ·rw [List.length_map];exact few_le (Nat.le_trans (List.length_filter_le _ _) few)
 ·rw [List.length_map];exact Nat.le_trans (Nat.add_le_add_right few 1) (by decide)
 ·rw [List.length_map] at hgt
  obtain ⟨t,ht⟩:=List.exists_mem_of_length_pos (Int.ofNat_lt.mp hgt)
  have m:=List.mem_filter.mp ht
  have nx:=next ⟨t,m.1,m.2⟩ b3
  replace nx:=List.map_append▸nx
  exact Fn.ret nx
 ·have hno:∀ t∈foundS (flatS parts),t.isSum=false:=fun t ht=>Bool.eq_false_iff.mpr fun hs=>hle (Int.ofNat_lt.mpr (List.length_pos_of_mem (List.mem_map.mpr ⟨t,List.mem_filter.mpr ⟨ht,hs⟩,rfl⟩)))
  have hq:=q hno
  refine XL_cutH (fun w:Addr×List T=>[("found",⟨.lst w.1 (w.2.map T.enc),true⟩)]) (fun w _=>∃ us,Sorted us (foundS (flatS parts))∧w.2=us ++ tailS (numS (flatS parts))) (XS_v F P (Fn.up (fn_sort P L (foundS (flatS parts)) _ (Nat.le_trans (foundS_len _) G.len.1) (few_le few) G.found fun b us hs=>dec_not (fun hne=>(fn_number_termT P).is fun b4=>b_lst ?_ fun b5=>⟨(b5,us ++ [T.nm (numS (flatS parts))]),⟨somA,trivial⟩,us,hs,?_⟩) fun heq b4=>b_lst ?_ fun b5=>⟨(b5,us),⟨somN,trivial⟩,us,hs,?_⟩) hd)) fun w ρ σ ⟨us,hs,e⟩=>close_sum P F ?_ (e▸hq us hs)
  ·rw [List.length_map];rw [hs.1.length_eq];exact Nat.le_trans (Nat.add_le_add_right few 1) (by decide)
  ·unfold tailS;exact (if_neg fun e=>hne (Rat.num_eq_zero.mpr e))▸rfl
  ·rw [List.length_map];rw [hs.1.length_eq];exact few_le few
  ·unfold tailS;refine (if_pos (Rat.num_eq_zero.mp heq))▸?_;exact (List.append_nil us).symm
  ·refine e▸?_;refine List.length_append▸?_;refine hs.1.length_eq▸?_
   refine Nat.le_trans (Nat.add_le_add few (?_:(tailS _).length≤1)) (by decide)
   unfold tailS
   split
   ·exact Nat.zero_le 1
   ·exact Nat.le_refl 1
theorem fn_gsum (P:Pg c) {n L:Nat} (m:Nat):∀ (parts:List T) (u:Addr) {Q:RV->Prop}{X:Prop},GT n L m parts->(∀ t,GS parts t->Q ⟨.val t.enc,true⟩)->Fn c (8 * n+2 * L+20+2 * m) "gathered_sum" [.lst u (parts.map T.enc)] Q X:=by
 have dn:∀ m,8 * n+5+2 * L≤8 * n+2 * L+10+2 * m+8:=fun m=>Nat.le_trans (Nat.le_of_eq (Nat.add_right_comm ..)) (Nat.le_trans (Nat.add_le_add_left (by decide:5≤10) _) (Nat.le_trans (Nat.le_add_right _ (2 * m)) (Nat.le_add_right ..)))
 have done:∀ (m:Nat) (parts:List T) (u:Addr) {Q:RV->Prop}{X:Prop},GOk n L (flatS parts)->(∀ t∈foundS (flatS parts),t.isSum=false)->(∀ t,GS parts t->Q ⟨.val t.enc,true⟩)->Fn c (8 * n+2 * L+20+2 * m) "gathered_sum" [.lst u (parts.map T.enc)] Q X:=fun m parts u Q X G hno q=>by
  refine (show 8 * n+2 * L+20+2 * m=8 * n+2 * L+10+2 * m+10 from Nat.add_right_comm (8 * n+2 * L+10) 10 (2 * m))▸?_
  exact gsum_round P (dn m) G (fun hq_=>by obtain ⟨t,ht,hs⟩:=hq_;exact nomatch (hno t ht).symm.trans hs) fun hno us hs=>q _ (.done hno hs)
 induction m with
 | zero=>exact fun parts u Q X h q=>by cases h with | done G hp hno=>exact done 0 parts u G hno q
 | succ m ih =>
  intro parts u Q X h q
  cases h with
  | done G hp hno=>exact done (m+1) parts u G hno q
  | again G hp hex hT =>
   refine (show 8 * n+2 * L+20+2 * (m+1)=8 * n+2 * L+10+2 * (m+1)+10 from Nat.add_right_comm (8 * n+2 * L+10) 10 (2 * (m+1)))▸?_
   exact gsum_round P (dn _) G (fun _ v=>Fn.up (ih _ v hT fun t hg=>q t (.again hex hg)) (Nat.le_of_eq (Nat.add_right_comm (8 * n+2 * L+10) 10 (2 * m)))) fun hno us hs=>q _ (.done hno hs)
end
end
section
open Classical in
noncomputable def powT (b:T) (e:Rat):T:=if e=0 then ONE else if e=1 then b else .pow b (T.nm e)
theorem powT_0 {b:T}{e:Rat} (h:e=0):powT b e=ONE:=if_pos h
theorem powT_1 {b:T}{e:Rat} (h:e=1):powT b e=b:=(if_neg (by refine h▸?_;decide)).trans (if_pos h)
theorem powT_n {b:T}{e:Rat} (h:e≠0) (h':e≠1):powT b e=.pow b (T.nm e):=(if_neg h).trans (if_neg h')
structure Atom (t:T):Prop where
 num:t.isNum=false
 prod:t.isProd=false
 pow:∀ b e,t≠.pow b e
section
variable {c:Cx}
theorem fn_iswholeT (P:Pg c) {r:Rat} (h:r.den=1):Fn c 1 "is_whole_num" [.val (T.nm r).enc] (fun v=>v=⟨.val (.bool true),true⟩) False:=by
 have k:=fn_is_whole_num P (p:=r.num) (q:=r.den)
 rwa [decide_eq_true (by refine h▸?_;rfl)] at k
theorem kind_pow {t:T} (h:∀ b e,t≠.pow b e):t.kind≠"pow":=by
 cases t with
 | pow b e=>exact absurd rfl (h b e)
 | _=>exact of_decide_eq_false rfl
theorem q_exp {t:T} (hd:t.dp≤50) {n1 n2:Bool}{K:Bool->Prop} (k:K false):CmpQ c .Eq ⟨.val t.enc,n1⟩ ⟨.val (.tup [.str "call",.str "exp",.tup [ONE.enc]]),n2⟩ K :=
 q_vv t.enc_nb rfl (.inl (by rwa [T.enc_depth])) (bF (fun e=>by
  injection e with e
  injection e with e
  injection e with e
  exact kind_call t e) k)
theorem power_head {f:Fx} (P:Pg f.c) {t:T}{e:Rat} (hd:t.dp≤50) {d:Nat} (F:f.Ok (dfn 51).scope (d+1)) {N:Ab->Box->Prop}{R:RV->Box->Prop}{X:Prop}
  (hz:e=0->t=ZERO->∀ ρ σ N,XS f ρ σ (hdS (ifA (hdS (ifA (hdS (dfn 51).body))))) N R X) (h0:e=0->t≠ZERO->∀ σ,R ⟨.val ONE.enc,true⟩ σ) (h1:e=1->∀ σ,R ⟨.val t.enc,true⟩ σ)
  (h:e≠0->e≠1->XL f (par2 "base" "exponent" (.val t.enc) (.val (T.nm e).enc)) ([],0) (tlS (tlS (tlS (dfn 51).body))) N R X):XL f (par2 "base" "exponent" (.val t.enc) (.val (T.nm e).enc)) ([],0) (dfn 51).body N R X:=by
 classical
 exact XL_step (XS_v F P (q_eqT (a:=T.nm e) (b:=ZERO) (.inr (by decide)) (dec_both (fun e0=>q_eqT (a:=t) (b:=ZERO) (.inr (by decide)) (dec_both (fun hb=>hz (nm_inj.mp e0) hb _ _ _) fun hb=>h0 (nm_inj.mp e0) hb _)) fun e0 =>
  XL_step (XS_v F P (q_eqT (a:=T.nm e) (b:=ONE) (.inr (by decide)) (dec_both (fun e1=>h1 (nm_inj.mp e1) _) fun e1=>XL_step (XS_v F P (q_exp hd (h (fun x=>e0 (nm_inj.mpr x)) fun x=>e1 (nm_inj.mpr x))))))))))
theorem fn_power_atom (P:Pg c) {b:T}{e:Rat} (ha:Atom b) (hd:b.dp≤40) (hw:e.den=1):Fn c 3 "power_of" [.val b.enc,.val (T.nm e).enc] (fun v=>v=⟨.val (powT b e).enc,true⟩) False :=
 in2 P 51 "base" "exponent" fun f i P=>power_head P (Nat.le_trans hd (by decide)) i.ok (fun _ h=>by subst h;cases ha.num) (fun e0 _ _=>ret_of (congrArg T.enc (powT_0 e0).symm)) (fun e1 _=>ret_of (congrArg T.enc (powT_1 e1).symm)) fun e0 e1 =>
  XL_v i.ok P (both_f (decide_eq_false (kind_num ha.num)) ((fn_iswholeT P hw).is (both_t rfl (both_f (decide_eq_false (kind_prod ha.prod)) ((fn_iswholeT P hw).is (both_t rfl (both_f (decide_eq_false (kind_pow ha.pow)) ((fn_iswholeT P hw).is ((fn_is_one_call P).is
   (q_in false ⟨nofun,fun h=>(List.mem_cons.mp h).elim (fun e=>absurd (PV.str.inj e) (kind_prod ha.prod)) fun h=>absurd (PV.str.inj (List.mem_singleton.mp h)) (kind_pow ha.pow)⟩ rfl ((fn_is_one_call P).is (ret_of (congrArg T.enc (powT_n e0 e1).symm)))))))))))))
end
end
section
open Classical in
theorem look_one (t u:T) (q:Rat):lookT [(t,q)] u=if t=u then some q else none:=by
 unfold lookT
 refine (List.find?_cons)▸?_
 by_cases h:t=u
 ·refine (decide_eq_true h)▸?_;refine (if_pos h)▸?_;rfl
 ·refine (decide_eq_false h)▸?_;refine (if_neg h)▸?_;rfl
theorem nm_cf (a:Rat):(T.nm a).cf=a:=Rat.num_divInt_den a
theorem count_one (a:Rat):count [T.nm a]=[(ONE,a)]:=by
 show putT [] ONE ((lookT [] ONE).getD 0+(T.nm a).cf)=_
 refine (nm_cf ..)▸?_;refine (show (lookT [] ONE).getD 0=0 from rfl ..)▸?_;refine (Rat.zero_add ..)▸?_;rfl
open Classical in
theorem count_two (a b:Rat):count [T.nm a,T.nm b]=[(ONE,a+b)]:=by
 show putT (count [T.nm a]) ONE ((lookT (count [T.nm a]) ONE).getD 0+(T.nm b).cf)=_
 rw [count_one];rw [nm_cf];rw [look_one];rw [if_pos rfl]
 unfold putT
 rw [look_one];rw [if_pos rfl]
 show [if ONE=ONE then _ else _]=_
 rw [if_pos rfl];rfl
theorem nums_S {a b:Rat}:foundS [T.nm a,T.nm b]=[]∧numS [T.nm a,T.nm b]=a+b:=by
 unfold foundS othS numS
 refine (count_two ..)▸?_;refine (look_one ..)▸?_;refine (if_pos rfl ..)▸?_
 refine ⟨?_,rfl⟩
 rw [dropT];rw [List.filter_cons];rw [if_neg (by simp)];rfl
theorem closeL_tail (q:Rat):closeL (tailS q)=T.nm q:=by
 unfold tailS
 by_cases h:q=0
 ·refine (if_pos h)▸?_;refine h▸?_;rfl
 ·refine (if_neg h)▸?_;rfl
theorem GS_nums {a b:Rat}{t:T} (h:GS [T.nm a,T.nm b] t):t=T.nm (a+b):=by
 have e:=nums_S (a:=a) (b:=b)
 cases h with
 | @done _ us hno hs =>
  have hs:Sorted us (foundS [T.nm a,T.nm b]):=hs
  replace hs:=e.1▸hs
  show closeL (us ++ tailS (numS [T.nm a,T.nm b]))=_
  refine (List.Perm.eq_nil hs.1).symm▸?_;refine e.2.symm▸?_;rw [List.nil_append];rw [closeL_tail]
 | again hex _ =>
  obtain ⟨t,ht,_⟩:=hex
  have ht:t∈foundS [T.nm a,T.nm b]:=ht
  replace ht:=e.1▸ht
  cases ht
section
variable {c:Cx}
theorem GOk_nums {a b:Rat} (ha:Sq a) (hb:Sq b) (hab:Sq (a+b)):GOk 0 1 [T.nm a,T.nm b]:=by
 have one:∀ q:Rat,Sq q->(T.nm q).nok∧(∀ ts,T.nm q=.prod ts->ts.length≤1000000)∧(T.nm q).rest.dp≤8∧Sq (T.nm q).cf:=fun q h=>⟨⟨q,rfl,rfl⟩,nofun,(by decide:1≤8),(nm_cf q).symm▸h⟩
 have look:∀ {q r:Rat}{t:T},Sq q->lookT [(ONE,q)] t=some r->Sq r:=fun hq h=>by
  rw [look_one] at h
  split at h <;> cases h
  exact hq
 refine ⟨fun p hp=>(List.mem_cons.mp hp).elim (fun e=>e▸one a ha) fun h=>(List.mem_singleton.mp h)▸one b hb,fun i t r h=>?_,(by decide:2≤2 ^ 1∧2 ^ 1≤900000),fun x hx ts e=>?_,by refine nums_S.1.symm▸?_;exact ⟨nofun,nofun⟩⟩
 ·match i,h with
  | 0,h=>exact non h
  | 1,h=>exact look ha (count_one a▸h)
  | i+2,h =>
   rw [show [T.nm a,T.nm b].take (i+2)=[T.nm a,T.nm b] from List.take_of_length_le (Nat.le_add_left ..),count_two] at h
   exact look hab h
 ·rw [count_two] at hx
  replace e:=(List.mem_singleton.mp hx)▸e
  cases e
theorem fn_gsum_nums (P:Pg c) {a b:Rat}{v:Addr} (ha:Sq a) (hb:Sq b) (hab:Sq (a+b)):Fn c 22 "gathered_sum" [.lst v [(T.nm a).enc,(T.nm b).enc]] (fun r=>r=⟨.val (T.nm (a+b)).enc,true⟩) False :=
 fn_gsum P 0 [T.nm a,T.nm b] v (.done (GOk_nums ha hb hab) (by decide:2≤1000000) fun t ht=>by
  have ht:t∈foundS [T.nm a,T.nm b]:=ht
  replace ht:=nums_S.1▸ht
  cases ht) fun t hg=>by exact (GS_nums hg)▸rfl
end
end
section
noncomputable def nmE (r:Rat):PV:=(T.nm r).enc
open Classical in
theorem look_put (es:List (T×Rat)) (t:T) (r:Rat):lookT (putT es t r) t=some r:=by
 unfold putT
 cases q:lookT es t with
 | none =>
  show lookT (es ++ [(t,r)]) t=_
  unfold lookT at q ⊢
  rw [Option.map_eq_none_iff] at q
  rw [List.find?_append];rw [q];rw [List.find?_cons];rw [decide_eq_true rfl];rfl
 | some v =>
  show lookT (es.map fun x=>if x.1=t then (x.1,r) else x) t=_
  induction es with
  | nil=>exact non q
  | cons x es ih =>
   unfold lookT at q ih ⊢
   rw [List.map_cons];rw [List.find?_cons]
   rw [List.find?_cons] at q
   by_cases h:x.1=t
   ·rw [if_pos h];rw [decide_eq_true (show (x.1,r).1=t from h)];rfl
   ·rw [if_neg h];rw [decide_eq_false h]
    rw [decide_eq_false h] at q
    exact ih q
noncomputable def addE (es:List (T×Rat)) (p:T):List (T×Rat):=if p.isNum then es else putT es p.base ((lookT es p.base).getD 0+p.exp.val)
noncomputable def countE (ps:List T):List (T×Rat):=ps.foldl addE []
noncomputable def numP' (ps:List T):Rat:=ps.foldl (fun q p=>if p.isNum then q * p.val else q) 1
theorem countE_snoc (ps:List T) (p:T):countE (ps ++ [p])=addE (countE ps) p:=List.foldl_append
theorem numP_snoc (ps:List T) (p:T):numP' (ps ++ [p])=if p.isNum then numP' ps * p.val else numP' ps:=List.foldl_append
theorem countE_len (ps:List T):(countE ps).length≤ps.length :=
 Nat.le_trans (foldl_len (fun es p=>by
  unfold addE
  split
  ·exact Nat.le_succ _
  ·exact putT_len ..) ps []) (Nat.le_of_eq (Nat.zero_add _))
structure POk (ps:List T):Prop where
 num:∀ p∈ps,p.isNum=true->∃ r:Rat,p=T.nm r∧Sq r
 fac:∀ p∈ps,p.isNum=false->p.base.dp≤8∧∃ r:Rat,p.exp=T.nm r∧Sq r
 sqn:∀ i,Sq (numP' (ps.take i))
 sqe:∀ i,∀ t r,lookT (countE (ps.take i)) t=some r->Sq r
 len:ps.length≤900000
theorem mem_enc {v:Rat->PV}{es:List (T×Rat)}{t:T}:t.enc∈(es.map (encW v)).map (·.1)↔t∈es.map (·.1):=by
 rw [List.map_map];rw [List.mem_map];rw [List.mem_map]
 exact ⟨fun ⟨x,h,e⟩=>⟨x,h,T.enc_inj _ _ e⟩,fun ⟨x,h,e⟩=>⟨x,h,congrArg T.enc e⟩⟩
noncomputable def pI (ad:Addr) (u:List (T×Rat)×Rat×Bool):List (Str×RV):=[("exponents",⟨.dct ad (u.1.map (encW nmE)),true⟩),("number",⟨.val (ratP u.2.1),u.2.2⟩)]
section
variable {c:Cx}
theorem prod_part {f:Fx} (P:Pg f.c) {d:Nat} (F:f.Ok (dfn 50).scope (d+30)) {p:T}{ad:Addr}{es:List (T×Rat)}{q:Rat}{nw:Bool}{ρ:Ab}{σ:Box}{R:RV->Box->Prop}{J:List (T×Rat)×Rat×Bool->Prop} (hl:es.length≤1000000)
  (hn:p.isNum=false) (hd:p.base.dp≤8) {r:Rat} (hr:p.exp=T.nm r) (sr:Sq r) (hs:∀ v,lookT es p.base=some v->Sq v∧Sq (v+r)) (h:J (putT es p.base ((lookT es p.base).getD 0+r),q,nw)) :
  XL f (set (sets ρ (pI ad (es,q,nw))) "part" (.im p.enc)) σ (ifB (hdS (forB (hdS (tlS (dfn 50).body))))) (fun ρ' _=>∃ u,Has ρ' (pI ad u)∧J u) R False:=by
 have key:=T.enc_key p.base 8 hd
 have ap:=fn_as_power P (t:=p)
 rw [hr] at ap
 refine XL_v F P (ap.is (XS_SetItem F rfl (by rwa [List.length_map]) (EV_IfExp F (ET_v F P ?_))))
 cases e:lookT es p.base with
 | none =>
  rw [e,show (none:Option Rat).getD 0+r=r from Rat.zero_add r] at h
  exact q_inD key (bF (fun m=>lookT_none.mp e (mem_enc.mp m)) (bth_f rfl (EV_v F P ⟨_,rfl,EV_v F P ⟨_,rfl,key,(putT es p.base r,q,nw),⟨congrArg (fun l=>some (RV.mk (.dct ad l) true)) (putP_enc nmE es p.base r),rfl,trivial⟩,h⟩⟩)))
 | some v =>
  have sv:=hs v e
  rw [e] at h
  have lk:lookP (es.map (encW nmE)) p.base.enc=some (nmE v):=by refine (lookP_enc ..)▸?_;refine (e ..)▸?_;rfl
  have m:p.base.enc∈(es.map (encW nmE)).map (·.1):=mem_enc.mpr (Classical.byContradiction fun m=>by exact nob (lookT_none.mpr m) e)
  exact q_inD key (bT m (bth_t rfl (EV_Call F rfl (Pg.isFn P 47 (by decide +kernel)) (EL_cons F (EV_List F (EL_cons F (EV_SubD F (EV_v F P ⟨_,_,rfl,EV_v F P ⟨_,_,rfl,key,lk,EL_v F P ⟨_,rfl,(by decide:2≤1000000),fun b=>EL_v F P ((fn_gsum_nums P sv.1 sr sv.2).is
   ⟨_,rfl,EV_v F P ⟨_,rfl,key,(putT es p.base (v+r),q,nw),⟨congrArg (fun l=>some (RV.mk (.dct ad l) true)) (putP_enc nmE es p.base (v+r)),rfl,trivial⟩,h⟩⟩)⟩⟩⟩))))))))
theorem prod_counts {f:Fx} (P:Pg f.c) {parts:List T} (G:POk (flatP parts)) {d:Nat}{u:Addr} (F:f.Ok (dfn 50).scope (d+30)) {N:Ab->Box->Prop}{R:RV->Box->Prop}{X:Prop}
  (h:∀ ρ σ a nw,XL f (sets ρ (pI a (countE (flatP parts),numP' (flatP parts),nw))) σ (tlS (tlS (dfn 50).body)) N R X) :
  XL f (par1 "parts" (.lst u (parts.map T.enc))) ([],0) (dfn 50).body N R X:=by
 refine XL_step (XS_v F P fun ad=>XL_step (XS_For F (.inl rfl) (ES_val F (EV_v F P (fn_flat P flat_prod (few_le G.len) fun b=>⟨rfl,loopV (pI ad) (fun i w=>w.1=countE ((flatP parts).take i)∧w.2.1=numP' ((flatP parts).take i)) ([],1,false) ⟨rfl,rfl,trivial⟩ ⟨rfl,rfl⟩ (fun T' K F1 i w y ρ σ hy hJ=>?_) fun w ρ σ hJ=>?_⟩)))))
 ·obtain ⟨es,q,nw⟩:=w
  obtain ⟨rfl,rfl⟩:es=_∧q=_:=hJ
  rw [List.getElem?_map,Option.map_eq_some_iff] at hy
  obtain ⟨p,hp,rfl⟩:=hy
  have hp:(flatP parts)[i]?=some p:=hp
  have hm:=List.mem_of_getElem? hp
  have step:(flatP parts).take (i+1)=(flatP parts).take i ++ [p]:=by refine (List.take_add_one ..)▸?_;refine (hp ..)▸?_;rfl
  refine (step ..)▸?_;refine (countE_snoc ..)▸?_;refine (numP_snoc ..)▸?_
  cases hn:p.isNum with
  | true =>
   obtain ⟨r,rfl,hr⟩:=G.num p hm hn
   exact XL_v F1 P ((fn_rmul P (G.sqn i) hr).is ⟨(_,_,true),⟨rfl,rfl,trivial⟩,rfl,by refine (T.val_nm ..)▸?_;rfl⟩)
  | false =>
   obtain ⟨hd,r,hr,sr⟩:=G.fac p hm hn
   refine XL_step (XS.cut (XS_If F1 (ET_v F1 P (bth_f (decide_eq_false (kind_num hn)) (prod_part (f:=f.pin T' K) (J:=fun u=>u.1=addE (countE ((flatP parts).take i)) p∧u.2.1=numP' ((flatP parts).take i)) P F1 ?_ hn hd hr sr (fun v e=>⟨G.sqe i _ v e,G.sqe (i+1) p.base (v+r) ?_⟩) ⟨?_,rfl⟩)))) fun _ _ q=>XL_nil q)
   ·exact few_le (Nat.le_trans (countE_len _) (Nat.le_trans (List.length_take_le' ..) G.len))
   ·refine (step ..)▸?_;refine (countE_snoc ..)▸?_;rw [addE];rw [hn];refine (if_neg Bool.false_ne_true ..)▸?_;refine (hr ..)▸?_;refine (T.val_nm ..)▸?_;refine (e ..)▸?_;exact look_put _ _ _
   ·rw [addE];rw [hn];refine (if_neg Bool.false_ne_true ..)▸?_;refine (hr ..)▸?_;exact (T.val_nm ..)▸rfl
 ·obtain ⟨es,q,nw⟩:=w
  obtain ⟨rfl,rfl⟩:es=_∧q=_:=hJ
  rw [List.length_map]
  have e:(flatP parts).take (List.flatMap T.facs parts).length=flatP parts:=List.take_length
  refine e.symm▸?_
  exact h ρ σ ad nw
end
end
section
open Classical in
noncomputable def foundP (ps:List T):List T:=((countE ps).filter fun x=>decide (x.2≠0)).map fun x=>powT x.1 x.2
noncomputable def closeP (us:List T) (q:Rat):T:=match us with
 | []=>T.nm q
 | [x]=>withN q x
 | xs=>withN q (.prod xs)
structure POk2 (n L:Nat) (ps:List T):Prop where
 atom:∀ x∈countE ps,Atom x.1∧x.1.dp≤40∧x.2.den=1
 found:Rows n (foundP ps)
 len:ps.length≤2 ^ L∧2 ^ L≤900000
theorem powT_base {b:T}{e:Rat} (h:Atom b) (he:e≠0):(powT b e).base=b∧(powT b e).isNum=false∧(powT b e).isProd=false:=by
 by_cases h1:e=1
 ·refine (powT_1 h1)▸?_
  refine ⟨?_,h.num,h.prod⟩
  cases b with
  | pow b e=>exact absurd rfl (h.pow b e)
  | _=>rfl
 ·refine (powT_n he h1)▸?_;exact ⟨rfl,rfl,rfl⟩
noncomputable def fI (b:Addr) (q:Rat) (u:List T×Bool):List (Str×RV):=[("found",⟨.lst b (u.1.map T.enc),true⟩),("number",⟨.val (ratP q),u.2⟩),("is_done",.im (.bool true))]
section
variable {c:Cx}
open Classical in
theorem prod_found {f:Fx} (P:Pg f.c) {n L:Nat}{ps:List T} (G:POk2 n L ps) (hq:Sq (numP' ps)) {d:Nat} (F:f.Ok (dfn 50).scope (d+30)) {N:Ab->Box->Prop}{R:RV->Box->Prop}{X:Prop}{ρ:Ab}{σ:Box}{a:Addr}{nw:Bool}
  (hE:ρ "exponents"=some ⟨.dct a ((countE ps).map (encW nmE)),true⟩) {b:Addr} (hF:Has ρ (fI b (numP' ps) ([],nw)))
  (h:∀ ρ σ b nw,XL f (sets ρ (fI b (numP' ps) (foundP ps,nw))) σ (tlS (tlS (tlS (tlS (tlS (dfn 50).body))))) N R X) :
  XL f ρ σ (tlS (tlS (tlS (tlS (dfn 50).body)))) N R X:=by
 have few:(countE ps).length≤900000:=Nat.le_trans (countE_len ps) (Nat.le_trans G.len.1 G.len.2)
 refine XL_freeze hE (XL_step (XS_ForT F (fun g _=>.pair (.inl rfl) (.inl rfl)) (EST_items F (nw:=false) rfl rfl (fun _=>rfl) ?_)))
 refine List.map_map.symm▸?_
 refine loopTV (fun z:T×Rat=>[z.1.enc,nmE z.2]) (fun z=>⟨⟨_,_,rfl,rfl⟩,fun zs ⟨u,v,e1,e2⟩=>by cases e1;exact e2⟩) (fI b (numP' ps)) (fun i u=>u.1=(((countE ps).take i).filter fun x=>decide (x.2≠0)).map fun x=>powT x.1 x.2) ([],nw) hF rfl (fun T' K F1 i u z ρ σ hz hu=>?_) fun u ρ σ hu=>?_
 ·obtain ⟨us,nw⟩:=u
  have za:=G.atom z (List.mem_of_getElem? hz)
  have lu:(us.map T.enc).length≤1000000:=by
   rw [List.length_map];refine (show us=_ from hu ..)▸?_;rw [List.length_map]
   exact few_le (Nat.le_trans (List.length_filter_le _ _) (Nat.le_trans (List.length_take_le' ..) few))
  have pa:=fn_power_atom P za.1 za.2.1 za.2.2
  refine (List.take_add_one ..)▸?_;refine (hz ..)▸?_;refine (List.filter_append ..)▸?_;refine (List.map_append ..)▸?_
  by_cases h0:z.2=0
  ·rw [powT_0 h0] at pa
   refine XL_v F1 P (pa.is ((fn_rmul P (b:=1) hq sq_one).is ⟨(us,true),⟨rfl,?_,rfl,trivial⟩,?_⟩))
   ·refine (Rat.mul_one ..)▸?_;rfl
   ·refine (show (some z).toList=[z] from rfl ..)▸?_;refine (List.filter_cons ..)▸?_;rw [if_neg (by simp [h0])];exact hu.trans (List.append_nil _).symm
  ·have pb:=powT_base za.1 h0
   have ap:=fn_as_power P (t:=powT z.1 z.2)
   rw [pb.1] at ap
   refine XL_v F1 P (pa.is (both_f (decide_eq_false (kind_num pb.2.1)) (both_t (ndec (kind_prod pb.2.2)) (ap.is (q_vv z.1.enc_nb z.1.enc_nb (.inl ?_) (bT rfl (XS_Append F1 rfl lu (EV_v F1 P ⟨_,rfl,(us ++ [powT z.1 z.2],nw),⟨somA,rfl,rfl,trivial⟩,?_⟩))))))))
   ·refine (T.enc_depth ..)▸?_;exact Nat.le_trans za.2.1 (by decide)
   ·refine (show (some z).toList=[z] from rfl ..)▸?_;refine (List.filter_cons ..)▸?_;refine (if_pos (decide_eq_true h0) ..)▸?_
    exact congrArg (· ++ _) hu
 ·obtain ⟨us,nw⟩:=u
  obtain rfl:us=foundP ps:=by refine (show us=_ from hu ..)▸?_;refine (List.take_length ..)▸?_;rfl
  exact h ρ σ b nw
end
end
section
noncomputable def GP (parts:List T) (t:T):Prop:=(numP' (flatP parts)=0∧t=ZERO)∨(numP' (flatP parts)≠0∧∃ us,Sorted us (foundP (flatP parts))∧t=closeP us (numP' (flatP parts)))
section
variable {c:Cx}
theorem close_prod {f:Fx} (P:Pg f.c) {d:Nat} (F:f.Ok (dfn 50).scope (d+4)) {ρ:Ab}{σ:Box}{b:Addr}{us:List T}{q:Rat}{nw:Bool}{Q:RV->Prop}{X:Prop} (h0:q≠0) (hl:us.length≤900000) (hx:∀ x∈us,x.isProd=false) (k:Q ⟨.val (closeP us q).enc,true⟩) :
  XL f (sets ρ [("found",⟨.lst b (us.map T.enc),true⟩),("number",⟨.val (ratP q),nw⟩)]) σ (tlS (tlS (tlS (tlS (tlS (tlS (tlS (dfn 50).body))))))) (fun _ _=>False) (fun r _=>Q r) X:=by
 have hl':(us.map T.enc).length≤1000000:=by rw [List.length_map];exact few_le hl
 have n0:decide (q.num=0)=false:=decide_eq_false fun e=>h0 (Rat.num_eq_zero.mp e)
 match us,hl,hl',hx,k with
 | [],_,hl',_,k=>exact XL_v F P (t_lenL hl' ((fn_number_termT P).is k))
 | [x],_,hl',hx,k=>exact XL_v F P (t_lenL hl' (both_f n0 (t_lenL hl' ((fn_with_number P (r:=q) (t:=x) fun ts e=>by have:=hx x (.head _);replace this:=e▸this;cases this).is k))))
 | x :: y :: zs,hl,hl',_,k =>
  have wn:=fn_with_number P (r:=q) (t:=.prod (x :: y :: zs)) fun ts e=>by cases e;exact Nat.lt_of_le_of_lt hl (by decide)
  rw [T.enc_prod] at wn
  exact XL_v F P (t_lenL hl' (both_f n0 (t_lenL hl' (t_tuple hl' (wn.is k)))))
theorem fn_gprod (P:Pg c) {n L:Nat}{parts:List T}{u:Addr}{Q:RV->Prop}{X:Prop} (G:POk (flatP parts)) (G2:POk2 n L (flatP parts)) (k:∀ t,GP parts t->Q ⟨.val t.enc,true⟩) :
  Fn c (8 * n+2 * L+31) "gathered_product" [.lst u (parts.map T.enc)] Q X:=by
 have hq:Sq (numP' (flatP parts)):=by
  have:=G.sqn (flatP parts).length
  rwa [List.take_length] at this
 have hfl:(foundP (flatP parts)).length≤(flatP parts).length:=by
  unfold foundP
  rw [List.length_map]
  exact Nat.le_trans (List.length_filter_le _ _) (countE_len _)
 have few:=Nat.le_trans hfl G.len
 refine in1 P 50 "parts" fun f i P=>prod_counts (d:=8 * n+2 * L) P G i.ok fun ρ σ a nw=>XL_step (XS_v i.ok P (dec_both (fun h0=>k ZERO (.inl ⟨Rat.num_eq_zero.mp h0,rfl⟩)) fun h0=>XL_step (XS_v i.ok P fun b=>?_)))
 have h0:numP' (flatP parts)≠0:=fun e=>h0 (Rat.num_eq_zero.mpr e)
 refine prod_found P G2 hq i.ok rfl ⟨rfl,rfl,rfl,trivial⟩ fun ρ σ b nw=>XL_step (XS_v i.ok P (XL_cutH (fun w:Addr×List T=>[("found",⟨.lst w.1 (w.2.map T.enc),true⟩),("number",⟨.val (ratP (numP' (flatP parts))),nw⟩)]) (fun w _=>Sorted w.2 (foundP (flatP parts)))
  (XS_v i.ok P (Fn.up (fn_sort P L (foundP (flatP parts)) _ (Nat.le_trans hfl G2.len.1) (few_le few) G2.found fun b us hs=>⟨(b,us),⟨rfl,rfl,trivial⟩,hs⟩) ?_)) fun w ρ σ hs=>close_prod P i.ok h0 (by rw [hs.1.length_eq];exact few) (fun x hx=>?_) (k _ (.inr ⟨h0,w.2,hs,rfl⟩))))
 ·exact Nat.le_trans (Nat.le_of_eq (Nat.add_right_comm ..)) (Nat.add_le_add_left (by decide:5≤29) _)
 ·have hm:x∈foundP (flatP parts):=hs.1.mem_iff.mp hx
  obtain ⟨y,hy,rfl⟩:=List.mem_map.mp hm
  have m:=List.mem_filter.mp hy
  exact (powT_base (G2.atom y m.1).1 (of_decide_eq_true m.2)).2.2
end
end
section
theorem rpow_one (n:Int):rpow 1 n=1:=by
 have h:∀ m:Nat,(1:Rat) ^ m=1:=fun m=>by
  induction m with
  | zero=>rfl
  | succ m ih=>rw [Rat.pow_succ];rw [ih];rw [Rat.mul_one]
 unfold rpow
 rw [show (1:Rat)⁻¹=1 by decide +kernel];rw [h];rw [ite_self]
theorem rpow_zero' {n:Int} (h:0 < n):rpow 0 n=0:=by
 obtain ⟨m,rfl⟩:=Int.eq_succ_of_zero_lt h
 exact (Rat.pow_succ ..).trans (Rat.mul_zero _)
section
variable {c:Cx}
open Classical in
theorem fn_number_power (P:Pg c) {a e:Rat}{k:Nat} (hw:e.den=1) (h1:a.num.natAbs < 2 ^ k) (h2:a.den < 2 ^ k) (hk:k≤2000) (hn:e.num.natAbs≤4096) (hnk:e.num.natAbs * k≤200000) (h0:a≠0∨0≤e.num) (hz:a≠0∨e≠0) :
  Fn c 9 "number_power" [.val (T.nm a).enc,.val (T.nm e).enc] (fun v=>v=⟨.val (T.nm (rpow a e.num)).enc,true⟩) False:=by
 refine go2 P 53 "base" "exponent" fun f F P _=>q_eqT (a:=T.nm a) (b:=ONE) (.inr (by decide)) (dec_both (fun h=>?_) fun h=>q_eqT (a:=T.nm a) (b:=ZERO) (.inr (by decide)) (dec_both (fun h=>?_) fun h=>both_t (decide_eq_true (congrArg Int.ofNat hw)) ((fn_rpower P h1 h2 hk hn hnk h0).is ((fn_number_termT P).is rfl))))
 ·have e:T.nm 1=T.nm (rpow a e.num):=by refine (nm_inj.mp (show T.nm a=T.nm 1 from h)).symm▸?_;rw [rpow_one]
  exact ret_of (congrArg T.enc e)
 ·have a0:a=0:=nm_inj.mp h
  have n0:0≤e.num:=h0.resolve_left fun h=>h a0
  have e0:e.num≠0:=fun h=>hz.elim (fun k=>k a0) fun k=>k (Rat.num_eq_zero.mp h)
  exact both_f (decide_eq_false (Int.not_lt.mpr n0)) (ret_of (congrArg T.enc (show T.nm 0=T.nm (rpow a e.num) by refine a0.symm▸?_;exact (rpow_zero' (Int.lt_iff_le_and_ne.mpr ⟨n0,e0.symm⟩)).symm▸rfl)))
end
end
section
section
variable {prog:Program}{w:World}{A:Around}{E:Value->Shared->Prop}{h:Heap}{g:Array GenState}{d:Drawn}{t:Nat}{os:OsState}{env:Env}
variable {nm q:Str}{C N:Addr}{bs bm:List Value}{hdct:Bool}{sn:List Str}{sub:List Value}{ab:Bool}{col:Option Bool}{dd:Option Addr}{k0 k1 k2 k3 k5:Option Value}{B newId initId:String}
theorem raise_made {M:Model}{s:Shared}{x:Sem Value}{Q:Flow->Shared->Prop} (hbase:bm.contains (.type "BaseException")=true) (hh:A.handled=none)
  (h:wpAny M A x (fun v s₁=>∃ e t oe,v=.ref e∧s₁.heap.get? C=some (excClassObj nm q C N bs bm hdct sn sub ab col dd k0 k1 k2 k3 k5 newId) ∧
   s₁.heap.get? e=some oe∧oe.cls=.ref C∧oe.data=.fields #[.ref t,.none,.none,.none,.bool false,.none]∧E (.ref e) s₁) E s) :
  wpAny M A (raiseStmt env (some x) none) Q E s:=by
 have hcB:(Value.ref C :: bm).contains (.type "BaseException")=true:=by rw [List.contains_cons,hbase,Bool.or_true]
 unfold raiseStmt
 refine wpAny_bind (wpAny_mono h (fun v s₁ h₁=>?_) fun _ _ x=>x)
 obtain ⟨e,t,⟨oc,odt,od,osl⟩,rfl,hC,he,hc,hd,hE⟩:=h₁
 subst hc
 subst hd
 repeat (first | with_reducible refine wpAny_loadPart_at he ?_ | with_reducible refine wpAny_loadPart_at hC ?_ | (with_reducible refine wpAny_isSubtype_exc hC ?_;rw [hcB]) | wp_step)
 exact wpAny_raiseNew_none hh hE
theorem exc_init_call (F:ExcBaseFacts B newId initId bm) {e t0:Addr}{oe ot:Obj}{rest:List Value}{Q:Value->Shared->Prop}
  (hC:h.get? C=some (excClassObj nm q C N bs bm hdct sn sub ab col dd k0 k1 k2 k3 k5 newId)) (he:h.get? e=some oe) (hcls:oe.cls=.ref C) (hd:oe.data=.fields #[.ref t0,.none,.none,.none,.bool false,.none])
  (ht:h.get? t0=some ot)
  (hq:Q .none ⟨(h.push { cls:=.type "tuple",data:=.seq rest.toArray }).update e (Obj.mapFields (·.setIfInBounds 0 (.ref h.objs.size))),g,d,t,os⟩) (hrest:rest.length≤sizeLine:=by size_fits) :
  wpAny (model prog w) A (call (.builtin initId) (.ref e :: rest)) Q E ⟨h,g,d,t,os⟩:=by
 refine wpAny_call (codeAny_call_builtin F.init.plain F.initEntry (wpAny_check_init_sub F hC he hcls ?_))
 obtain ⟨oc,odt,od,osl⟩:=oe
 subst hcls
 subst hd
 wp_walk
 exact hq
end
end
section
section
variable {prog:Program}{w:World}{A:Around}{E:Value->Shared->Prop}{s:Shared}{env:Env}
theorem lk_type_ga:typeLookup (.type "type") "__getattribute__"=pure (some (.builtin "type.__getattribute__")):=by refine (typeLookup_type ..)▸?_;refine (builtinLookup_eq_fast ..)▸?_;kernel_rfl
theorem lk_exc_meta:(Manifest.find? "Exception").elim "type" (fun x=>x.metatype)="type":=by decide +kernel
theorem to_exc:typeOf (.type "Exception")=pure (.type "type"):=by show (pure (Value.type ((Manifest.find? "Exception").elim "type" (fun x=>x.metatype))):Sem Value)=_;exact lk_exc_meta▸rfl
theorem found_exc:findCls [] (.type "Exception") (.type "type") "__init__"=some (.val (.builtin "Exception.__init__")):=by kernel_rfl
theorem get_exc_init {m:Sem Bool}{Q:Value×List Value->Shared->Prop} (hq:Q (.builtin "Exception.__init__",[]) { s with toks:=s.toks+1 }):wpAny (model prog w) A (getMethod (.type "Exception") "__init__" m) Q E s:=by
 have sp:specialOf (.type "Exception") "__getattribute__"=pure (some (.builtin "type.__getattribute__")):=by
  unfold specialOf
  refine to_exc▸?_
  exact lk_type_ga
 unfold getMethod
 refine wp_eqb sp ?_
 refine wpAny_bind (wpAny_pure ?_)
 dsimp only
 refine wp_pos canon_tga ?_
 have X:Frag.In [] s.heap:=fun a o e=>nomatch e
 refine wpAny_bind (cls_open X (hook:=none) (mc:=.type "type") (r:=.val (.builtin "Exception.__init__")) ?_ (Looks.of_pure to_exc) ?_ ?_ ?_ found_exc ?_)
 ·exact Looks.of_pure rfl
 ·decide +kernel
 ·exact looks_hook X (by rw [if_neg (by decide +kernel)])
 ·decide +kernel
 ·exact wpAny_pure (handed_on (by decide +kernel) (wpAny_pure hq))
end
end
section
theorem lk_kind:typeLookup (.type "Exception") "kind"=pure none:=by refine (typeLookup_type ..)▸?_;refine (builtinLookup_eq_fast ..)▸?_;kernel_rfl
theorem lk_text:typeLookup (.type "Exception") "text"=pure none:=by refine (typeLookup_type ..)▸?_;refine (builtinLookup_eq_fast ..)▸?_;kernel_rfl
section
variable {prog:Program}{w:World}{A:Around}{E:Value->Shared->Prop}{s:Shared}
variable {nm q:Str}{C N e:Addr}{bs:List Value}{sn:List Str}{sub:List Value}{ab:Bool}{col:Option Bool}{dd:Option Addr}{k0 k1 k2 k3 k5:Option Value}{newId:String}
theorem put_field {mN mA:Str->Option Value}{name:Str}{v:Value}{Q:Unit->Shared->Prop}{ns:List Str}
  (hC:s.heap.get? C=some (excClassObj nm q C N bs [.type "Exception",.type "BaseException",.type "object"] true sn sub ab col dd k0 k1 k2 k3 k5 newId)) (hn:s.heap.Ns N mN) (hns:mN "__setattr__"=none) (hna:mN name=none)
  (hB:typeLookup (.type "Exception") name=pure none) (hxC:e≠C) (I:s.heap.Inst e C mA) (hw:Within mA ns) (hsz:ns.length≤sizeLine)
  (hq:∀ h' tk',h'.Inst e C (fun y=>if y=name then some v else mA y) ->
   (∀ b o,b≠e->(∀ o₀ dx,s.heap.get? e=some o₀->o₀.dict=some dx->b≠dx)->s.heap.get? b=some o->h'.get? b=some o) ->
   (∀ o₀,s.heap.get? e=some o₀->∃ o₁,h'.get? e=some o₁∧o₁.cls=o₀.cls∧o₁.data=o₀.data)->Q () { s with heap:=h',toks:=tk' }) :
  wpAny (model prog w) A (setAttr (.ref e) name v) Q E s:=by
 exact store_attr PySem.F.store_Exception hC hn hns hna hB hxC I (fun h' tk' a b c=>hq h' tk' a b fun o₀ ho=>let ⟨o₁,x1,x2,x3,_⟩:=c o₀ ho;⟨o₁,x1,x2,x3⟩) hw hsz
end
end
section
structure Rc (c:Cx):Prop where
 hC:c.base.get? c.C=some (clsO c.C)
 hN:c.base.Ns 30 (c.base.nsMap 30)
 hi:c.base.nsMap 30 "__init__"=some (.ref 28)
 h1:c.base.nsMap 30 "__setattr__"=none
 h2:c.base.nsMap 30 "kind"=none
 h3:c.base.nsMap 30 "text"=none
 hf:c.base.get? 28=some initO
 cd:c.base.CodeRec (.ref 27) "CasFail.__init__"
 name:c.mg "CasFail"=some (.ref c.C)
structure InitEnd (c:Cx) (e:Addr) (s s':Shared):Prop where
 same:Same s s'
 keep:KpN e s.heap s'.heap
 obj:∃ oe t,s'.heap.get? e=some oe∧oe.cls=.ref c.C∧oe.data=.fields #[.ref t,.none,.none,.none,.bool false,.none]
section
variable {c:Cx}{A:Around}{E:Value->Shared->Prop}
structure InitFr (c:Cx) (env:Env) (e:Addr) (k x:Str) (s:Shared) (t1 t2:Tok) (m:Str->Option Value):Prop where
 sc:env.scope=initD.scope
 glob:env.globals=mainGlobals
 blt:env.builtins=builtinsNs
 ns:s.heap.Ns env.locals m
 self:m "self"=some (.ref e)
 kind:m "kind"=some (.str k t1)
 text:m "text"=some (.str x t2)
 base:Kp c.base s.heap
 le:env.locals≠e
theorem InitFr.next {env:Env}{e:Addr}{k x:Str}{s s':Shared}{t1 t2:Tok}{m:Str->Option Value} (F:InitFr c env e k x s t1 t2 m) (hb:c.base.get? e=none)
  (kp:KpN e s.heap s'.heap):InitFr c env e k x s' t1 t2 m :=
 { F with
  ns:=F.ns.at' fun o q=>kp _ o F.le q
  base:=fun b o q=>kp b o (fun h=>by rw [h,hb] at q;exact non q) (F.base b o q) }
theorem init_name {env:Env}{e:Addr}{k x:Str}{s:Shared}{t1 t2:Tok}{m:Str->Option Value}{y:Str}{v:Value}{pos:Pos}{Q:Value->Shared->Prop} (F:InitFr c env e k x s t1 t2 m)
  (hy:initD.scope.names.lookup y=some .local) (hv:m y=some v) (h:Q v s) (hd:(y == ("__debug__":Str))=false:=by decide):wpAny (model c.prog c.w) A (eval (.Name y pos) env) Q E s :=
 wpAny_Name (wpAny_loadName_local (by refine F.sc▸?_;rfl) (by unfold Env.kindOf;refine F.sc▸?_;exact hy) F.ns hv h) hd
theorem init_exc (cx:c.Ok) {env:Env}{e:Addr}{k x:Str}{s:Shared}{t1 t2:Tok}{m:Str->Option Value}{pos:Pos}{Q:Value->Shared->Prop} (F:InitFr c env e k x s t1 t2 m)
  (h:Q (.type "Exception") s):wpAny (model c.prog c.w) A (eval (.Name "Exception" pos) env) Q E s:=by
 refine Name_function_global (by refine F.sc▸?_;rfl) (by unfold Env.kindOf;refine F.sc▸?_;rfl) ?_ (by decide)
 refine loadGlobal_builtin (F.glob▸cx.g.keeps F.base) (cx.free _ (by decide)) (F.blt▸cx.b.keeps F.base) (v:=.type "Exception") ?_ h
 rw [cx.hb _ (by decide)];exact PyProof.Rows.Boot.«Exception»
theorem init_ls {y:Str}{v:Value} (k:Str->Option NameKind) (hk:∀ x,k x=initD.scope.names.lookup x) (a b d:Value) :
  bindL k [(("self":Str),a),(("kind":Str),b),(("text":Str),d)] (fun _=>none) "self"=some a∧bindL k [(("self":Str),a),(("kind":Str),b),(("text":Str),d)] (fun _=>none) "kind"=some b ∧
  bindL k [(("self":Str),a),(("kind":Str),b),(("text":Str),d)] (fun _=>none) "text"=some d:=by
 have h1:k "self"=some .local:=by refine (hk ..)▸?_;rfl
 have h2:k "kind"=some .local:=by refine (hk ..)▸?_;rfl
 have h3:k "text"=some .local:=by refine (hk ..)▸?_;rfl
 have n1:("self":Str)≠("kind":Str):=by decide
 have n2:("self":Str)≠("text":Str):=by decide
 have n3:("kind":Str)≠("text":Str):=by decide
 simp [bindL,h1,h2,h3,n1,n2,n3]
end
end
section
section
variable {c:Cx}{A:Around}{E:Value->Shared->Prop}
theorem init_made {hp:Heap}{e C t0:Addr}{sl:Array (Option Value)}{rest:Array Value} (he:hp.get? e=some ⟨.ref C,none,.fields #[.ref t0,.none,.none,.none,.bool false,.none],sl⟩) {h':Heap}
  (hh:h'=(hp.push { cls:=.type "tuple",data:=.seq rest }).update e (Obj.mapFields (·.setIfInBounds 0 (.ref hp.objs.size)))) :
  (KpN e hp h')∧h'.get? e=some ⟨.ref C,none,.fields #[.ref hp.objs.size,.none,.none,.none,.bool false,.none],sl⟩∧∃ ot,h'.get? hp.objs.size=some ot:=by
 subst hh
 have hne:hp.objs.size≠e:=fun q=>by rw [← q,get_size_none] at he;exact non he
 refine ⟨fun b o nb q=>?_,?_,?_⟩
 ·rw [Heap.get?_update_other _ _ (Ne.symm nb)]
  exact Heap.get?_push_of_some _ q
 ·have hg:=Heap.get?_push_of_some { cls:=.type "tuple",data:=.seq rest } he
  exact Heap.get?_update_self _ hg rfl
 ·rw [Heap.get?_update_other _ _ (Ne.symm hne)]
  exact ⟨_,Heap.get?_push_size _ rfl⟩
theorem init_first (cx:c.Ok) {env:Env}{e:Addr}{k x:Str}{s:Shared}{t1 t2:Tok}{m:Str->Option Value} (F:InitFr c env e k x s t1 t2 m)
  (K:Rc c)
  {oe ot:Obj}{t0:Addr} (he:s.heap.get? e=some oe) (hcls:oe.cls=.ref c.C) (hd:oe.data=.fields #[.ref t0,.none,.none,.none,.bool false,.none]) (ht:s.heap.get? t0=some ot) (hdict:oe.dict=none)
  (hk:k.length≤1000) (hx:x.length≤1000) {p1 p2 p3 p4 p5 p6 p7 p8 cp p9:Pos}{kk:Nat} (hline:(p2.endLine == cp.line)=true) {Q:Flow->Shared->Prop}
  (h:∀ s',InitEnd c e s s'->(∃ o,s'.heap.get? e=some o∧o.dict=none)->Q .next s') :
  wpAny (model c.prog c.w) A (exec (.Expr (.Call (.Attribute (.Name "Exception" p1) "__init__" p2) [.Name "self" p3,.BinOp (.BinOp (.Name "kind" p4) .Add (.Constant (.str ": ") kk p5) p6) .Add (.Name "text" p7) p8] [] cp) p9) env) Q E s:=by
 have C:=F.sc
 refine wpAny_Expr (wpAny_mono (Q:=fun v s'=>v=.none∧Q .next s') ?_ (fun v s' ⟨hv,q⟩=>by subst hv;exact q) fun _ _ x=>x) (by unfold interactive;refine (C ..)▸?_;rfl)
 have hbase:attributeBase (.Name "Exception" p1) "__init__" env (eval (.Name "Exception" p1) env)=eval (.Name "Exception" p1) env:=by rfl
 have hform:∀ n,n < 20->methodCallForm n (backTo cp (starEach [.Name "self" p3,.BinOp (.BinOp (.Name "kind" p4) .Add (.Constant (.str ": ") kk p5) p6) .Add (.Name "text" p7) p8] env)) (backToKw cp (keywordEach [] env))=true:=fun n hn=>by
  show (true && true && decide (n+0 < 30))=true
  refine (decide_eq_true (by lia:n+0 < 30)).symm▸?_
  rfl
 have hpos:methodCallPos true (.Name "Exception" p1) env p2 cp=pure cp:=by unfold methodCallPos;simp [hline]
 refine (arm_eval_Call ..)▸?_;refine (hbase ..)▸?_
 refine wpAny_bind (init_exc cx F (wpAny_bind (wpAny_standAt ?_)))
 unfold methodCall
 refine (hform _ ?hh ..)▸?_
 case hh=>show 2+0 < 20;decide
 refine wpAny_bind (wpAny_holding (get_exc_init (wpAny_bind (wpAny_of_eq hpos ?_))))
 refine callWith_kw (kws:=[]) ?_
 have F1:InitFr c env e k x { s with toks:=s.toks+1 } t1 t2 m:=⟨F.sc,F.glob,F.blt,F.ns,F.self,F.kind,F.text,F.base,F.le⟩
 refine wpAny_items_cons (init_name F1 rfl F.self (wpAny_items_cons (wpAny_BinOp (wpAny_BinOp (init_name F1 rfl F.kind (wpAny_Constant_str (add_str (fun t' tk=>?_) ?_)))))))
 rotate_left
 ·have h1:(": ":Str).length=2:=by decide
  exact sizeLine_ge (by lia)
 have F2:InitFr c env e k x { s with toks:=tk } t1 t2 m:=⟨F.sc,F.glob,F.blt,F.ns,F.self,F.kind,F.text,F.base,F.le⟩
 refine init_name F2 rfl F.text (add_str (fun t'' tk'=>?_) ?_)
 rotate_left
 ·have h1:(": ":Str).length=2:=by decide
  have h2:(k ++ (": ":Str)).length=k.length+(": ":Str).length:=by simp only [Str.length];exact Array.size_append ..
  exact sizeLine_ge (by lia)
 refine wpAny_items_nil (wpAny_evalAll_nil ?_)
 obtain ⟨oc,odt,od,osl⟩:=oe
 dsimp only at hcls hd hdict
 subst hcls hd hdict
 obtain ⟨y1,y2,y3⟩:=init_made (rest:=#[.str (k ++ (": ":Str) ++ x) t'']) he rfl
 exact exc_init_call PySem.F.excBase_Exception (F.base _ _ K.hC) he rfl rfl ht ⟨rfl,h _ ⟨⟨_,_,rfl⟩,y1,_,_,y2,rfl,rfl⟩ ⟨_,y2,rfl⟩⟩
end
end
section
open Builtin Builtin.ObjectAttr
section
variable {prog:Program}{w:World}{A:Around}{E:Value->Shared->Prop}{h:Heap}{g:Array GenState}{d:Drawn}{t:Nat}{os:OsState}
variable {nm q:Str}{C N x:Addr}{bs bm:List Value}{sn:List Str}{sub:List Value}{ab:Bool}{col:Option Bool}{dd:Option Addr}{k0 k1 k2 k3 k5:Option Value}{B newId sa owner:String}
 {mN:Str->Option Value}{name:Str}{v:Value}
set_option tactic.hygienic true in
theorem put_first {o:Obj}{Q:Unit->Shared->Prop} (SF:StoreFacts B bm sa owner)
  (hC:h.get? C=some (excClassObj nm q C N bs bm true sn sub ab col dd k0 k1 k2 k3 k5 newId)) (hn:h.Ns N mN) (hns:mN "__setattr__"=none) (hna:mN name=none)
  (hB:typeLookup (.type B) name=pure none) (hx:h.get? x=some o) (hc:o.cls=.ref C) (hnc:∀ c,o.data≠.cls c) (hdn:o.dict=none)
  (hq:∀ h' tk' dx,h.get? dx=none->dx≠x->h'.get? x=some { cls:=o.cls,dict:=some dx,data:=o.data,slots:=o.slots }->h'.Ns1 dx (fun y=>if y=name then some v else none) ->
   (∀ b ob,b≠x->h.get? b=some ob->h'.get? b=some ob)->Q () ⟨h',g,d,tk',os⟩) :
  wpAny (model prog w) A (setAttr (.ref x) name v) Q E ⟨h,g,d,t,os⟩:=by
 have f3:=SF.slot.bind (.ref x)
 have hpass:=SF.passes (.ref x)
 have hxs:x≠h.objs.size:=Nat.ne_of_lt (Heap.lt_size hx)
 have entry:∀ (A:Around) (E:Value->Shared->Prop) (R:Fin->Shared->Prop) (tk:Tok) (t:Nat), (∀ h' tk' dx,h.get? dx=none->dx≠x->h'.get? x=some { cls:=o.cls,dict:=some dx,data:=o.data,slots:=o.slots }->h'.Ns1 dx (fun y=>if y=name then some v else none) ->
    (∀ b ob,b≠x->h.get? b=some ob->h'.get? b=some ob)->R (.done (.ret .none)) ⟨h',g,d,tk',os⟩) ->
   wpAny (model prog w) A (Builtin.«object.__setattr__» ⟨[.ref x,.str name tk,v],[]⟩) R E ⟨h,g,d,t,os⟩:=by
  intro A E R tk t hR
  unfold Builtin.«object.__setattr__»
  repeat (first | rw [refuse_eq] | (rw [refuseLoop_ref,hpass]) | (with_reducible refine wpAny_loadPart_at hx ?_;rw [hc]) | with_reducible refine wpAny_mroOf_exc hC ?_ | (with_reducible refine wpAny_typeLookup_exc hC hn SF.mro hB ?_;rw [hna]) | wp_step)
  rw [hdn];rw [if_neg (by simp [typeHasDict])]
  split
  ·rename_i hcd;exact non hcd
  split
  ·rename_i c hcd;exact absurd hcd (hnc c)
  have hx₁:(h.push { cls:=.type "dict",data:=.dict #[] }).get? x=some o:=Heap.get?_push_of_some _ hx
  refine wpAny_bind (wpAny_alloc' (wpAny_bind (wpAny_update' hx₁ (wpAny_pure ?_))))
  have hgd:((h.push { cls:=.type "dict",data:=.dict #[] }).update x fun o=>{ cls:=o.cls,dict:=some h.objs.size,data:=o.data,slots:=o.slots }).get? h.objs.size=some { cls:=.type "dict",data:=.dict #[] } :=
   (Heap.get?_update_ne _ _ _ _ hxs.symm).trans (Heap.get?_push_at rfl rfl)
  have hnd:((h.push { cls:=.type "dict",data:=.dict #[] }).update x fun o=>{ cls:=o.cls,dict:=some h.objs.size,data:=o.data,slots:=o.slots }).Ns h.objs.size (fun _=>none) :=
   ⟨_,#[],_,hgd,rfl,fun e he=>absurd he (by simp),fun _=>rfl⟩
  show wpAny _ _ (storeInDict h.objs.size (.str name tk) name v) _ _ _
  unfold storeInDict newKeyGuard
  refine wpAny_bind (wpAny_pure (wpAny_bind (wpAny_nsSet1 (Heap.Ns1.of_empty hnd) fun h' hn' hs=>?_)))
  obtain ⟨oD,esD,epD,hoD,hdD,hcD⟩:=hn'.count (Within.cons name v Within.nil)
  refine wpAny_bind (wpAny_lookBehind hoD (by refine hdD▸?_;exact pastItsLine_dict (Nat.le_trans hcD (by refine List.length_cons▸?_;refine List.length_nil▸?_;refine sizeLine_eq▸?_;lia))) ?_)
  wp_walk
  refine hR h' _ h.objs.size (get_size_none h) hxs.symm ?_ hn' fun b ob hbx hb=>?_
  ·refine (hs.2 x hxs).trans (Heap.get?_update_self _ hx₁ ?_)
   have hfr:=(Heap.get?_some_iff.mp hx).2
   obtain ⟨oc,od,odt,osl⟩:=o
   cases odt <;> first | rfl | exact hfr
  ·exact (hs.2 b (Nat.ne_of_lt (Heap.lt_size hb))).trans ((Heap.get?_update_ne _ _ _ _ hbx).trans (Heap.get?_push_of_some _ hb))
 unfold setAttr callSpecial? specialOf
 repeat (any_goals (first | assumption | (with_reducible refine wpAny_loadPart_at hx ?_;rw [hc]) | (with_reducible refine wpAny_typeLookup_exc hC hn SF.mro SF.slot.lookup ?_;rw [hns]) | wp_step))
 refine codeAny_call_builtin SF.slot.plain SF.entry (wpAny_check_sa SF hC hx hc (entry _ _ _ _ _ fun h' tk' dx a1 a2 a3 a4 a5=>?_))
 repeat (any_goals (first | assumption | wp_step))
 exact hq h' tk' dx a1 a2 a3 a4 a5
end
end
section
section
variable {c:Cx}{A:Around}{E:Value->Shared->Prop}
theorem init_call (CE:CallEnv c A frs 1 s) {e:Addr}{k x:Str}{t1 t2:Tok}
  (K:Rc c)
  {oe ot:Obj}{t0:Addr} (hb:c.base.get? e=none) (he:s.heap.get? e=some oe) (hcls:oe.cls=.ref c.C) (hd:oe.data=.fields #[.ref t0,.none,.none,.none,.bool false,.none]) (ht:s.heap.get? t0=some ot) (hdict:oe.dict=none)
  (hk:k.length≤1000) (hx:x.length≤1000) {Q:Value->Shared->Prop} (hq:∀ s',InitEnd c e s s'->Q .none s') :
  wpAny (model c.prog c.w) A (call (.ref 28) [.ref e,.str k t1,.str x t2]) Q E s:=by
 have hroom:A.depth < recursionLimit:=by have:=CE.room;lia
 refine wpAny_call (codeAny_call_function hroom (CE.base _ _ K.hf) rfl rfl rfl rfl (K.cd.keeps CE.base) ?_)
 have hbind:bindArgs { docDef "__init__" initD.params initD.body initD.scope (.str "cas.errors" 187) (.ref 27) .none with qualname:="CasFail.__init__" } ⟨[.ref e,.str k t1,.str x t2],[]⟩=pure [(("self":Str),.ref e),(("kind":Str),.str k t1),(("text":Str),.str x t2)]:=by rfl
 refine wp_eq hbind ?_
 refine wpAny_pure ?_
 refine wpAny_newFunctionEnv_cells rfl (kindsX (by rfl) _) fun env henv s1 X=>?_
 have hsc:env.scope=initD.scope:=by rw [henv];rfl
 refine ⟨(CE.cx.nolimit.keeps CE.base).keeps X.toInCall.keep,codeAny_func ?_⟩
 obtain ⟨m1,m2,m3⟩:=init_ls (y:="self") (v:=.none) env.kindOf (fun x=>by unfold Env.kindOf;rw [hsc]) (.ref e) (.str k t1) (.str x t2)
 have le:env.locals≠e:=fun q=>absurd (q▸Heap.lt_size he) (Nat.not_lt.mpr X.toInCall.fresh)
 have F1:InitFr c env e k x s1 t1 t2 _:=⟨hsc,by rw [henv];rfl,by rw [henv];rfl,X.toInCall.ns,m1,m2,m3,fun b o q=>X.toInCall.keep b o (CE.base b o q),le⟩
 have heC:e≠c.C:=fun q=>by exact nob hb (q▸K.hC)
 refine wpAny_execs_cons (init_first CE.cx F1 K (X.toInCall.keep _ _ he) hcls hd (X.toInCall.keep _ _ ht) hdict hk hx rfl fun s2 I2 hd2=>?_)
 have F2:=F1.next hb I2.keep
 obtain ⟨oe2,t2',g2,c2,d2⟩:=I2.obj
 obtain ⟨oe2',g2',dn2⟩:=hd2
 replace g2':=g2▸g2';cases Option.some.inj g2'
 refine wpAny_execs_cons (plainObj_wpAny_Assign_Attribute (init_name F2 rfl m2 (init_name F2 rfl m1 ?_)))
 refine put_first PySem.F.store_Exception (F2.base _ _ K.hC) (K.hN.keeps F2.base) K.h1 K.h2 lk_kind g2 c2 (fun c q=>by cases d2.symm.trans q) dn2 fun h3 tk3 dx n1 n2 n3 n4 n5=>?_
 have kp3:KpN e s2.heap h3:=n5
 have F3:InitFr c env e k x { s2 with heap:=h3,toks:=tk3 } t1 t2 _:=F2.next hb kp3
 refine wpAny_execs_cons (plainObj_wpAny_Assign_Attribute (init_name F3 rfl m3 (init_name F3 rfl m1 ?_)))
 have hInst:h3.Inst e c.C (fun y=>if y=("kind":Str) then some (.str k t1) else none):=⟨_,n3,c2,fun c q=>(by cases d2.symm.trans q),.inr ⟨dx,rfl,n2,n4⟩⟩
 refine put_field (F3.base _ _ K.hC) (K.hN.keeps F3.base) K.h1 K.h3 lk_text heC hInst (ns:=[("kind":Str)]) (fun y hy=>by
  by_cases q:y=("kind":Str)
  ·exact List.mem_singleton.mpr q
  ·replace hy:=(if_neg q)▸hy;exact absurd rfl hy) (by decide) fun h4 tk4 I4 kp4 od4=>?_
 refine wpAny_execs_nil ?_
 obtain ⟨o4,g4,c4,d4⟩:=od4 _ n3
 obtain ⟨hh1,tk1,e1⟩:=X.toInCall.same
 obtain ⟨hh2,tk2',e2⟩:=I2.same
 have kp34:KpN e s2.heap h4:=fun b o nb q=>kp4 b o nb (fun o₀ dx' q0 q1=>by
  have q0':h3.get? e=some o₀:=q0
  replace q0':=n3▸q0';cases Option.some.inj q0';cases Option.some.inj q1
  rintro rfl
  exact nob n1 q) (kp3 b o nb q)
 refine hq _ ⟨⟨h4,tk4,?_⟩,fun b o nb q=>kp34 b o nb (I2.keep b o nb (X.toInCall.keep b o q)),o4,t2',g4,c4.trans c2,d4.trans d2⟩
 subst e2
 rw [e1]
end
end
section
section
variable {f:Fx}{sc:Scope}{d:Nat}{ρ:Ab}{σ:Box}{s:Shared}{X:Prop}{N:Ab->Box->Prop}{R:RV->Box->Prop}
theorem under_tc (A:Around) (C:Addr) (rest:List Value):(A.under (.builtin "type.__call__" ⟨.ref C :: rest,[]⟩)).frames=A.frames∧(A.under (.builtin "type.__call__" ⟨.ref C :: rest,[]⟩)).handled=A.handled ∧
  (A.under (.builtin "type.__call__" ⟨.ref C :: rest,[]⟩)).depth≤A.depth+1∧(A.under (.builtin "type.__call__" ⟨.ref C :: rest,[]⟩)).units=A.units+1:=by
 refine ⟨?_,rfl,?_,rfl⟩
 rotate_left
 ·exact Nat.add_le_add_left (Nat.le_of_eq (rfl:(Code.builtin "type.__call__" ⟨.ref C :: rest,[]⟩).weight=1)) _
 ·have e:(A.under (.builtin "type.__call__" ⟨.ref C :: rest,[]⟩)).frames=pushEnvs (Code.builtin "type.__call__" ⟨.ref C :: rest,[]⟩).envs A.frames:=rfl
  refine e▸?_
  refine (show (Code.builtin "type.__call__" ⟨.ref C :: rest,[]⟩).envs=[] from rfl)▸?_
  rfl
theorem XS_Raise (F:f.Ok sc (d+2)) (K:Rc f.c) {k x:Str}{kk xk:Nat}{np kp xp cp pos:Pos} (hx:sc.names.lookup ("CasFail":Str)=some .globalImplicit) (h:X) (hk:k.length≤1000:=by decide) (hxl:x.length≤1000:=by decide) :
  XS f ρ σ (.Raise (some (.Call (.Name "CasFail" np) [.Constant (.str k) kk kp,.Constant (.str x) xk xp] [] cp)) none pos) N R X:=fun s I=>by
 have hb:Kp f.c.base s.heap:=I.kb F
 refine (arm_exec_Raise ..)▸?_
 refine wpAny_bind (wpAny_standAt (raise_made (C:=f.c.C) (nm:="CasFail") (q:="CasFail") (N:=30) (bs:=[.type "Exception"]) (bm:=bmX) (hdct:=true) (sn:=[]) (sub:=[]) (ab:=false) (col:=none) (dd:=none) (k0:=some (.ref 15)) (k1:=none) (k2:=some (.str "CasFail" 189)) (k3:=some (.str "CasFail" 197)) (k5:=some (.bool true)) (newId:="Exception.__new__") (by decide) F.handled ?_))
 refine wpAny_bind (wpAny_mono (wpAny_Call_ofName (wp_GName F I hx (.inl K.name) ?_)) (fun v s₃ h₃=>wpAny_bind (wpAny_standAt (wpAny_pure h₃))) fun _ _ x=>x)
 unfold callWith
 refine wpAny_bind (wpAny_holding (evalArgs_kw (keywords:=[]) rfl (wpAny_items_cons (wpAny_Constant_str (wpAny_items_cons (wpAny_Constant_str (wpAny_items_nil (wpAny_evalAll_nil (wpAny_bind (wpAny_standAt ?_))))))))))
 refine wpAny_bind (wpAny_keeperOf_exc (hb _ _ K.hC) ?_)
 refine wpAny_bind (wpAny_call_exc_init PySem.F.excBase_Exception (hb _ _ K.hC) (K.hN.keeps hb) K.hi (hb _ _ K.hf) rfl (fun h' e hm=>?_) ?_)
 rotate_left
 ·show (2:Nat)≤sizeLine
  exact sizeLine_ge (by decide)
 obtain ⟨t,gt,nt,gtt⟩:=hm.there
 have hb':Kp f.c.base h':=fun b o q=>hm.keeps b o (hb b o q)
 have he:f.c.base.get? e=none:=by
  exact back_none hm.new fun o q=>hb e o q
 obtain ⟨u1,u2,u3,u4⟩:=under_tc f.A f.c.C [.str k s.toks,.str x (s.toks+1)]
 have ffk:∀ h'':Heap,(KpN e s.heap h'')->h''.FunFrames f.c.base f.frs:=fun h'' kp=>ff_of (fun en he' b o hf q hd=>⟨o,kp b o (fun w=>by
  have n:=hm.new
  replace n:=w.symm▸n
  have q':s.heap.get? b=some o:=q
  cases q'.symm.trans n) q,hd⟩) I.ff
 refine init_call ⟨F.cx,u2.trans F.handled,u1.trans F.frames,by have:=F.room;lia,by have:=F.units;lia,hb',ffk h' fun b o _ q=>hm.keeps b o q⟩ K he gt rfl rfl gtt rfl hk hxl fun s' IE=>?_
 refine ⟨rfl,?_⟩
 refine wpAny_bind (wpAny_holding (wpAny_point (wpAny_pure ?_)))
 obtain ⟨oe,t',g1,c1,d1⟩:=IE.obj
 have kp:Kp s.heap s'.heap:=fun b o q=>IE.keep b o (fun w=>by
  have n:=hm.new
  rw [← w,q] at n;cases n) (hm.keeps b o q)
 obtain ⟨h3,tk3,e3⟩:=IE.same
 refine ⟨e,t',oe,rfl,kp _ _ (hb _ _ K.hC),g1,c1,d1,h,⟨e,none,rfl,⟨?_,fun b o q=>kp b o (hb b o q),he,ffk _ fun b o _ q=>kp b o q,⟨oe,_,g1,c1,d1,rfl⟩,KD.of fun b o hbz q=>kp b o (I.keep b o hbz q)⟩,.inl rfl⟩,?_⟩
 ·obtain ⟨h0,tk0,e0⟩:=I.same
  exact ⟨h3,tk3,by refine (e3 ..)▸?_;subst e0;rfl⟩
 ·obtain ⟨m,hn,_⟩:=I.vars
  exact ⟨m,hn.at' fun o q=>kp _ o q⟩
end
end
section
theorem rpow_zero (a:Rat):rpow a 0=1:=Rat.pow_zero a
theorem rpow_1 (a:Rat):rpow a 1=a:=by
 show a ^ 1=a
 refine (Rat.pow_succ ..)▸?_;refine (Rat.pow_zero ..)▸?_;exact (Rat.one_mul ..)▸rfl
section
variable {c:Cx}
theorem fn_number_power_raise (P:Pg c) (K:Rc c) {e:Rat} (hn:e.num < 0) {Q:RV->Prop}:Fn c 9 "number_power" [.val (T.nm 0).enc,.val (T.nm e).enc] Q True:=by
 classical
 refine go2 P 53 "base" "exponent" fun f F P hc=>?_
 subst hc
 exact q_eqT (a:=T.nm 0) (b:=ONE) (.inr (by decide)) (both_f (decide_eq_false fun h=>absurd ((nm_inj (r:=0) (s:=1)).mp h) (by decide)) (q_eqT (a:=T.nm 0) (b:=ZERO) (.inr (by decide)) (both_t (decide_eq_true rfl) (both_t (decide_eq_true hn) (XS_Raise F K rfl trivial)))))
theorem fn_power_num (P:Pg c) (K:Rc c) {a e:Rat}{k:Nat} (hw:e.den=1) (h1:a.num.natAbs < 2 ^ k) (h2:a.den < 2 ^ k) (hk:k≤2000) (hn:e.num.natAbs≤4096) (hnk:e.num.natAbs * k≤200000) :
  Fn c 11 "power_of" [.val (T.nm a).enc,.val (T.nm e).enc] (fun v=>¬ (a=0∧e.num≤0)∧v=⟨.val (T.nm (rpow a e.num)).enc,true⟩) (a=0∧e.num≤0):=by
 refine in2 P 51 "base" "exponent" fun f i P=>?_
 obtain ⟨F,rfl,_⟩:=i
 refine power_head P (t:=T.nm a) (by decide:1≤50) F (fun e0 hb ρ σ N=>XS_Raise F K rfl ⟨nm_inj.mp hb,e0▸by decide⟩) (fun e0 hb _=>⟨fun h=>hb (nm_inj.mpr h.1),?_⟩) (fun e1 _=>⟨fun h=>?_,?_⟩) fun e0 _=>XL_v F P ?_
 ·refine e0▸?_;refine (show (0:Rat).num=0 from rfl)▸?_;refine (rpow_zero ..)▸?_;rfl
 ·replace h:=e1▸h;exact absurd h.2 (by decide)
 ·refine e1▸?_;refine (show (1:Rat).num=1 from rfl)▸?_;exact (rpow_1 ..)▸rfl
 ·have en:e.num≠0:=fun h=>e0 (Rat.num_eq_zero.mp h)
  by_cases hr:a=0∧e.num < 0
  ·obtain ⟨rfl,hneg⟩:=hr
   exact (fn_number_power_raise P K hneg).mono (by decide) (fun _ _ h=>h) fun _=>⟨rfl,Int.le_of_lt hneg⟩
  ·have h0:a≠0∨0≤e.num:=(Classical.em (a=0)).elim (fun h=>.inr (Int.not_lt.mp fun k=>hr ⟨h,k⟩)) .inl
   exact (fn_number_power P hw h1 h2 hk hn hnk h0 (.inr e0)).is ⟨fun h=>hr ⟨h.1,Int.lt_iff_le_and_ne.mpr ⟨h.2,en⟩⟩,rfl⟩
end
end
section
section
variable {c:Cx}
theorem countE_two (a b:Rat):countE [T.nm a,T.nm b]=[]:=rfl
theorem numP_two (a b:Rat):numP' [T.nm a,T.nm b]=a * b:=by
 show (1 * (T.nm a).val) * (T.nm b).val=a * b
 refine (T.val_nm ..)▸?_;refine (T.val_nm ..)▸?_;exact (Rat.one_mul ..)▸rfl
theorem POk_nums {a b:Rat} (ha:Sq a) (hb:Sq b) (hab:Sq (a * b)):POk [T.nm a,T.nm b]:=by
 refine ⟨fun p hp _=>(List.mem_cons.mp hp).elim (fun e=>⟨a,e,ha⟩) fun h=>⟨b,List.mem_singleton.mp h,hb⟩,fun p hp h=>?_,fun i=>?_,fun i t r h=>?_,(by decide:2≤900000)⟩
 ·exact (List.mem_cons.mp hp).elim (fun e=>by replace h:=e▸h;cases h) fun e=>by replace h:=(List.mem_singleton.mp e)▸h;cases h
 ·match i with
  | 0=>exact sq_one
  | 1=>show Sq (1 * (T.nm a).val);refine (T.val_nm ..)▸?_;refine (Rat.one_mul ..)▸?_;exact ha
  | i+2=>refine (show [T.nm a,T.nm b].take (i+2)=[T.nm a,T.nm b] from List.take_of_length_le (Nat.le_add_left ..)).symm▸?_;rw [numP_two];exact hab
 ·match i with
  | 0=>exact non h
  | 1=>exact non h
  | i+2=>rw [show [T.nm a,T.nm b].take (i+2)=[T.nm a,T.nm b] from List.take_of_length_le (Nat.le_add_left ..),countE_two] at h;exact non h
theorem GP_nums {a b:Rat}{t:T} (h:GP [T.nm a,T.nm b] t):t=T.nm (a * b):=by
 unfold GP at h
 rw [show flatP [T.nm a,T.nm b]=[T.nm a,T.nm b] from rfl,numP_two] at h
 rcases h with ⟨h0,rfl⟩ | ⟨h0,us,hs,rfl⟩
 ·refine h0▸?_;rfl
 ·refine (show us=[] from List.Perm.eq_nil hs.1)▸?_;rfl
theorem fn_gprod_nums (P:Pg c) {a b:Rat}{v:Addr} (ha:Sq a) (hb:Sq b) (hab:Sq (a * b)):Fn c 33 "gathered_product" [.lst v [(T.nm a).enc,(T.nm b).enc]] (fun r=>r=⟨.val (T.nm (a * b)).enc,true⟩) False :=
 fn_gprod P (n:=0) (L:=1) (parts:=[T.nm a,T.nm b]) (u:=v) (POk_nums ha hb hab) ⟨nofun,⟨nofun,nofun⟩,(by decide:2≤2 ^ 1∧2 ^ 1≤900000)⟩ fun t hg=>by exact (GP_nums hg)▸rfl
noncomputable def powF (p:T) (e:Rat):T:=match p with
 | .num a b=>T.nm (rpow (Rat.divInt a b) e.num)
 | .pow b x=>open Classical in if e=0 then ONE else if e=1 then .pow b x else powT b (x.val * e)
 | p=>powT p e
section
variable {b:T}{x e:Rat}
theorem powF_0 (h:e=0):powF (.pow b (T.nm x)) e=ONE:=if_pos h
theorem powF_1 (h:e=1):powF (.pow b (T.nm x)) e=.pow b (T.nm x):=(if_neg (by refine h▸?_;decide)).trans (if_pos h)
theorem powF_n (h:e≠0) (h1:e≠1):powF (.pow b (T.nm x)) e=powT b (x * e):=((if_neg h).trans (if_neg h1)).trans (by exact (T.val_nm ..)▸rfl)
end
theorem int_of {x:Rat} (h:x.den=1):x=(x.num:Rat):=Rat.ext rfl h
theorem den_mul {x y:Rat} (h:x.den=1) (h':y.den=1):(x * y).den=1:=by
 refine (int_of h ..)▸?_;refine (int_of h' ..)▸?_;refine (Rat.intCast_mul ..)▸?_
 rfl
theorem den_add {x y:Rat} (h:x.den=1) (h':y.den=1):(x+y).den=1:=by
 refine (int_of h ..)▸?_;refine (int_of h' ..)▸?_;refine (Rat.intCast_add ..)▸?_
 rfl
theorem fn_power_pow (P:Pg c) {b:T}{x e:Rat} (ha:Atom b) (hd:b.dp≤40) (hx:x.den=1) (hw:e.den=1) (sx:Sq x) (se:Sq e) (sxe:Sq (x * e)) :
  Fn c 35 "power_of" [.val (T.pow b (T.nm x)).enc,.val (T.nm e).enc] (fun v=>v=⟨.val (powF (.pow b (T.nm x)) e).enc,true⟩) False :=
 in2 P 51 "base" "exponent" fun f i P=>power_head P (Nat.le_trans (Nat.succ_le_succ (Nat.max_le.mpr ⟨hd,(by decide:1≤40)⟩)) (by decide)) i.ok (fun _ h=>nomatch h) (fun e0 _ _=>ret_of (congrArg T.enc (powF_0 e0).symm)) (fun e1 _=>ret_of (congrArg T.enc (powF_1 e1).symm)) fun e0 e1 =>
  XL_v i.ok P ((fn_iswholeT P hw).is ((fn_iswholeT P hw).is (both_t rfl (fun a=>(fn_gprod_nums P sx se sxe).is ((fn_power_atom P ha hd (den_mul hx hw)).is (ret_of (congrArg T.enc (powF_n e0 e1).symm)))))))
end
end
section
inductive PFac (k:Nat) (e:Rat):T->Prop
 | num {a:Rat}:a≠0->a.num.natAbs < 2 ^ k->a.den < 2 ^ k->PFac k e (T.nm a)
 | atom {t:T}:Atom t->t.dp≤40->PFac k e t
 | pow {b:T}{x:Rat}:Atom b->b.dp≤40->x.den=1->Sq x->Sq (x * e)->PFac k e (.pow b (T.nm x))
structure EOk (k:Nat) (e:Rat):Prop where
 den:e.den=1
 kk:k≤2000
 n:e.num.natAbs≤4096
 nk:e.num.natAbs * k≤200000
theorem EOk.sq {k:Nat}{e:Rat} (h:EOk k e):Sq e:=⟨Nat.lt_of_le_of_lt h.n (Nat.lt_of_lt_of_le (by decide:4096 < 2 ^ 13) (Nat.pow_le_pow_right (by decide) (by decide))),h.den▸Nat.one_lt_two_pow (by decide)⟩
theorem powF_atom {t:T} (h:Atom t) (e:Rat):powF t e=powT t e:=by
 cases t with
 | num p q=>cases h.num
 | pow b e=>exact absurd rfl (h.pow b e)
 | _=>rfl
theorem powF_num (a e:Rat):powF (T.nm a) e=T.nm (rpow a e.num):=congrArg (fun r=>T.nm (rpow r e.num)) (Rat.num_divInt_den a)
section
variable {c:Cx}
theorem fn_power_fac (P:Pg c) (K:Rc c) {k:Nat}{e:Rat} (E:EOk k e) {p:T} (h:PFac k e p):Fn c 35 "power_of" [.val p.enc,.val (T.nm e).enc] (fun v=>v=⟨.val (powF p e).enc,true⟩) False:=by
 cases h with
 | num h0 h1 h2=>exact powF_num ..▸(fn_power_num P K E.den h1 h2 E.kk E.n E.nk).mono (by decide) (fun r _ h=>h.2) fun h=>h0 h.1
 | atom ha hd=>exact powF_atom ha e▸(fn_power_atom P ha hd E.den).up
 | pow ha hd hx sx sxe=>exact fn_power_pow P ha hd hx E.den sx E.sq sxe
theorem fn_power_prod (P:Pg c) (K:Rc c) {k n L:Nat}{e:Rat}{Q:RV->Prop}{X:Prop} (E:EOk k e) (e0:e≠0) (e1:e≠1) {ps:List T} (hps:∀ p∈ps,PFac k e p) (G:POk (flatP (ps.map fun p=>powF p e))) (G2:POk2 n L (flatP (ps.map fun p=>powF p e))) (hl:ps.length≤1000000) (hdp0:(T.prod ps).dp≤50) (q:∀ t,GP (ps.map fun p=>powF p e) t->Q ⟨.val t.enc,true⟩) :
  Fn c (8 * n+2 * L+38) "power_of" [.val (T.prod ps).enc,.val (T.nm e).enc] Q X:=by
 refine in2 P 51 "base" "exponent" fun f i P=>?_
 obtain ⟨F,rfl,own,cells,hz⟩:=i
 refine power_head P hdp0 F (fun h=>absurd h e0) (fun h=>absurd h e0) (fun h=>absurd h e1) fun _ _=>?_
 refine (T.enc_prod ..)▸?_
 refine XL_step (XS_v F P (XL_step (XS_v F P ((fn_iswholeT P E.den).is (both_t rfl ?_)))))
 refine EV_Comp F (CScope.of (by decide +kernel)) (fun x hx e=>?_) (fun g=>.name (.inl (by decide +kernel))) (by decide +kernel) (ES.T F (ES_val F (EV_v F P (comp_map (fun p=>(powF p e).enc) P hl (fun g hc G P t ht=>EV_v G P ((fn_power_fac P (hc▸K) E (hps t ht)).is ⟨_,rfl,rfl,rfl⟩)) fun a=>?_))))
 ·exact cells _ ((onlyFree "exponent" (by decide +kernel) x hx e).symm▸rfl)
 ·have g:=fn_gprod P (u:=a) (X:=X) G G2 q
  rw [List.map_map] at g
  exact Fn.ret g (Nat.add_le_add_left (by decide:31≤36) _)
end
end
section
noncomputable def PW (b:T) (e:Rat) (t:T):Prop:=(e=0∧t=ONE)∨(e=1∧t=b)∨(e≠0∧e≠1∧((∃ ps,b=.prod ps∧GP (ps.map fun p=>powF p e) t)∨(b.isProd=false∧t=powF b e)))
noncomputable def Bad (b:T) (e:Rat):Prop:=b=ZERO∧e.num≤0
noncomputable def PwOk (k n L:Nat) (e:Rat) (b:T):Prop:=(∃ a,b=T.nm a∧a.num.natAbs < 2 ^ k∧a.den < 2 ^ k)∨PFac k e b ∨
 (∃ ps,b=.prod ps∧(∀ p∈ps,PFac k e p)∧(e≠0->e≠1->POk (flatP (ps.map fun p=>powF p e))∧POk2 n L (flatP (ps.map fun p=>powF p e)))∧ps.length≤1000000∧(T.prod ps).dp≤50)
section
variable {c:Cx}{Q:RV->Prop}{X:Prop}
theorem fn_power_easy (P:Pg c) {b:T}{e:Rat} (hb:b≠ZERO) (hd:b.dp≤50) (he:e=0∨e=1) (q:∀ t,PW b e t->Q ⟨.val t.enc,true⟩):Fn c 3 "power_of" [.val b.enc,.val (T.nm e).enc] Q X :=
 in2 P 51 "base" "exponent" fun f i P=>power_head P hd i.ok (fun _ h=>absurd h hb) (fun e0 _ _=>q _ (.inl ⟨e0,rfl⟩)) (fun e1 _=>q _ (.inr (.inl ⟨e1,rfl⟩))) fun e0 e1=>absurd (he.resolve_left e0) e1
theorem PW_num {a e:Rat}:PW (T.nm a) e (T.nm (rpow a e.num)):=by
 by_cases e0:e=0
 ·subst e0;exact .inl ⟨rfl,congrArg T.nm (rpow_zero a)⟩
 ·by_cases e1:e=1
  ·subst e1;exact .inr (.inl ⟨rfl,congrArg T.nm (rpow_1 a)⟩)
  ·exact .inr (.inr ⟨e0,e1,.inr ⟨rfl,(powF_num a e).symm⟩⟩)
theorem PFac.facts {k:Nat}{e:Rat}{b:T} (h:PFac k e b):b≠ZERO∧b.dp≤50∧b.isProd=false:=by
 cases h with
 | num h0=>exact ⟨fun e=>h0 (nm_inj.mp e),(by decide:1≤50),rfl⟩
 | atom ha hd=>exact ⟨fun e=>(by replace ha:=e▸ha;cases ha.num),Nat.le_trans hd (by decide),ha.prod⟩
 | pow _ h=>exact ⟨nofun,Nat.le_trans (Nat.succ_le_succ (Nat.max_le.mpr ⟨h,(by decide:1≤40)⟩)) (by decide),rfl⟩
theorem fn_power (P:Pg c) (K:Rc c) {k n L:Nat}{e:Rat} (E:EOk k e) {b:T} (h:PwOk k n L e b) (q:∀ t,¬ Bad b e->PW b e t->Q ⟨.val t.enc,true⟩) (hX:Bad b e->X) :
  Fn c (8 * n+2 * L+38) "power_of" [.val b.enc,.val (T.nm e).enc] Q X:=by
 have up:∀ {m:Nat},m≤38->m≤8 * n+2 * L+38:=fun h=>Nat.le_trans h (Nat.le_add_left ..)
 rcases h with ⟨a,rfl,h1,h2⟩ | h | ⟨ps,rfl,hps,hG,hl,hd⟩
 ·exact (fn_power_num P K E.den h1 h2 E.kk E.n E.nk).mono (up (by decide)) (fun r _ h=>h.2▸q _ (fun hb=>h.1 ⟨nm_inj.mp hb.1,hb.2⟩) PW_num) fun h=>hX ⟨by refine h.1▸?_;rfl,h.2⟩
 ·have hz:=h.facts
  by_cases he:e=0∨e=1
  ·exact Fn.up (fn_power_easy P hz.1 hz.2.1 he fun t=>q t fun hb=>hz.1 hb.1) (up (by decide))
  ·exact (fn_power_fac P K E h).is (q _ (fun hb=>hz.1 hb.1) (.inr (.inr ⟨fun w=>he (.inl w),fun w=>he (.inr w),.inr ⟨hz.2.2,rfl⟩⟩))) (up (by decide))
 ·by_cases he:e=0∨e=1
  ·exact Fn.up (fn_power_easy P nofun hd he fun t=>q t nofun) (up (by decide))
  ·have e0:e≠0:=fun w=>he (.inl w)
   have e1:e≠1:=fun w=>he (.inr w)
   exact fn_power_prod P K E e0 e1 hps (hG e0 e1).1 (hG e0 e1).2 hl hd fun t g=>q t nofun (.inr (.inr ⟨e0,e1,.inl ⟨ps,rfl,g⟩⟩))
end
mutual
noncomputable def Simp:T->T->Prop
 | .num p q,t=>t=T.nm (Rat.divInt p q)
 | .sym x,t=>t=.sym x
 | .pow b e,t=>∃ b',Simp b b'∧¬ Bad b' e.val∧PW b' e.val t
 | .sum ts,t=>∃ us,Simps ts us∧GS us t
 | .prod ts,t=>∃ us,Simps ts us∧GP us t
noncomputable def Simps:List T->List T->Prop
 | [],us=>us=[]
 | t :: ts,us=>∃ u us',us=u :: us'∧Simp t u∧Simps ts us'
end
mutual
noncomputable def Fails:T->Prop
 | .num _ _=>False
 | .sym _=>False
 | .pow b e=>Fails b∨∃ b',Simp b b'∧Bad b' e.val
 | .sum ts=>Failss ts
 | .prod ts=>Failss ts
noncomputable def Failss:List T->Prop
 | []=>False
 | t :: ts=>Fails t∨Failss ts
end
mutual
noncomputable def SOk (k n L m:Nat):T->Prop
 | .num _ q=>q≠0∧Sm q
 | .sym _=>True
 | .pow b e=>SOk k n L m b∧∃ x,e=T.nm x∧EOk k x∧∀ b',Simp b b'->PwOk k n L x b'
 | .sum ts=>SOks k n L m ts∧ts.length≤1000000∧∀ us,Simps ts us->GT n L m us
 | .prod ts=>SOks k n L m ts∧ts.length≤1000000∧∀ us,Simps ts us->POk (flatP us)∧POk2 n L (flatP us)
noncomputable def SOks (k n L m:Nat):List T->Prop
 | []=>True
 | t :: ts=>SOk k n L m t∧SOks k n L m ts
end
mutual
noncomputable def T.ht:T->Nat
 | .num ..=>0
 | .sym ..=>0
 | .pow b _=>b.ht+1
 | .sum ts=>T.hts ts+1
 | .prod ts=>T.hts ts+1
noncomputable def T.hts:List T->Nat
 | []=>0
 | t :: ts=>max t.ht (T.hts ts)
end
theorem Simps.len:∀ {ts us:List T},Simps ts us->us.length=ts.length
 | [],us,h=>congrArg List.length (show us=[] from h)
 | t :: ts,us,h=>by
  obtain ⟨u,us',rfl,_,h⟩:=h
  exact congrArg (·+1) (Simps.len h)
theorem Simps.snoc:∀ {ts us:List T}{t u:T},Simps ts us->Simp t u->Simps (ts ++ [t]) (us ++ [u])
 | [],us,t,u,h,h'=>by
  obtain rfl:us=[]:=h
  exact ⟨u,[],rfl,h',rfl⟩
 | x :: ts,us,t,u,h,h'=>by
  obtain ⟨v,us',rfl,hv,h⟩:=h
  exact ⟨v,us' ++ [u],rfl,hv,Simps.snoc h h'⟩
theorem failss_of:∀ {ts:List T}{t:T},t∈ts->Fails t->Failss ts
 | [],t,h,_=>(List.not_mem_nil h).elim
 | x :: ts,t,h,hf=>(List.mem_cons.mp h).elim (fun e=>.inl (e▸hf)) fun h=>.inr (failss_of h hf)
theorem soks_mem {k n L m:Nat}:∀ {ts:List T},SOks k n L m ts->∀ t∈ts,SOk k n L m t
 | [],_,t,h=>(List.not_mem_nil h).elim
 | x :: ts,q,t,h=>(List.mem_cons.mp h).elim (fun e=>e▸q.1) (soks_mem q.2 t)
theorem hts_mem:∀ {ts:List T},∀ t∈ts,t.ht≤T.hts ts
 | [],t,h=>(List.not_mem_nil h).elim
 | x :: ts,t,h=>(List.mem_cons.mp h).elim (fun e=>e▸Nat.le_max_left ..) fun h=>Nat.le_trans (hts_mem t h) (Nat.le_max_right ..)
end
section
section
variable {c:Cx}
noncomputable def Bs (n L m:Nat):Nat:=8 * n+2 * L+40+2 * m
noncomputable def SimpFn (c:Cx) (d:Nat) (t:T):Prop:=∀ (Q:RV->Prop) (X:Prop),(∀ u,Simp t u->Q ⟨.val u.enc,true⟩)->(Fails t->X)->Fn c d "simplify" [.val t.enc] Q X
theorem simp_num (P:Pg c) {d:Nat}{p q:Int} (hq:q≠0) (hs:Sm q):SimpFn c (d+5) (.num p q):=fun Q X k _ =>
 go1 P 61 "t" fun f F P _=>(fn_rat P hq hs).is ((fn_number_termT P (r:=Rat.divInt p q)).is (k _ rfl))
theorem simp_nm (P:Pg c) {x:Rat} (hx:x.den=1):Fn c 5 "simplify" [.val (T.nm x).enc] (fun r=>r=⟨.val (T.nm x).enc,true⟩) False:=by
 have k:=simp_num P (d:=0) (p:=x.num) (q:=x.den) (by refine hx▸?_;decide) (by refine hx▸?_;exact Nat.one_lt_two_pow (by decide)) (fun r=>r=⟨.val (T.nm x).enc,true⟩) False (fun u hu=>by refine (show u=_ from hu)▸?_;exact (Rat.num_divInt_den ..)▸rfl) False.elim
 exact k
theorem simp_sym (P:Pg c) {d:Nat}{x:Str}:SimpFn c (d+5) (.sym x):=fun Q X k _=>go1 P 61 "t" fun f F P _=>k _ rfl
theorem simp_pow (P:Pg c) (K:Rc c) {k n L m d:Nat} (hd:Bs n L m≤d) {b:T}{x:Rat} (E:EOk k x) (hb:SimpFn c d b) (hw:∀ b',Simp b b'->PwOk k n L x b'):SimpFn c (d+2) (.pow b (T.nm x)):=by
 intro Q X q hX
 refine go1 P 61 "t" fun f F P hc=>?_
 subst hc
 refine hb _ _ (fun b' hs=>(simp_nm P E.den).is (Fn.up (fn_power P K E (hw b' hs) (fun t hbad hp=>q t ?_) fun hbad=>hX (.inr ?_)) ?_) ?_) fun hf=>hX (.inl hf)
 ·exact ⟨b',hs,by rwa [T.val_nm],by rwa [T.val_nm]⟩
 ·exact ⟨b',hs,by rwa [T.val_nm]⟩
 ·exact Nat.le_trans (Nat.le_trans (Nat.add_le_add_left (by decide:38≤40) _) (Nat.le_add_right ..)) hd
 ·exact Nat.le_trans (Nat.le_trans (Nat.le_trans (by decide:5≤40) (Nat.le_add_left ..)) (Nat.le_add_right ..)) hd
theorem simp_parts {d:Nat}{f:Fx} (P:Pg f.c) (F:f.Ok (dfn 61).scope (d+1)) {κ:Str}{ts:List T}{X:Prop}{R:RV->Box->Prop}{N:Ab->Box->Prop}{σ:Box} (hl:ts.length≤1000000) (hp:∀ t∈ts,SimpFn f.c d t) (hX:Failss ts->X)
  (h:∀ us a,Simps ts us->N (set (set (par1 "t" (.val (.tup [.str κ,.tup (ts.map T.enc)]))) "kind" (.im (.str κ))) "parts" ⟨.lst a (us.map T.enc),true⟩) σ) :
  XS f (set (par1 "t" (.val (.tup [.str κ,.tup (ts.map T.enc)]))) "kind" (.im (.str κ))) σ (hdS (tlS (tlS (tlS (tlS (tlS (tlS (dfn 61).body))))))) N R X:=by
 refine XS_AssignCompX F (CScope.of (by decide +kernel)) (CScope.nofree (by decide +kernel)) rfl (fun g=>.name (.inl (by decide +kernel))) (by decide +kernel) (ES.T F (ES_val F (EV_v F P ?_))) rfl rfl
 refine ⟨by rwa [List.length_map],fun y _=>⟨[y],rfl,rfl⟩,fun i ys σ'=>σ'=σ∧∃ us,Simps (ts.take i) us∧ys=us.map T.enc,⟨rfl,[],rfl,rfl⟩,fun g hg G i y ys zs σ' hy hzs hJ _=>?_,fun ys σ' hJ a=>?_⟩
 ·obtain ⟨rfl,us,hJ,rfl⟩:=hJ
  subst hzs
  rw [List.getElem?_map,Option.map_eq_some_iff] at hy
  obtain ⟨t,ht,rfl⟩:=hy
  have hm:=List.mem_of_getElem? ht
  have hp:=hp t hm
  rw [← hg.c] at hp
  refine EV_v G (hg.c▸P) (hp _ _ (fun u hs=>⟨_,rfl,rfl,us ++ [u],?_,(List.map_append (f:=T.enc) (l₂:=[u])).symm⟩) fun hf=>hX (failss_of hm hf))
  rw [List.take_add_one];rw [ht]
  exact Simps.snoc hJ hs
 ·obtain ⟨rfl,us,hJ,rfl⟩:=hJ
  rw [List.length_map,List.take_length] at hJ
  exact h us a hJ
theorem simp_sum (P:Pg c) {n L m d:Nat} (hd:Bs n L m≤d) {ts:List T} (hl:ts.length≤1000000) (hp:∀ t∈ts,SimpFn c d t) (hg:∀ us,Simps ts us->GT n L m us):SimpFn c (d+2) (.sum ts):=by
 intro Q X q hX
 refine (T.enc_sum ..)▸?_
 refine go1 P 61 "t" fun f F P hc=>?_
 subst hc
 exact simp_parts P F hl hp hX fun us a hJ=>Fn.up (fn_gsum P m us a (hg us hJ) fun t h=>q t ⟨us,hJ,h⟩) (Nat.le_trans (Nat.add_le_add_right (Nat.add_le_add_left (by decide:20≤40) _) _) hd)
theorem simp_prod (P:Pg c) {n L m d:Nat} (hd:Bs n L m≤d) {ts:List T} (hl:ts.length≤1000000) (hp:∀ t∈ts,SimpFn c d t) (hg:∀ us,Simps ts us->POk (flatP us)∧POk2 n L (flatP us)):SimpFn c (d+2) (.prod ts):=by
 intro Q X q hX
 refine (T.enc_prod ..)▸?_
 refine go1 P 61 "t" fun f F P hc=>?_
 subst hc
 exact simp_parts P F hl hp hX fun us a hJ=>Fn.up (fn_gprod P (hg us hJ).1 (hg us hJ).2 fun t h=>q t ⟨us,hJ,h⟩) (Nat.le_trans (Nat.le_trans (Nat.add_le_add_left (by decide:31≤40) _) (Nat.le_add_right ..)) hd)
theorem fn_simplify (P:Pg c) (K:Rc c) {k n L m:Nat}:∀ (h:Nat) (t:T),t.ht≤h->SOk k n L m t->SimpFn c (Bs n L m+2 * h+5) t
 | h,.num p q,_,hs=>simp_num P hs.1 hs.2
 | h,.sym x,_,_=>simp_sym P
 | 0,.pow ..,ht,_ | 0,.sum _,ht,_ | 0,.prod _,ht,_=>nomatch ht
 | h+1,.pow b x,ht,⟨h1,y,e,E,hw⟩=>e▸simp_pow P K (Nat.le_trans (Nat.le_add_right ..) (Nat.le_add_right ..)) E (fn_simplify P K h b (Nat.le_of_succ_le_succ ht) h1) hw
 | h+1,.sum ts,ht,hs=>simp_sum P (Nat.le_trans (Nat.le_add_right ..) (Nat.le_add_right ..)) hs.2.1 (fun t hm=>fn_simplify P K h t (Nat.le_trans (hts_mem t hm) (Nat.le_of_succ_le_succ ht)) (soks_mem hs.1 t hm)) hs.2.2
 | h+1,.prod ts,ht,hs=>simp_prod P (Nat.le_trans (Nat.le_add_right ..) (Nat.le_add_right ..)) hs.2.1 (fun t hm=>fn_simplify P K h t (Nat.le_trans (hts_mem t hm) (Nat.le_of_succ_le_succ ht)) (soks_mem hs.1 t hm)) hs.2.2
end
end
section
noncomputable def takeB (w:Int) (σ:Box):Int×Box:=match σ.1 with
 | a :: r=>(a.fmod w,(r,σ.2))
 | []=>(Int.fmod (Int.fdiv (Int.fmod (σ.2 * 48271+11) 2147483647) 97) w,([],Int.fmod (σ.2 * 48271+11) 2147483647))
structure Bx (σ:Box):Prop where
 lo:0≤σ.2
 hi:σ.2 < 2147483647
 len:σ.1.length≤100
theorem takeB_ok {w:Int}{σ:Box} (h:Bx σ):Bx (takeB w σ).2:=by
 obtain ⟨xs,n⟩:=σ
 obtain ⟨h1,h2,h3⟩:=h
 unfold takeB
 cases xs with
 | nil =>
  refine ⟨?_,?_,by simp⟩
  ·show 0≤Int.fmod _ _
   rw [Int.fmod_eq_emod_of_nonneg _ (by decide)];exact Int.emod_nonneg _ (by decide)
  ·show Int.fmod _ _ < _
   rw [Int.fmod_eq_emod_of_nonneg _ (by decide)];exact Int.emod_lt_of_pos _ (by decide)
 | cons a r =>
  simp only [List.length_cons] at h3
  exact ⟨h1,h2,by show r.length≤100;lia⟩
theorem takeB_lt {w:Int} (hw:0 < w) (σ:Box):0≤(takeB w σ).1∧(takeB w σ).1 < w:=by
 have:∀ a:Int,0≤a.fmod w∧a.fmod w < w:=fun a=>by
  rw [Int.fmod_eq_emod_of_nonneg _ (by lia)]
  exact ⟨Int.emod_nonneg _ (by lia),Int.emod_lt_of_pos _ hw⟩
 unfold takeB
 split <;> exact this _
section
variable {c:Cx}{B L:Addr}
theorem fn_take (P:Pg c) {w:Int}{σ:Box} (hw:w≠0) (hσ:Bx σ):BFn c 1 B L "_law_take" [.ref (.ref B),.val (.int w)] σ (fun r σ'=>r=⟨.val (.int (takeB w σ).1),true⟩∧σ'=(takeB w σ).2):=by
 refine enterB2 (x:="box") (y:="wide") (P.at "_law_take" 63) (fun f i=>?_) (by intro _ _ _ _ _;rfl) (by first | exact .inl rfl | exact .inr rfl) (by first | exact .inl rfl | exact .inr rfl) (by decide) rfl rfl rfl (by decide +kernel)
 obtain ⟨F,rfl,own,cells,hZ,hzok⟩:=i
 refine XL_step ?_
 refine XS_If F (ET_Cmp F (EV_BoxLen F hzok rfl rfl (by have:=hσ.len;lia) (EV_int F ?_)))
 obtain ⟨xs,n⟩:=σ
 cases xs with
 | cons a r =>
  refine q_gt (bth_t (by simp) ?_)
  have:=hσ.len
  simp only [List.length_cons] at this
  refine XL_step (XS_Return F (EV_Bin F ?_))
  refine EV_BoxPop F hZ hzok (a:=a) (r:=r) (n:=n) rfl rfl (by lia) ?_
  repeat (first | (with_reducible refine EV_v0 (by assumption) (by assumption) ?_) | (with_reducible refine XL_v0 (by assumption) (by assumption) ?_) | (with_reducible refine EL_v0 (by assumption) (by assumption) ?_) | (refine ret_of ?_))
  refine b_mod hw ?_
  exact ⟨.inr (.inl rfl),rfl,rfl⟩
 | nil =>
  refine q_gt (bth_f (by simp) ?_)
  refine XL_nil (XL_step ?_)
  refine XS_BoxSet F hZ hzok rfl ?_
  refine EV_Bin F (EV_Bin F (EV_Bin F (EV_Box1 F hzok rfl ?_)))
  have b1:=hσ.lo
  have b2:=hσ.hi
  dsimp only at b1 b2
  repeat (first | (with_reducible refine EV_v0 (by assumption) (by assumption) ?_) | (with_reducible refine XL_v0 (by assumption) (by assumption) ?_) | (with_reducible refine EL_v0 (by assumption) (by assumption) ?_) | (refine ret_of ?_))
  refine b_mul (mulOk_of (Sm.of (k:=40) (by lia) (by decide)) (Sm.of (k:=40) (by decide) (by decide))) ?_
  repeat (first | (with_reducible refine EV_v0 (by assumption) (by assumption) ?_) | (with_reducible refine XL_v0 (by assumption) (by assumption) ?_) | (with_reducible refine EL_v0 (by assumption) (by assumption) ?_) | (refine ret_of ?_))
  refine b_add ?_
  repeat (first | (with_reducible refine EV_v0 (by assumption) (by assumption) ?_) | (with_reducible refine XL_v0 (by assumption) (by assumption) ?_) | (with_reducible refine EL_v0 (by assumption) (by assumption) ?_) | (refine ret_of ?_))
  refine b_mod (by decide) ?_
  refine ⟨_,rfl,?_⟩
  refine XL_step ?_
  refine XS_Return F (EV_Bin F (EV_Bin F (EV_Box1 F hzok rfl ?_)))
  repeat (first | (with_reducible refine EV_v0 (by assumption) (by assumption) ?_) | (with_reducible refine XL_v0 (by assumption) (by assumption) ?_) | (with_reducible refine EL_v0 (by assumption) (by assumption) ?_) | (refine ret_of ?_))
  refine b_div (by decide) (Sm.of (k:=40) (by decide) (by decide)) ?_
  repeat (first | (with_reducible refine EV_v0 (by assumption) (by assumption) ?_) | (with_reducible refine XL_v0 (by assumption) (by assumption) ?_) | (with_reducible refine EL_v0 (by assumption) (by assumption) ?_) | (refine ret_of ?_))
  refine b_mod hw ?_
  exact ⟨.inr (.inl rfl),rfl,rfl⟩
end
end
section
inductive Raw:Nat->T->Prop
 | sym {n:Nat}{x:Str}:x="x"∨x="y"∨x="z"->Raw n (.sym x)
 | num {n:Nat}{p q:Int}:-3≤p->p≤5->1≤q->q≤3->Raw n (.num p q)
 | pow {n:Nat}{b:T}{j:Int}:Raw n b->-2≤j->j≤3->Raw (n+1) (.pow b (.num j 1))
 | sum {n:Nat}{ts:List T}:(∀ t∈ts,Raw n t)->2≤ts.length->ts.length≤3->Raw (n+1) (.sum ts)
 | prod {n:Nat}{ts:List T}:(∀ t∈ts,Raw n t)->2≤ts.length->ts.length≤3->Raw (n+1) (.prod ts)
section
variable {c:Cx}{B L:Addr}
theorem fn_takeE (P:Pg c) {d:Nat}{w:Int}{σ:Box} (hw:0 < w) (hσ:Bx σ) {Q:RV->Box->Prop} (q:∀ j τ,0≤j->j < w->Bx τ->Q ⟨.val (.int j),true⟩ τ) (hd:1≤d:=by exact Nat.le_of_ble_eq_true rfl):BFn c d B L "_law_take" [.ref (.ref B),.val (.int w)] σ Q :=
 (fn_take P (Int.ne_of_gt hw) hσ).mono hd fun r τ _ e=>by rw [e.1];rw [e.2];exact q _ _ (takeB_lt hw σ).1 (takeB_lt hw σ).2 (takeB_ok hσ)
noncomputable def TermFn (c:Cx) (B L:Addr) (d:Nat) (m:Int) (n:Nat):Prop:=∀ σ,Bx σ->∀ Q:RV->Box->Prop,(∀ t τ,Raw n t->Bx τ->Q ⟨.val t.enc,true⟩ τ)->BFn c d B L "_law_term" [.ref (.ref B),.val (.int m)] σ Q
structure InBox (f:Fx) (B L:Addr):Prop where
 z:f.Z=[B,L]
 zok:f.zok=BoxOk B L
theorem raw_list {k:Nat}{κ:Str} (hκ:κ∈(["prod","sum"]:List Str)) {us:List T} (hr:∀ u∈us,Raw k u) (h2:2≤us.length) (h3:us.length≤3):∃ t:T,t.enc=.tup [.str κ,.tup (us.map T.enc)]∧Raw (k+1) t:=by
 rcases List.mem_cons.mp hκ with rfl | h
 ·exact ⟨.prod us,T.enc_prod us,.prod hr h2 h3⟩
 ·obtain rfl:=List.mem_singleton.mp h
  exact ⟨.sum us,T.enc_sum us,.sum hr h2 h3⟩
noncomputable def tI (B:Addr) (m:Nat) (fm:Int):List (Str×RV):=[("form",⟨.val (.int fm),true⟩),("box",⟨.ref (.ref B),false⟩),("deep",.im (.int m))]
theorem term_list {f:Fx} (P:Pg f.c) {m k d:Nat} (F:f.Ok (dfn 65).scope (d+3)) (Z:InBox f B L) (cells:∀ x,(dfn 65).scope.names.lookup x=some .cell->∃ a,f.env.cells.lookup x=some a) {fm:Int}{τ:Box} (hτ:Bx τ) (h0:3≤fm) (h6:fm < 5) (hm:m=k+1) (rc:TermFn f.c B L d (m - 1) k) {ρ:Ab}{R:RV->Box->Prop}
  (q:∀ t τ,Raw m t->Bx τ->R ⟨.val t.enc,true⟩ τ):XL f (sets ρ (tI B m fm)) τ (tlS (tlS (tlS (tlS (dfn 65).body)))) (fun _ _=>False) R False:=by
 refine XL_v F P fun a=>s_pick (g:=PV.str) ["prod","sum"] (Int.sub_nonneg_of_le h0) (Int.sub_lt_sub_right h6 3) (by decide) fun κ hκ=>?_
 refine EV_Comp F (CScope.of (by decide +kernel)) (fun x hx e=>?_) (fun g=>.name (.inl (by decide +kernel))) (by decide +kernel) (ES.T F (ES_Range F rfl (EV_v F P ⟨_,_,Z.z,Z.zok,fn_takeE P (by decide) hτ fun j τ' l1 l2 τ1=>?_⟩)))
 ·have:∀ x∈[("box":Str),"deep"],∃ a,f.env.cells.lookup x=some a:=fun x hx=>(List.mem_cons.mp hx).elim (fun e=>e▸cells _ rfl) fun h=>(List.mem_singleton.mp h)▸cells _ rfl
  exact this _ (onlyFrees ["box","deep"] (by decide +kernel) x hx e)
 ·obtain ⟨j,rfl⟩:=Int.eq_ofNat_of_zero_le l1
  have hj:j < 2:=Int.ofNat_lt.mp l2
  refine ⟨2+j,rfl,Nat.le_trans (Nat.add_le_add_left (Nat.le_of_lt hj) 2) (by decide),?_⟩
  refine ⟨by refine (ups_len ..)▸?_;exact Nat.le_trans (Nat.add_le_add_left (Nat.le_of_lt hj) 2) (by decide),fun y _=>⟨[y],rfl,rfl⟩,fun i ys σ=>∃ us,ys=us.map T.enc∧us.length=i∧(∀ u∈us,Raw k u)∧Bx σ,⟨[],rfl,rfl,nofun,τ1⟩,fun g hg G i y ys zs σ hy hzs hJ _=>?_,fun ys σ hJ a2=>?_⟩
  ·obtain ⟨us,rfl,hl,hr,hσ⟩:=hJ
   subst hzs
   rw [← hg.c] at rc
   exact EV_v G (hg.c▸P) ⟨B,L,hg.z.trans Z.z,hg.zok.trans Z.zok,(rc σ hσ _ fun b τ hb hτ=>⟨_,rfl,us ++ [b],(List.map_append (f:=T.enc) (l₂:=[b])).symm,by refine List.length_append▸?_;refine hl▸?_;rfl,fun u hu=>(List.mem_append.mp hu).elim (hr u) fun h=>List.mem_singleton.mp h▸hb,hτ⟩).mono (Nat.le_add_right ..) fun _ _ _ h=>h⟩
  ·obtain ⟨us,rfl,hl,hr,hσ⟩:=hJ
   rw [ups_len] at hl
   obtain ⟨t,e,ht⟩:=raw_list hκ hr (hl▸Nat.le_add_right ..) (hl▸Nat.add_le_add_left (Nat.le_of_lt_succ hj) 2)
   have q:=q t σ (hm▸ht) hσ
   rw [e] at q
   exact t_tuple (by rw [List.length_map];refine (hl ..)▸?_;exact Nat.le_trans (Nat.add_le_add_left (Nat.le_of_lt hj) 2) (by decide)) q
theorem term_tail {f:Fx} (P:Pg f.c) {m d:Nat} (F:f.Ok (dfn 65).scope (d+3)) (Z:InBox f B L) (cells:∀ x,(dfn 65).scope.names.lookup x=some .cell->∃ a,f.env.cells.lookup x=some a) {fm:Int}{τ:Box} (hτ:Bx τ) (h0:0≤fm) (h6:fm < 6) (rc:3≤fm->∃ k,m=k+1∧TermFn f.c B L d (m - 1) k) {ρ:Ab}{R:RV->Box->Prop}
  (q:∀ t τ,Raw m t->Bx τ->R ⟨.val t.enc,true⟩ τ):XL f (sets ρ (tI B m fm)) τ (tlS (dfn 65).body) (fun _ _=>False) R False:=by
 refine XL_step (XS_v F P (dec_both (fun _=>?_) fun h2=>XL_step (XS_v F P (dec_both (fun _=>?_) fun h3=>?_))))
 ·exact fun a=>⟨_,_,Z.z,Z.zok,fn_takeE P (by decide) hτ fun j τ' l1 l2 τ1=>s_pick (g:=PV.str) ["x","y","z"] l1 l2 (by decide) fun x hx=>q (.sym x) _ (.sym (by simpa using hx)) τ1⟩
 ·exact ⟨_,_,Z.z,Z.zok,fn_takeE P (by decide) hτ fun j τ' l1 l2 τ1=>⟨_,_,Z.z,Z.zok,fn_takeE P (by decide) τ1 fun j2 τ'' l3 l4 τ2=>q (.num (j - 3) (1+j2)) _ (.num (by lia) (by lia) (by lia) (by lia)) τ2⟩⟩
 ·have h3:3≤fm:=by lia
  obtain ⟨k,hk,rc⟩:=rc h3
  refine XL_step (XS_v F P (dec_both (fun _=>?_) fun h5=>term_list P F Z cells hτ h3 (by lia) hk rc q))
  exact ⟨_,_,Z.z,Z.zok,(rc τ hτ _ fun b τ1 hb hτ1 a=>⟨_,_,Z.z,Z.zok,fn_takeE P (by decide) hτ1 fun j τ' l1 l2 τ2=>s_pick (g:=PV.int) [2,-1,0,1,-2,3] l1 l2 (by decide) fun e he =>
   have b:=(by decide:∀ e∈([2,-1,0,1,-2,3]:List Int),-2≤e∧e≤3) e he
   q (.pow _ (.num e 1)) _ (hk▸.pow hb b.1 b.2) τ2⟩).mono (Nat.le_add_right ..) fun _ _ _ h=>h⟩
theorem term_step (P:Pg c) {m d:Nat} (rc:∀ k,m=k+1->TermFn c B L d (m - 1) k):TermFn c B L (d+4) m m:=by
 intro σ hσ Q q
 refine enterB2 (x:="box") (y:="deep") (P.at "_law_term" 65) (fun f i=>?_) (by intro _ _ _ _ _;rfl) (by first | exact .inl rfl | exact .inr rfl) (by first | exact .inl rfl | exact .inr rfl) (by decide) rfl rfl rfl (by decide +kernel)
 obtain ⟨F,rfl,own,cells,hZ,hzok⟩:=i
 refine XL_cutH (tI B m) (fun fm τ=>Bx τ∧0≤fm∧fm < 6∧(3≤fm->∃ k,m=k+1)) (XS_v F P (dec_both (fun h=>⟨_,_,hZ,hzok,fn_takeE P (by decide) hσ fun j τ l1 l2 τ1=>⟨j,⟨rfl,rfl,rfl,trivial⟩,τ1,l1,l2,fun _=>?_⟩⟩) fun h=>⟨_,_,hZ,hzok,fn_takeE P (by decide) hσ fun j τ l1 l2 τ1=>⟨j,⟨rfl,rfl,rfl,trivial⟩,τ1,l1,Int.lt_trans l2 (by decide),fun h=>absurd l2 (Int.not_lt.mpr h)⟩⟩)) fun fm ρ τ h=>term_tail P F ⟨hZ,hzok⟩ cells h.1 h.2.1 h.2.2.1 (fun h3=>?_) q
 ·exact ⟨m - 1,(Nat.succ_pred_eq_of_pos (Int.ofNat_lt.mp h)).symm⟩
 ·obtain ⟨k,hk⟩:=h.2.2.2 h3
  exact ⟨k,hk,rc k hk⟩
theorem fn_term (P:Pg c):∀ (n:Nat),TermFn c B L (4 * n+4) n n
 | 0=>term_step P (d:=0) nofun
 | n+1=>term_step P (d:=4 * n+4) fun k h=>by
  obtain rfl:k=n:=Nat.succ.inj h.symm
  refine (show (((k+1:Nat):Int) - 1)=(k:Int) from Int.add_sub_cancel (k:Int) 1)▸?_
  exact fn_term P k
end
end
section
noncomputable def optP:Option Rat->PV
 | none=>.none
 | some r=>ratP r
noncomputable def ratioO (p q:Int):Option Rat:=if q=0 then none else some (Rat.divInt p q)
theorem ratioO_eq {p q:Int} (h:q=0):PV.none=optP (ratioO p q):=by unfold ratioO;refine (if_pos h)▸?_;rfl
theorem ratioO_ne {p q:Int} (h:q≠0):ratioO p q=some (Rat.divInt p q):=if_neg h
section
variable {c:Cx}
noncomputable def rI (p q:Int) (u:Int×Int):List (Str×RV):=[("one",.im (.int u.1)),("other",.im (.int u.2)),("top",.im (.int p)),("bottom",.im (.int q))]
theorem fn_ratio (P:Pg c) {p q:Int} (h:Sm q):Fn c 1 "_law_ratio" [.val (.int p),.val (.int q)] (fun r=>r=⟨.val (optP (ratioO p q)),true⟩) False:=by
 refine in2 P 67 "top" "bottom" fun f i P=>XL_step (XS_v0 i.ok P (dec_both (fun hq=>ret_of (ratioO_eq hq)) fun hq=>XL_step (XS_v0 i.ok P (t_abs (t_abs (XL_step (XS_WhileV i.ok (rI p q) (GcdJ p q) _ (absI p,absI q) ⟨rfl,rfl,rfl,rfl,trivial⟩ (.start p q) fun n u ρ σ J=>ET_v0 i.ok P (dec_both (fun hv=>?_) fun hv=>?_))))))))
 ·have nx:=J.next (Int.ne_of_gt hv)
  exact XL_v0 i.ok P (b_mod (Int.ne_of_gt hv) ⟨_,(u.2,u.1.fmod u.2),nx.1,⟨rfl,rfl,rfl,rfl,trivial⟩,nx.2⟩)
 ·have e:=J.fin (Int.le_antisymm (Int.not_lt.mp hv) J.h1)
  have g:=gcd_sm (p:=p) hq h
  refine XL_cutH (fun nw:Bool=>[("one",⟨.val (.int (gcdS p q)),nw⟩),("top",.im (.int p)),("bottom",.im (.int q))]) (fun _ _=>True) (XS_v0 i.ok P (dec_both (fun hp=>⟨false,⟨somI (e.trans (if_pos hp).symm),rfl,rfl,trivial⟩,trivial⟩) fun hp=>⟨false,⟨somI ((congrArg (0 - ·) e).trans (if_neg hp).symm),rfl,rfl,trivial⟩,trivial⟩)) fun nw ρ σ _=>XL_v0 i.ok P (b_div g.1 g.2 (b_div g.1 g.2 (ret_of ((ratP_red hq).trans (congrArg optP (ratioO_ne hq)).symm))))
end
end
section
mutual
noncomputable def turned:T->T
 | .sum ts=>.sum (turneds ts).reverse
 | .prod ts=>.prod (turneds ts).reverse
 | .pow b e=>.pow (turned b) e
 | .num p q=>.num p q
 | .sym x=>.sym x
noncomputable def turneds:List T->List T
 | []=>[]
 | t :: ts=>turned t :: turneds ts
end
theorem turneds_map:∀ ts,turneds ts=ts.map turned
 | []=>rfl
 | t :: ts=>congrArg (turned t :: ·) (turneds_map ts)
section
variable {c:Cx}
noncomputable def TurnFn (c:Cx) (d:Nat) (t:T):Prop:=Fn c d "_law_turned" [.val t.enc] (fun v=>v=⟨.val (turned t).enc,true⟩) False
theorem turned_list (P:Pg c) {d:Nat}{k:Str} (hk:k="sum"∨k="prod") {ts:List T} (hl:ts.length≤1000000) (hu:∀ u∈ts,TurnFn c d u):Fn c (d+2) "_law_turned" [.val (.tup [.str k,.tup (ts.map T.enc)])] (fun v=>v=⟨.val (.tup [.str k,.tup ((turneds ts).reverse.map T.enc)]),true⟩) False:=by
 refine in1 P 66 "term" fun f i P=>?_
 obtain ⟨F,rfl,_⟩:=i
 have hr:(ts.map fun u=>(turned u).enc).length≤1000000:=by rwa [List.length_map]
 refine XL_v F P (q_in true ⟨fun _=>hk.elim (fun e=>e▸.head _) fun e=>e▸.tail _ (.head _),fun _=>rfl⟩ rfl ?_)
 refine EV_Comp F (CScope.of (by decide +kernel)) (fun x hx e=>(CScope.nofree (by decide +kernel) x hx e).elim) (fun g=>.name (.inl (by decide +kernel))) (by decide +kernel) (ES.T F (ES_val F (EV_v F P (comp_map (fun u=>(turned u).enc) P hl (fun g hc G P u hm=>EV_v G P ((hc▸hu u hm:TurnFn g.c d u).is ⟨_,rfl,rfl,rfl⟩)) fun a=>⟨hr,_,⟨rfl,rfl⟩,fun a2=>t_tuple (by rwa [List.length_reverse]) (ret_of ?_)⟩))))
 refine (turneds_map ..)▸?_;refine (List.map_reverse ..)▸?_;refine (List.map_reverse ..)▸?_;refine List.map_map.symm▸?_;rfl
theorem turned_other (P:Pg c) {d:Nat}{t:T} (hk:¬ (t.kind="sum"∨t.kind="prod")) (hk':t.kind≠"pow"):Fn c (d+2) "_law_turned" [.val t.enc] (fun v=>v=⟨.val t.enc,true⟩) False :=
 go1 P 66 "term" fun f F P _=>q_in false ⟨nofun,fun h=>absurd ((List.mem_cons.mp h).imp PV.str.inj fun h=>PV.str.inj (List.mem_singleton.mp h)) hk⟩ rfl (both_f rfl (both_f (decide_eq_false hk') rfl))
theorem turned_pow (P:Pg c) {d:Nat}{b e:T} (hb:TurnFn c d b):TurnFn c (d+2) (.pow b e):=by
 refine go1 P 66 "term" fun f F P hc=>?_
 subst hc
 exact q_in false ⟨nofun,fun h=>((List.mem_cons.mp h).imp PV.str.inj fun h=>PV.str.inj (List.mem_singleton.mp h)).elim (fun e=>absurd e (of_decide_eq_false rfl)) fun e=>absurd e (of_decide_eq_false rfl)⟩ rfl (both_f rfl (Fn.is hb rfl))
theorem fn_turned (P:Pg c):∀ (n:Nat) (t:T),Raw n t->TurnFn c (2 * n+2) t
 | n,.num p q,_=>turned_other P (of_decide_eq_false rfl) (of_decide_eq_false rfl)
 | n,.sym x,_=>turned_other P (of_decide_eq_false rfl) (of_decide_eq_false rfl)
 | n,.pow b e,h=>by
  cases h with | pow hb=>exact turned_pow P (fn_turned P _ b hb)
 | n,.sum ts,h=>by
  cases h with
  | sum hu h2 h3 =>
   show Fn _ _ _ _ (fun v=>v=⟨.val (T.sum (turneds ts).reverse).enc,true⟩) _
   refine (T.enc_sum ..)▸?_;rw [T.enc_sum]
   exact turned_list P (.inl rfl) (Nat.le_trans h3 (by decide)) fun u hm=>fn_turned P _ u (hu u hm)
 | n,.prod ts,h=>by
  cases h with
  | prod hu h2 h3 =>
   show Fn _ _ _ _ (fun v=>v=⟨.val (T.prod (turneds ts).reverse).enc,true⟩) _
   refine (T.enc_prod ..)▸?_;rw [T.enc_prod]
   exact turned_list P (.inr rfl) (Nat.le_trans h3 (by decide)) fun u hm=>fn_turned P _ u (hu u hm)
end
end
section
noncomputable def powO:Option Rat->Option Rat->Option Rat
 | some x,some m=>if m.den≠1∨(x=0∧m.num≤0) then none else some (rpow x m.num)
 | _,_=>none
noncomputable def opR (s:Bool) (r x:Rat):Rat:=if s then r+x else r * x
mutual
noncomputable def ev (v:Str->Rat):T->Option Rat
 | .num p q=>ratioO p q
 | .sym x=>some (v x)
 | .pow b e=>powO (ev v b) (ev v e)
 | .sum ts=>evL v true ts 0
 | .prod ts=>evL v false ts 1
noncomputable def evL (v:Str->Rat) (s:Bool):List T->Rat->Option Rat
 | [],r=>some r
 | t :: ts,r=>(ev v t).bind fun x=>evL v s ts (opR s r x)
end
noncomputable def WOkL (v:Str->Rat) (s:Bool):List T->Rat->Prop
 | [],r=>Sq r
 | t :: ts,r=>Sq r∧∀ x,ev v t=some x->Sq x∧WOkL v s ts (opR s r x)
mutual
noncomputable def WOk (v:Str->Rat):T->Prop
 | .num _ q=>Sm q
 | .sym x=>(x="x"∨x="y"∨x="z")
 | .pow b e=>WOk v b∧(∃ j:Int,e=T.nm (j:Rat)∧j.natAbs≤4096∧∀ x,ev v b=some x->Sm x.num∧Sm x.den∧Sm (x.num ^ j.natAbs)∧Sm ((x.den:Int) ^ j.natAbs))
 | .sum ts=>ts.length≤1000000∧WOkA v ts∧WOkL v true ts 0
 | .prod ts=>ts.length≤1000000∧WOkA v ts∧WOkL v false ts 1
noncomputable def WOkA (v:Str->Rat):List T->Prop
 | []=>True
 | t :: ts=>WOk v t∧WOkA v ts
end
theorem woka_mem {v:Str->Rat}:∀ {ts:List T},WOkA v ts->∀ t∈ts,WOk v t
 | [],_,t,h=>(List.not_mem_nil h).elim
 | x :: ts,q,t,h=>(List.mem_cons.mp h).elim (fun e=>e▸q.1) (woka_mem q.2 t)
noncomputable def tabX (v:Str->Rat):List (Str×PV):=[(("x":Str),ratP (v "x")),(("y":Str),ratP (v "y")),(("z":Str),ratP (v "z"))]
theorem powO_some (x m:Rat):powO (some x) (some m)=if m.den≠1∨(x=0∧m.num≤0) then none else some (rpow x m.num):=rfl
section
variable {c:Cx}
noncomputable def WorthFn (c:Cx) (d:Nat) (v:Str->Rat) (a:Addr) (t:T):Prop:=Fn c d "_law_worth" [.val t.enc,.tab a (tabX v)] (fun r=>r=⟨.val (optP (ev v t)),true⟩) False
theorem worth_num (P:Pg c) {v:Str->Rat}{a:Addr}{d:Nat}{p q:Int} (h:Sm q):WorthFn c (d+3) v a (.num p q):=go2 P 68 "term" "known" fun f F P _=>(fn_ratio P h).is rfl
theorem worth_sym (P:Pg c) {v:Str->Rat}{a:Addr}{d:Nat}{x:Str} (h:x="x"∨x="y"∨x="z"):WorthFn c (d+3) v a (.sym x):=by
 rcases h with rfl | rfl | rfl <;> exact go2 P 68 "term" "known" fun f F P _=>rfl
theorem inv_pow (a:Rat) (n:Nat):a⁻¹ ^ n=(a ^ n)⁻¹:=by
 induction n with
 | zero=>refine (Rat.pow_zero ..)▸?_;rw [Rat.pow_zero];decide +kernel
 | succ n ih=>refine (Rat.pow_succ ..)▸?_;rw [Rat.pow_succ];rw [Rat.inv_mul_rev];refine ih.symm▸?_;exact (Rat.mul_comm ..)▸rfl
theorem rpow_zpow (a:Rat) (n:Int):rpow a n=a ^ n:=by
 unfold rpow
 cases n with
 | ofNat m=>refine (if_neg (show ¬ Int.ofNat m < 0 from Int.not_lt.mpr (Int.natCast_nonneg m)) ..)▸?_;exact (Rat.zpow_natCast a m).symm
 | negSucc m =>
  refine (if_pos (Int.negSucc_lt_zero m) ..)▸?_;refine (Int.negSucc_eq ..)▸?_;refine (Int.natCast_succ ..)▸?_;refine (Rat.zpow_neg ..)▸?_;refine (Rat.zpow_natCast ..)▸?_;refine (inv_pow ..)▸?_;refine (Int.natAbs_neg ..)▸?_;exact (Int.natAbs_natCast ..)▸rfl
theorem ratio_pow {x:Rat}{n:Nat}:ratioO (x.num ^ n) ((x.den:Int) ^ n)=some (x ^ n):=by
 have e:Rat.divInt (x ^ n).num (x ^ n).den=x ^ n:=Rat.num_divInt_den _
 rw [Rat.num_pow,Rat.den_pow,Int.natCast_pow] at e
 refine (ratioO_ne (Int.pow_ne_zero (den_ne x))).symm▸?_;exact e.symm▸rfl
theorem ratio_ipow {x:Rat}{n:Nat} (h:x≠0):ratioO ((x.den:Int) ^ n) (x.num ^ n)=some (x⁻¹ ^ n):=by
 have e:Rat.divInt (x ^ n).num (x ^ n).den=x ^ n:=Rat.num_divInt_den _
 rw [Rat.num_pow,Rat.den_pow,Int.natCast_pow] at e
 refine (ratioO_ne (Int.pow_ne_zero fun k=>h (Rat.num_eq_zero.mp k)) ..)▸?_;refine (inv_pow ..)▸?_;refine (Rat.inv_divInt ..)▸?_;exact (e ..)▸rfl
theorem ev_int {v:Str->Rat}{j:Int}:ev v (T.nm (j:Rat))=some (j:Rat):=(ratioO_ne (show (1:Int)≠0 by decide)).trans (congrArg some (T.val_nm (j:Rat)))
noncomputable def wI (b:Rat) (j:Int):List (Str×RV):=[("base",⟨.val (ratP b),true⟩),("many",⟨.val (.tup [.int j,.int 1]),true⟩)]
theorem worth_pow_end {f:Fx} (P:Pg f.c) {d:Nat} (F:f.Ok (dfn 68).scope (d+4)) {x:Rat}{j:Int} (hj:j.natAbs≤4096) (x1:Sm x.num) (x2:Sm x.den) (x3:Sm (x.num ^ j.natAbs)) (x4:Sm ((x.den:Int) ^ j.natAbs)) (hg:¬ (x=0∧j≤0)) {ρ:Ab}{σ:Box}{N:Ab->Box->Prop} :
  XL f (sets ρ (wI x j)) σ (tlS (tlS (ifA (hdS (tlS (tlS (tlS (dfn 68).body))))))) N (fun r _=>r=⟨.val (optP (some (rpow x j))),true⟩) False:=by
 refine XL_v F P (dec_both (fun h=>?_) fun h=>?_)
 ·obtain ⟨n,rfl⟩:=Int.eq_ofNat_of_zero_le (Int.le_of_lt h)
  have e:optP (ratioO (x.num ^ n) ((x.den:Int) ^ n))=optP (some (rpow x n)):=by rw [ratio_pow];rw [rpow];rw [if_neg (Int.not_lt.mpr (Int.natCast_nonneg n))];rfl
  exact b_pow (Int.natCast_nonneg n) (Int.ofNat_le.mpr hj) x1 (b_pow (Int.natCast_nonneg n) (Int.ofNat_le.mpr hj) x2 ((fn_ratio P x4).is (ret_of e)))
 ·have xn:x≠0:=fun k=>hg ⟨k,Int.not_lt.mp h⟩
  obtain ⟨n,hn⟩:=Int.eq_ofNat_of_zero_le (Int.neg_nonneg_of_nonpos (Int.not_lt.mp h))
  obtain rfl:j=-(n:Int):=by refine (hn ..)▸?_;exact (Int.neg_neg ..)▸rfl
  rw [Int.natAbs_neg,Int.natAbs_natCast] at hj x3 x4
  have e:ratioO ((x.den:Int) ^ (-(-(n:Int))).toNat) (x.num ^ (-(-(n:Int))).toNat)=some (rpow x (-(n:Int))):=by
   refine (Int.neg_neg ..)▸?_;refine (Int.toNat_natCast ..)▸?_;refine (ratio_ipow xn ..)▸?_;refine (rpow_zpow ..)▸?_;refine (Rat.zpow_neg ..)▸?_;refine (Rat.zpow_natCast ..)▸?_;exact (inv_pow ..)▸rfl
  refine b_pow (Int.neg_nonneg_of_nonpos (Int.not_lt.mp h)) ?_ x2 (b_pow (Int.neg_nonneg_of_nonpos (Int.not_lt.mp h)) ?_ x1 ((fn_ratio P ?_).is (ret_of (congrArg optP e))))
  ·refine (Int.neg_neg ..)▸?_;exact Int.ofNat_le.mpr hj
  ·refine (Int.neg_neg ..)▸?_;exact Int.ofNat_le.mpr hj
  ·refine (Int.neg_neg ..)▸?_;refine (Int.toNat_natCast ..)▸?_;exact x3
theorem worth_pow (P:Pg c) {v:Str->Rat}{a:Addr}{d:Nat}{b:T}{j:Int} (hb:WorthFn c (d+3) v a b) (hj:j.natAbs≤4096) (hx:∀ x,ev v b=some x->Sm x.num∧Sm x.den∧Sm (x.num ^ j.natAbs)∧Sm ((x.den:Int) ^ j.natAbs)):WorthFn c (d+5) v a (.pow b (T.nm (j:Rat))):=by
 have wj:∀ {c:Cx},Pg c->Fn c (d+3) "_law_worth" [.val (T.nm (j:Rat)).enc,.tab a (tabX v)] (fun r=>r=⟨.val (.tup [.int j,.int 1]),true⟩) False:=fun P=>by
  have k:WorthFn _ (d+3) v a (T.nm (j:Rat)):=worth_num P (d:=d) (Nat.one_lt_two_pow (by decide))
  unfold WorthFn at k
  rwa [ev_int] at k
 unfold WorthFn at hb ⊢
 refine (show ev v (.pow b (T.nm (j:Rat)))=powO (ev v b) (some (j:Rat)) from congrArg _ ev_int)▸?_
 cases hv:ev v b with
 | none =>
  replace hb:=hv▸hb
  refine go2 P 68 "term" "known" fun f F P hc=>?_
  subst hc
  exact hb.is ((wj P).is (q_is rfl))
 | some x =>
  replace hb:=hv▸hb
  have hx:=hx x hv
  refine (powO_some ..)▸?_
  refine in2 P 68 "term" "known" fun f i P=>?_
  obtain ⟨F,rfl,_⟩:=i
  refine XL_step (XS_v F P (XL_step (XS_v F P (XL_step (XS_v F P (XL_step (XS_If F (ET_v F P (bth_t rfl (XL_step (XS_v F P (hb.is ((wj P).is (XL_cutH (fun _:Unit=>wI x j) (fun _ _=>¬ (x=0∧j≤0)) (XS_v F P (q_is (q_is (dec_both (fun h0=>dec_both (fun h1=>ret_of ?_) fun h1=>⟨(),⟨rfl,rfl,trivial⟩,fun h=>h1 h.2⟩) fun h0=>⟨(),⟨rfl,rfl,trivial⟩,fun h=>h0 (Rat.num_eq_zero.mpr h.1)⟩)))) fun _ ρ σ hg=>?_))))))))))))))
  ·rw [if_pos (.inr ⟨Rat.num_eq_zero.mp h0,h1⟩)];rfl
  ·rw [if_neg fun h=>h.elim (fun h=>h rfl) hg]
   exact worth_pow_end P F hj hx.1 hx.2.1 hx.2.2.1 hx.2.2.2 hg
end
end
section
section
variable {c:Cx}
theorem ratioO_add (r x:Rat):ratioO (r.num * x.den+x.num * r.den) (r.den * x.den)=some (r+x):=by
 rw [ratioO_ne (Int.mul_ne_zero (den_ne r) (den_ne x))];rw [Rat.add_def'];rw [← Rat.divInt_ofNat];rw [Int.natCast_mul]
theorem ratioO_mul (r x:Rat):ratioO (r.num * x.num) (r.den * x.den)=some (r * x):=by
 rw [ratioO_ne (Int.mul_ne_zero (den_ne r) (den_ne x))];rw [Rat.mul_def'];rw [← Rat.divInt_ofNat];rw [Int.natCast_mul]
noncomputable def gI (v:Str->Rat) (a:Addr) (κ:Str) (u:Rat×Bool):List (Str×RV):=[("found",⟨.val (ratP u.1),u.2⟩),("known",⟨.tab a (tabX v),false⟩),("kind",.im (.str κ))]
theorem worth_body {f:Fx} (P:Pg f.c) {d:Nat} (F:f.Ok (dfn 68).scope (d+4)) {v:Str->Rat}{a:Addr}{s:Bool}{κ:Str} (hκ:decide (κ="sum")=s) {t:T} (ht:WorthFn f.c (d+3) v a t) {r:Rat}{nw:Bool} (sr:Sq r) (sx:∀ x,ev v t=some x->Sq x) {ρ:Ab}{σ:Box}{R:RV->Box->Prop}{J:Rat×Bool->Prop} (hn:ev v t=none->∀ σ,R ⟨.val .none,true⟩ σ) (hs:∀ x nw,ev v t=some x->J (opR s r x,nw)) :
  XL f (set (sets ρ (gI v a κ (r,nw))) "part" (.im t.enc)) σ (forB (hdS (tlS (tlS (tlS (tlS (tlS (dfn 68).body))))))) (fun ρ' _=>∃ u,Has ρ' (gI v a κ u)∧J u) R False:=by
 unfold WorthFn at ht
 cases hv:ev v t with
 | none=>exact XL_v F P ((hv▸ht).is (q_is (hn hv _)))
 | some x =>
  have sx:=sx x hv
  have hs:=fun nw=>hs x nw hv
  cases s with
  | true =>
   have k:=fn_ratio P (p:=r.num * x.den+x.num * r.den) (Sm.mul sr.d sx.d)
   rw [ratioO_add] at k
   exact XL_v F P ((hv▸ht).is (q_is (both_f rfl (both_t hκ (b_mul (mulOk_of (sm2000 sr.1) (sm2000 sx.d)) (b_mul (mulOk_of (sm2000 sx.1) (sm2000 sr.d)) (b_mul (mulOk_of (sm2000 sr.d) (sm2000 sx.d)) (k.is ⟨(r+x,_),⟨rfl,rfl,rfl,trivial⟩,hs _⟩))))))))
  | false =>
   have k:=fn_ratio P (p:=r.num * x.num) (Sm.mul sr.d sx.d)
   rw [ratioO_mul] at k
   exact XL_v F P ((hv▸ht).is (q_is (both_f rfl (both_f hκ (b_mul (mulOk_of (sm2000 sr.1) (sm2000 sx.1)) (b_mul (mulOk_of (sm2000 sr.d) (sm2000 sx.d)) (k.is ⟨(r * x,_),⟨rfl,rfl,rfl,trivial⟩,hs _⟩)))))))
theorem worth_loop {f:Fx} (P:Pg f.c) {d:Nat} (F:f.Ok (dfn 68).scope (d+4)) {v:Str->Rat}{a:Addr}{s:Bool}{κ:Str} (hκ:decide (κ="sum")=s) {ts:List T}{r0:Rat} (hl:ts.length≤1000000) (hu:∀ u∈ts,WorthFn f.c (d+3) v a u) (hW:WOkL v s ts r0) :
  XL f (set (set (par2 "term" "known" (.val (.tup [.str κ,.tup (ts.map T.enc)])) (.tab a (tabX v))) "kind" (.im (.str κ))) "found" (.im (ratP r0))) ([],0) (tlS (tlS (tlS (tlS (tlS (dfn 68).body))))) (fun _ _=>False) (fun r _=>r=⟨.val (optP (evL v s ts r0)),true⟩) False:=by
 refine XL_step (XS_For F (.inl rfl) (ES_val F (EV_v F P (loopV (gI v a κ) (fun i u=>WOkL v s (ts.drop i) u.1∧evL v s ts r0=evL v s (ts.drop i) u.1) (r0,false) ⟨rfl,rfl,rfl,trivial⟩ ⟨hW,rfl⟩ (fun T K F1 i u y ρ σ hy hJ=>?_) fun u ρ σ hJ=>?_))))
 ·rw [List.getElem?_map,Option.map_eq_some_iff] at hy
  obtain ⟨t,ht,rfl⟩:=hy
  have hd:ts.drop i=t :: ts.drop (i+1):=by
   obtain ⟨hlt,rfl⟩:=List.getElem?_eq_some_iff.mp ht
   exact List.drop_eq_getElem_cons hlt
  replace hJ:=hd▸hJ
  have e:evL v s ts r0=(ev v t).bind fun x=>evL v s (ts.drop (i+1)) (opR s u.1 x):=hJ.2
  exact worth_body (f:=f.pin T K) (J:=fun u=>WOkL v s (ts.drop (i+1)) u.1∧evL v s ts r0=evL v s (ts.drop (i+1)) u.1) P F1 hκ (hu t (List.mem_of_getElem? ht)) hJ.1.1 (fun x h=>(hJ.1.2 x h).1) (fun h _=>by refine e▸?_;refine h▸?_;rfl) fun x nw h=>⟨(hJ.1.2 x h).2,by refine e▸?_;refine h▸?_;rfl⟩
 ·have e:evL v s ts r0=some u.1:=by refine hJ.2▸?_;rw [List.length_map];refine (List.drop_length ..)▸?_;rfl
  refine e▸?_
  obtain ⟨r,nw⟩:=u
  cases nw <;> exact XL_v F P rfl
theorem worth_sum (P:Pg c) {v:Str->Rat}{a:Addr}{d:Nat}{ts:List T} (hl:ts.length≤1000000) (hu:∀ u∈ts,WorthFn c (d+3) v a u) (hW:WOkL v true ts 0):WorthFn c (d+5) v a (.sum ts):=by
 unfold WorthFn
 refine (T.enc_sum ..)▸?_
 refine in2 P 68 "term" "known" fun f i P=>?_
 obtain ⟨F,rfl,_⟩:=i
 exact XL_step (XS_v F P (XL_step (XS_v F P (XL_step (XS_v F P (XL_step (XS_v F P (XL_step (XS_v F P (worth_loop P F (s:=true) (r0:=0) rfl hl hu hW))))))))))
theorem worth_prod (P:Pg c) {v:Str->Rat}{a:Addr}{d:Nat}{ts:List T} (hl:ts.length≤1000000) (hu:∀ u∈ts,WorthFn c (d+3) v a u) (hW:WOkL v false ts 1):WorthFn c (d+5) v a (.prod ts):=by
 unfold WorthFn
 refine (T.enc_prod ..)▸?_
 refine in2 P 68 "term" "known" fun f i P=>?_
 obtain ⟨F,rfl,_⟩:=i
 exact XL_step (XS_v F P (XL_step (XS_v F P (XL_step (XS_v F P (XL_step (XS_v F P (XL_step (XS_v F P (worth_loop P F (s:=false) (r0:=1) rfl hl hu hW))))))))))
theorem fn_worth (P:Pg c) {v:Str->Rat}{a:Addr}:∀ (h:Nat) (t:T),t.ht≤h->WOk v t->WorthFn c (2 * h+3) v a t
 | h,.num p q,_,hs=>worth_num P hs
 | h,.sym x,_,hs=>worth_sym P hs
 | 0,.pow ..,ht,_ | 0,.sum _,ht,_ | 0,.prod _,ht,_=>nomatch ht
 | h+1,.pow b x,ht,⟨h1,j,e,hj,hx⟩=>e▸worth_pow P (d:=2 * h) (fn_worth P h b (Nat.le_of_succ_le_succ ht) h1) hj hx
 | h+1,.sum ts,ht,hs=>worth_sum P (d:=2 * h) hs.1 (fun t hm=>fn_worth P h t (Nat.le_trans (hts_mem t hm) (Nat.le_of_succ_le_succ ht)) (woka_mem hs.2.1 t hm)) hs.2.2
 | h+1,.prod ts,ht,hs=>worth_prod P (d:=2 * h) hs.1 (fun t hm=>fn_worth P h t (Nat.le_trans (hts_mem t hm) (Nat.le_of_succ_le_succ ht)) (woka_mem hs.2.1 t hm)) hs.2.2
end
end
section
theorem mro_dict:mroOf (.type "dict")=pure [.type "dict",.type "object"]:=by refine (mroOf_type ..)▸?_;kernel_rfl
theorem lookup_dict_new:typeLookup (.type "dict") "__new__"=pure (some (.builtin "dict.__new__")):=by refine (typeLookup_type ..)▸?_;refine (builtinLookup_eq_fast ..)▸?_;kernel_rfl
theorem called_dict:TypeCalled "dict" "dict.__new__" "dict.__init__" :=
 ⟨by decide +kernel,by decide +kernel,⟨_,_,mro_dict⟩,madeBy_type mro_dict lookup_dict_new (by decide +kernel),by decide +kernel,by refine (isSubtype_type ..)▸?_;kernel_rfl,PySem.F.slot_dict_init⟩
theorem typeCall_dict_1 (a:Value):checkTypeCall "dict" ⟨[a],[]⟩=pure ():=by kernel_rfl
theorem newCall_dict_1 (a:Value):checkBuiltinCall "dict.__new__" ⟨[.type "dict",a],[]⟩=pure ():=by kernel_rfl
theorem entry_dict_new:entryFor table "dict.__new__"=some Builtin.«dict.__new__»:=entryFor_of_tree (by kernel_rfl)
theorem entry_dict_init:entryFor table "dict.__init__"=some Builtin.«dict.__init__»:=entryFor_of_tree (by kernel_rfl)
theorem entry_dict_loop:entryFor table "dict.update.loop"=some Builtin.«dict.update.loop»:=entryFor_of_tree (by kernel_rfl)
theorem plain_dict_new:plainId "dict.__new__"=true:=by decide +kernel
theorem plain_dict_loop:plainId "dict.update.loop"=true:=by decide +kernel
theorem sub_dict_self:isSubtype (.type "dict") (.type "dict")=pure true:=by refine (isSubtype_type ..)▸?_;kernel_rfl
section
variable {prog:Program}{w:World}{A:Around}{E:Value->Shared->Prop}{s:Shared}
theorem code_dict_new (a:Value) {Q₁:Value->Shared->Prop}
  (h:Q₁ (.ref s.heap.objs.size) { s with heap:=s.heap.push { cls:=.type "dict",data:=.dict #[] } }) :
  codeAny (model prog w) A (.call (.builtin "dict.__new__") ⟨[.type "dict",a],[]⟩) (wants Q₁ E) s:=by
 refine codeAny_call_builtin plain_dict_new entry_dict_new (wpAny_of_eq (newCall_dict_1 a) ?_)
 have h1:=sub_dict_self
 have h2:=mro_dict
 unfold Builtin.«dict.__new__»
 repeat (any_goals (first | assumption | wp_step))
theorem lk_keys:typeLookup (.type "list") "keys"=pure none:=by refine (typeLookup_type ..)▸?_;refine (builtinLookup_eq_fast ..)▸?_;kernel_rfl
theorem no_keys {a:Addr}{xs:Array Value}{k:Nat}{Q:Option Value->Shared->Prop} (hx:IsL s.heap a xs k) (hA:A.handled=none)
  (h:∀ h' tk,(Kp s.heap h')->Q none { s with heap:=h',toks:=tk }):wpAny (model prog w) A (getAttr? (.ref a) "keys") Q E s:=by
 have hx:s.heap.get? a=some { cls:=.type "list",dict:=none,data:=.seq xs k,slots:=#[] }:=hx
 have hT:∀ tk',({ s with toks:=tk' }:Shared).TypeIs (.ref a) "list":=fun _=>⟨_,hx,rfl⟩
 have f1:=sub_AttributeError
 have f3:=PySem.F.slot_list_getattribute.lookup
 have f4:=PySem.F.slot_list_getattribute.bind (.ref a)
 have f5:=am_list_getattr_none
 unfold getAttr? getAttrBy? getAttrBy
 repeat (any_goals (first | assumption | exact hT _ | ((with_reducible show wpAny _ _ (call (Value.builtin "list.__getattribute__") _ _) _ _ _);refine call_meets PySem.F.slot_list_getattribute (hT _) am_entry_list_getattribute (PySem.F.args_list_getattribute_2 _ _) (meets_getattribute_miss_list a xs k #[] "keys" _ lk_keys (by decide +kernel)) ⟨hx,hA,fun h' tk' e hx'=>?_⟩) | wp_step))
 obtain ⟨t',u',he⟩:=hx'.there
 unfold getattributeRaised
 repeat (any_goals (first | assumption | wp_step))
 exact h _ _ hx'.keeps
inductive PairIn (prog:Program) (w:World) (D:Addr) (U:Nat) (N:Heap->Prop) (s:Shared) (v:Value):Prop
 | mk (p:Addr) (o:Obj) (kk vv:Value) (m:Nat):v=.ref p->s.heap.get? p=some o->o.cls=.type "tuple"->o.data=.seq #[kk,vv] m->(∀ (A:Around) (Q:Unit->Shared->Prop) (E:Value->Shared->Prop),A.units≤U->(∀ h' tk,N h'->Heap.SameBut D s.heap h'->Q () { s with heap:=h',toks:=tk })->wpAny (model prog w) A (dictSet D kk vv) Q E s)->PairIn prog w D U N s v
theorem dict_loop {D l I:Addr}{vs:Array Value}{h₀:Heap}{U:Nat} (hU:A.units+1≤U) (hA:A.handled=none) (hDI:D≠I) (hDl:D≠l) (hlI:l≠I) (Ds:Nat->Heap->Prop)
  (hset:∀ i v (s:Shared),vs[i]?=some v->(∀ b o,b≠D->b≠I->h₀.get? b=some o->s.heap.get? b=some o)->Ds i s.heap ->
   PairIn prog w D U (Ds (i+1)) s v)
  (hframe:∀ i h h',Ds i h->(∀ o,h.get? D=some o->h'.get? D=some o)->(∀ b o,b≠D->b≠I->h₀.get? b=some o->h'.get? b=some o)->Ds i h') {R:Result->Shared->Prop}
  {St:Nat->Heap->Prop} (W:Walks prog w A.in1 I [I,l] [I] vs.size (fun i v=>vs[i]?=some v) St)
  {s₀:Shared} (hR:∀ h' tk,(∀ b o,b≠D->b≠I->h₀.get? b=some o->h'.get? b=some o)->Ds vs.size h'->R (.ok (.ret .none)) { s₀ with heap:=h',toks:=tk }) :
  ∀ (k i:Nat) (s:Shared) (t:Tok),Same s₀ s->vs.size - i=k->i≤vs.size->St i s.heap->Ds i s.heap->(∀ b o,b≠D->b≠I->h₀.get? b=some o->s.heap.get? b=some o) ->
   codeAny (model prog w) A (.builtin "dict.update.loop" ⟨[.ref D,.ref I,.int i t,.none],[]⟩) R s:=by
 intro k
 induction k with
 | zero =>
  intro i s t hsame hk hi hst hD hkp
  have hin:i=vs.size:=by lia
  subst hin
  refine codeAny_builtin entry_dict_loop ?_
  refine (Around.under_plainId plain_dict_loop _)▸?_
  refine wpAny_bind (W.done s _ _ hst fun h' tk hk'=>?_)
  have hk1:KpN I s.heap h':=fun b o hb e=>hk' b o (by simpa using hb) e
  refine wpAny_bind (wpAny_pure ?_)
  obtain ⟨hs0,tks0,rfl⟩:=hsame
  exact wpAny_pure (hR h' tk (fun b o h1 h2 e=>hk1 b o h2 (hkp b o h1 h2 e)) (hframe _ _ _ hD (fun o e=>hk1 D o hDI e) fun b o h1 h2 e=>hk1 b o h2 (hkp b o h1 h2 e)))
 | succ k ih =>
  intro i s t hsame hk hi hst hD hkp
  have hlt:i < vs.size:=by lia
  refine codeAny_builtin entry_dict_loop ?_
  refine (Around.under_plainId plain_dict_loop _)▸?_
  refine wpAny_bind (W.item i s _ _ hlt hst fun v h' tk hP hst' hk'=>?_)
  have hk1:KpN I s.heap h':=fun b o hb e=>hk' b o (by simpa using hb) e
  obtain ⟨p,o,kk,vv,m,rfl,ho,hc,hd,hq⟩:=hset i v { s with heap:=h',toks:=tk } hP (fun b o h1 h2 e=>hk1 b o h2 (hkp b o h1 h2 e)) (hframe _ _ _ hD (fun o e=>hk1 D o hDI e) fun b o h1 h2 e=>hk1 b o h2 (hkp b o h1 h2 e))
  have hT:({ s with heap:=h',toks:=tk }:Shared).TypeIs (.ref p) "tuple":=⟨o,ho,hc⟩
  have fin:wpAny (model prog w) A.in1 (dictSet D kk vv) (fun _ s'=>wpAny (model prog w) A.in1 (again (.builtin "dict.update.loop" ⟨[.ref D,.ref I,rawInt (i+1),.none],[]⟩))
    (fun fin s'=>match fin with | .done f=>R (.ok f) s' | .again c'=>c'.quiet=true∧codeAny (model prog w) A c' R s') (fun e s'=>R (.error e) s') s') (fun e s'=>R (.error e) s') { s with heap:=h',toks:=tk }:=by
   refine hq _ _ _ hU fun h2 tk2 hD2 hs2=>wpAny_pure ⟨plainId_quiet plain_dict_loop _,?_⟩
   have e1:rawInt ((i:Int)+1)=.int ((i+1:Nat):Int) 0:=rfl
   refine e1▸?_
   refine ih (i+1) _ 0 (let ⟨hs0,tks0,e⟩:=hsame;⟨h2,tk2,by cases s₀;subst e;rfl⟩) (by lia) hlt (W.frame _ _ _ hst' fun b hb o e=>?_) hD2 fun b o h1 h2 e=>(hs2.2 b h1).trans (hk1 b o h2 (hkp b o h1 h2 e))
   refine (hs2.2 b ?_).trans e
   rcases List.mem_cons.mp hb with rfl | hb
   ·exact Ne.symm hDI
   ·obtain rfl:=List.mem_singleton.mp hb;exact Ne.symm hDl
  dsimp only
  refine wpAny_bind (wpAny_holding (wpAny_bind (wpAny_tryCatch ?_)))
  unfold Builtin.Dict.pairItems
  refine wpAny_bind (wpAny_typeOf hT ?_)
  refine wp_pos (by decide) ?_
  unfold seqItems?
  obtain ⟨oc,odd,od,osl⟩:=o
  dsimp only at hc hd
  subst hc hd
  repeat (any_goals (first | exact fin | assumption | with_reducible refine wpAny_loadPart' ho ?_ | wp_step))
theorem call_dict {l:Addr}{vs:Array Value}{m:Nat} (hA:A.handled=none) (hl:IsL s.heap l vs m) (Ds:Nat->Heap->Prop)
  (h0:Ds 0 (s.heap.push { cls:=.type "dict",data:=.dict #[] }))
  (hset:∀ i v (s':Shared),vs[i]?=some v->(Kp s.heap s'.heap)->Ds i s'.heap ->
   PairIn prog w s.heap.objs.size (A.units+4) (Ds (i+1)) s' v)
  (hframe:∀ i h h',Ds i h->(∀ o,h.get? s.heap.objs.size=some o->h'.get? s.heap.objs.size=some o)->(Kp s.heap h')->Ds i h') {Q:Value->Shared->Prop}
  (h:∀ h' tk,(Kp s.heap h')->Ds vs.size h'->Q (.ref s.heap.objs.size) { s with heap:=h',toks:=tk }) :
  wpAny (model prog w) A (call (.type "dict") [.ref l]) Q E s:=by
 refine callType_codes (Q₁:=fun v s₁=>v=.ref s.heap.objs.size∧s₁={ s with heap:=s.heap.push { cls:=.type "dict",data:=.dict #[] } }) called_dict (typeCall_dict_1 _) entry_dict_init (code_dict_new _ ⟨rfl,rfl⟩) fun obj s₁ hq_=>?_
 obtain ⟨e1,e2⟩:=hq_
 subst e1 e2
 have hD:(s.heap.push { cls:=.type "dict",data:=.dict #[] }).get? s.heap.objs.size=some { cls:=.type "dict",data:=.dict #[] }:=Heap.get?_push_size _ rfl
 refine ⟨⟨_,hD,rfl⟩,PySem.F.args_dict_init_2 _ _,?_⟩
 have kp1:Kp s.heap (s.heap.push { cls:=.type "dict",data:=.dict #[] }):=fun b o e=>Heap.get?_push_of_some _ e
 have hl1:=kp1 _ _ hl
 generalize hH1:s.heap.push { cls:=.type "dict",data:=.dict #[] }=H1 at *
 unfold Builtin.«dict.__init__» Builtin.Dict.selfAndRest
 refine wpAny_bind (wpAny_bind (wpAny_notOrdered_dict ⟨_,hD,rfl⟩ ?_))
 refine wpAny_bind (wpAny_pure (wpAny_pure ?_))
 unfold Builtin.Dict.updateCommon
 dsimp only
 unfold Builtin.Dict.updateFrom
 refine wpAny_bind (wpAny_typeOf (T:="list") ⟨_,hl1,rfl⟩ ?_)
 refine wp_pos (by decide) ?_
 refine wpAny_bind (no_keys hl1 hA fun h2 tk2 kp2=>?_)
 refine wp_pos (by rfl) ?_
 refine wpAny_bind (wpAny_rule ?_)
 have hl2:=kp2 _ _ hl1
 have hL2:h2.IsList l vs:=IsL.isList hl2
 refine wpAny_bind (wpAny_pyIter_list hL2 ?_)
 have hD2:=kp2 _ _ hD
 refine wpAny_pure ⟨plainId_quiet plain_dict_loop _,?_⟩
 dsimp only at hL2 ⊢
 have lt:∀ b o,s.heap.get? b=some o->b < s.heap.objs.size:=fun b o e=>Heap.lt_size e
 have hI:h2.get? h2.objs.size=none:=get_size_none h2
 have sz:s.heap.objs.size < h2.objs.size:=Heap.lt_size hD2
 have kI:Kp h2 (h2.push { cls:=.type "list_iterator",data:=.fields #[.ref l,.int 0 0] }):=fun b o e=>Heap.get?_push_of_some _ e
 have nD:∀ b o,s.heap.get? b=some o->b≠s.heap.objs.size∧b≠h2.objs.size:=fun b o e=>⟨Nat.ne_of_lt (lt b o e),Nat.ne_of_lt (Nat.lt_trans (lt b o e) sz)⟩
 have hlI:l≠h2.objs.size:=(nD l _ hl).2
 have d0:Ds 0 (h2.push { cls:=.type "list_iterator",data:=.fields #[.ref l,.int 0 0] }):=hframe 0 H1 _ h0 (fun o e=>kI _ _ (kp2 _ _ e)) fun b o e=>kI _ _ (kp2 _ _ (kp1 b o e))
 refine dict_loop (A:=A.in1) (D:=s.heap.objs.size) (l:=l) (I:=h2.objs.size) (vs:=vs) (h₀:=s.heap) (U:=A.units+4) (by show A.units+1+1≤A.units+4;lia) hA (Nat.ne_of_lt sz) (Ne.symm (nD l _ hl).1) hlI Ds (fun i v s' hv hk hd=>?_) (fun i h h' hd hk hb=>hframe i h h' hd hk fun b o e=>hb b o (nD b o e).1 (nD b o e).2 e) (Walks.list (A:=A.in1.in1) hA h2.objs.size l hlI vs) (s₀:=s) (fun h' tk hk hd=>?_) vs.size 0 _ 0 ⟨_,_,rfl⟩ (by lia) (Nat.zero_le _) ⟨⟨_,Heap.get?_push_size _ rfl,rfl,rfl⟩,IsL.isList (kI _ _ hl2)⟩ d0 (fun b o _ _ e=>kI _ _ (kp2 _ _ (kp1 b o e)))
 ·exact hset i v s' hv (fun b o e=>hk b o (nD b o e).1 (nD b o e).2 e) hd
 ·exact ⟨rfl,h h' tk (fun b o e=>hk b o (nD b o e).1 (nD b o e).2 e) hd⟩
end
end
section
section
variable {f:Fx}{sc:Scope}{d:Nat}{ρ:Ab}{σ:Box}{s:Shared}{X:Prop}{Q:RV->Box->Prop}{N:Ab->Box->Prop}{R:RV->Box->Prop}
noncomputable def putsP (ps:List (PV×PV)):List (PV×PV):=ps.foldl (fun es p=>putP es p.1 p.2) []
theorem putsP_snoc (ps:List (PV×PV)) (p:PV×PV):putsP (ps ++ [p])=putP (putsP ps) p.1 p.2:=by unfold putsP;refine List.foldl_append▸?_;rfl
open Classical in
inductive ImP (h:Heap) (v:Value) (a b:PV):Prop
 | mk (p:Addr) (o:Obj) (kk vv:Value) (m:Nat):v=.ref p->h.get? p=some o->o.cls=.type "tuple"->o.data=.seq #[kk,vv] m->Im h kk a->Im h vv b->ImP h v a b
set_option tactic.hygienic true in
theorem Im.pair {h:Heap}{v:Value}{a b:PV} (x:Im h v (.tup [a,b])):ImP h v a b:=by
 cases x with
 | tup ho hc hd r =>
  rename_i p o vs n
  obtain ⟨l⟩:=vs
  simp only at r
  cases r with
  | cons x1 r=>cases r with
   | cons x2 r=>obtain rfl:=Ims.toNil r;exact ⟨p,o,_,_,n,rfl,ho,hc,hd,x1,x2⟩
inductive DArg (K:List (PV×PV)->Prop) (r:RV):Prop
 | mk (a:Addr) (ps:List (PV×PV)):r.sl=.lst a (ps.map pairP)->(∀ p∈ps,∃ ks,p.1=.tup ks∧(PV.tup ks).key 8=true)->ps.length≤900000->K ps->DArg K r
open Classical in
inductive DSt (knd:HeapKind prog w PKey) (H:Heap) (D:Addr) (ps:List (PV×PV)) (i:Nat) (h:Heap):Prop
 | mk (xs:List (PKey×Addr×Value)):h.DictOfH knd D xs->Ents H xs (putsP (ps.take i))->(∀ x∈xs,Im H (.ref x.2.1) x.1.1)->xs.length≤i->DSt knd H D ps i h
theorem not_sys (F:f.Ok sc d) (I:Inv f ρ σ s):s.heap.objs.size≠sysModules:=by
 obtain ⟨o,_,_,ho,_⟩:=F.cx.g
 exact Nat.ne_of_gt (Nat.lt_trans (by decide:sysModules < mainGlobals) (Heap.lt_size (I.kb F _ o ho)))
open Classical in
theorem EV_DictOf (F:f.Ok sc d) {e:Expr}{p pos:Pos} (hx:sc.names.lookup ("dict":Str)=some .globalImplicit)
  (h:EV f ρ σ e (fun r σ'=>DArg (fun ps=>∀ D,Q ⟨.dct D (putsP ps),true⟩ σ') r) X)
  (he:starEach [e] f.env=(false,eval e f.env) :: starEach [] f.env:=by rfl):EV f ρ σ (.Call (.Name "dict" p) [e] [] pos) Q X:=fun s I=>by
 refine wp_type1 F hx (by decide) blt_dict (by decide) h he I fun v s₁ r σ' ex I₁ ok hq_=>?_
 obtain ⟨a,ps,hr,hkey,hlen,q⟩:=hq_
 have a1:=ok.1
 rw [hr] at a1
 obtain ⟨rfl,hlst⟩:=a1
 obtain ⟨ws,n,hL,hi⟩:=hlst.isL
 have hsz:=hi.length
 simp only [Array.length_toList,List.length_map] at hsz
 refine call_dict F.handled hL (DSt (pk f.c.prog f.c.w) s₁.heap s₁.heap.objs.size ps) ?_ ?_ ?_ ?_
 ·exact ⟨[],Heap.DictOfH.new _,.nil,fun x hx=>(List.not_mem_nil hx).elim,Nat.le_refl _⟩
 ·rintro i v s' hv hk ⟨xs,hD,hE,hK,hle⟩
  obtain ⟨y,hy,him⟩:=hi.getV i v (by simpa using hv)
  rw [List.getElem?_map,Option.map_eq_some_iff] at hy
  obtain ⟨⟨pk1,pv1⟩,hp,rfl⟩:=hy
  obtain ⟨ks,hks,hkk⟩:=hkey _ (List.mem_of_getElem? hp)
  dsimp only at hks
  subst hks
  have tk:TK s₁.heap s'.heap:=TK.of hk
  obtain ⟨p,o,kk,vv,m,rfl,ho,hc,hd,x1,x2⟩:=Im.pair him
  obtain ⟨ka,rfl⟩:=PV.key_tup hkk ⟨_,rfl⟩ x1
  refine ⟨p,o,_,vv,m,rfl,hk _ _ ho,hc,hd,fun A' Q' E' hu hq=>?_⟩
  have hil:i < ps.length:=(List.getElem?_eq_some_iff.mp hp).1
  refine wpAny_dictSet_heap (knd:=pk f.c.prog f.c.w) (k:=⟨.tup ks,hkk⟩) (by have:=F.units;show A'.units+20 < cLine;lia) (x1.mono tk) hD (fun h' hD' hs'=>hq h' _ ⟨_,hD',?_,?_,?_⟩ hs') (sizeLine_ge (by lia))
  ·have step:ps.take (i+1)=ps.take i ++ [(.tup ks,pv1)]:=by rw [List.take_add_one];rw [hp];rfl
   rw [step];rw [putsP_snoc]
   exact hE.put ⟨.tup ks,hkk⟩ ka x2
  ·intro x hx
   unfold storedH at hx
   split at hx
   ·obtain ⟨x0,hx0,rfl⟩:=List.mem_map.mp hx
    unfold putAt
    split
    ·exact hK x0 hx0
    ·exact hK x0 hx0
   ·rcases List.mem_append.mp hx with hx | hx
    ·exact hK x hx
    ·obtain rfl:=List.mem_singleton.mp hx;exact x1
  ·unfold storedH
   split
   ·rw [List.length_map];lia
   ·simp;lia
 ·rintro i h h' ⟨xs,⟨o,es,ep,ho,hx,hd,he',his,hn⟩,hE,hK,hle⟩ hD hk
  exact ⟨xs,⟨o,es,ep,hD o ho,hx,hd,he',fun x hx'=>(hK x hx').mono (TK.of hk),hn⟩,hE,hK,hle⟩
 ·rintro h' tk hk ⟨xs,hD,hE,hK,hle⟩
  rw [List.take_of_length_le (by lia)] at hE
  exact giv_post F ex I₁.z (K:=fun r=>r=⟨.dct s₁.heap.objs.size (putsP ps),true⟩) (fun r e=>e▸q _) _ _ h' tk rfl hk ⟨⟨rfl,beq_eq_false_iff_ne.mpr (not_sys F I₁),xs,hD,hE.mono (TK.of hk)⟩,fun _ a ha=>by obtain rfl:=List.mem_singleton.mp ha;exact get_size_none _⟩ (.inr rfl)
inductive LArg (K:List (PV×PV)->Prop) (r:RV):Prop
 | mk (a:Addr) (es:List (PV×PV)):r.sl=.dct a es->es.length≤1000000->K es->LArg K r
open Classical in
theorem EV_LenD (F:f.Ok sc d) {e:Expr}{p pos:Pos} (hx:sc.names.lookup ("len":Str)=some .globalImplicit)
  (h:EV f ρ σ e (fun r σ'=>LArg (fun es=>Q (.im (.int es.length)) σ') r) X)
  (he:starEach [e] f.env=(false,eval e f.env) :: starEach [] f.env:=by rfl):EV f ρ σ (.Call (.Name "len" p) [e] [] pos) Q X:=fun s I=>by
 refine wp_blt1 F hx (by decide) blt_len (by decide) h he I fun v s₁ r σ' ex I₁ ok hq_=>?_
 obtain ⟨a,es,hr,hlen,q⟩:=hq_
 have a1:=ok.1
 rw [hr] at a1
 obtain ⟨rfl,hsys,xs,hD,hE⟩:=a1
 have hlen2:=hE.length
 obtain ⟨o,es',ep,ho,hX,hd,he',his,hn⟩:=id hD
 have hsz:es'.size=es.length:=by
  refine hlen2▸?_
  have:=congrArg List.length he'
  simpa using this
 have hT:s₁.TypeIs (.ref a) "dict":=hD.typeIs
 refine Calls.call_function_entry kind_len plain_len entry_len (args_len1 _) ?_
 unfold Builtin.«len»
 refine wpAny_bind (m:=oneArg "len" _) (wpAny_pure ?_)
 refine wpAny_bind (m:=callSpecial? (.ref a) (Str.ofString "__len__")) (wpAny_callSpecial?_slot (name:=Str.ofString "__len__") hT PySem.F.slot_dict_len
  (call_meetsIn (S:=fun _ R s=>s=s₁∧R (.ok (.ret (.int es.length s.toks))) { s with toks:=s.toks+1 }) PySem.F.slot_dict_len hT PySem.F.entry_dict_len (PySem.F.args_dict_len_1 _) (.of_wp fun A R s ⟨e,h⟩=>?_) ⟨rfl,?_⟩))
 ·subst e
  show wpAny _ _ (dictSize a >>= _) _ _ _
  unfold dictSize
  refine wpAny_bind (wpAny_bind (wpAny_dictEntries ho hd (wpAny_pure ?_)))
  refine wpAny_bind (wpAny_pendingCount_other hsys ?_)
  refine wpAny_ret_mkInt ?_
  refine (Nat.add_zero ..)▸?_;refine (hsz ..)▸?_;exact h
 ·show wpAny _ _ _ _ _ { s₁ with toks:=s₁.toks+1 }
  refine wpAny_bind (wpAny_holding (wpAny_pure ?_))
  refine wpAny_bind (wpAny_letGo ?_)
  refine wp_neg (by lia) ?_
  refine wp_neg (by lia) ?_
  refine wpAny_bind (wpAny_mkInt (wpAny_pure ⟨_,rfl,?_⟩))
  exact ⟨.im (.int es.length),σ',ex.trans (Ext.of fun _ _ e=>e),I₁.z,⟨.int _ _,fun e=>(by cases e)⟩,fun a ha=>(by cases ha),q⟩
end
end
section
noncomputable def enumP (xs:List PV):List PV:=xs.mapIdx fun i v=>PV.tup [.int i,v]
theorem enumP_at {xs:List PV}{i:Nat}{v:PV} (h:xs[i]?=some v):(enumP xs)[i]?=some (.tup [.int i,v]):=by
 unfold enumP
 rw [List.getElem?_mapIdx];rw [h];rfl
theorem enumP_len (xs:List PV):(enumP xs).length=xs.length:=by unfold enumP;simp
theorem enumP_get {xs:List PV}{i:Nat}{y:PV} (h:(enumP xs)[i]?=some y):∃ v,xs[i]?=some v∧y=.tup [.int i,v]:=by
 unfold enumP at h
 rw [List.getElem?_mapIdx] at h
 obtain ⟨v,h1,h2⟩:=Option.map_eq_some_iff.mp h
 exact ⟨v,h1,h2.symm⟩
theorem en_apart {a n:Nat} (h:a < n):n+1∉[n,a]∧a∉[n+1,n]∧a≠n∧n+1≠n:=by
 refine ⟨?_,?_,by lia,by lia⟩ <;> (simp;lia)
section
variable {f:Fx}{sc:Scope}{d:Nat}{ρ:Ab}{σ:Box}{s:Shared}{X:Prop}{N:Ab->Box->Prop}{R:RV->Box->Prop}
theorem blt_enumerate:bootBuiltins "enumerate"=some (.type "enumerate"):=by decide +kernel
inductive TMid (Pt:Nat->Array Value->Prop) (Mid:Nat->Addr->Heap->Prop) (i:Nat) (v:Value) (h:Heap):Prop
 | mk (t:Addr) (vals:Array Value):v=.ref t->Pt i vals->h.IsTuple t vals->Mid i t h->TMid Pt Mid i v h
theorem drw_of_walksT {tgt:Expr}{elts:List Expr}{tk:Nat}{tp:Pos} (htgt:tgt=.Tuple elts tk tp) {I:Addr}{fp wr:List Addr}{Pt:Nat->Array Value->Prop}{St:Nat->Heap->Prop}{Mid:Nat->Addr->Heap->Prop}{xs:List PV}{T:Heap} (W:WalksT f.c.prog f.c.w f.A I fp wr xs.length Pt St Mid)
  (im:∀ i vals,Pt i vals->∃ ys,xs[i]?=some (.tup ys)∧∀ h,TK T h->Ims h vals.toList ys) (nt:∀ i t h,Mid i t h->∀ b∈wr,∃ o,h.get? b=some o∧o.cls≠.type "tuple"):Drw f I wr tgt fp xs.length xs T St (TMid Pt Mid):=by
 refine ⟨W.frame,fun i s' Q E hi hst k=>W.item i s' Q E hi hst fun t vals h' tk hP _ hT hMid hk=>k _ h' tk ⟨t,vals,rfl,hP,hT,hMid⟩ hk,fun i v s' Q E hi ⟨t,vals,hv,hP,hT,hMid⟩ ht k=>?_,W.done,W.self⟩
 subst hv
 refine htgt▸?_
 refine W.go elts tk tp i t s' Q E hMid fun h' hst' hk'=>?_
 obtain ⟨o,ho,hc,n,hd⟩:=hT
 obtain ⟨ys,hy,hi⟩:=im i vals hP
 have tk1:TK s'.heap h':=fun b ob ws m e c dd=>⟨ob,hk' b ob (fun hb=>by
  obtain ⟨o',h1,h2⟩:=nt i t _ hMid b hb
  cases sinj e h1
  exact h2 c) e,c,dd⟩
 exact k h' _ hy (.tup (hk' t o (W.apart i t _ hMid) ho) hc hd (hi _ (ht.trans tk1))) hst' hk'
theorem EST_enumerate (F:f.Ok sc d) {M:Bool}{x:Str}{tgt:Expr}{elts:List Expr}{tk:Nat}{tp:Pos}{p np pos:Pos}{a:Addr}{xs:List PV}{nw:Bool}{Q:List PV->Box->Prop} (htgt:tgt=.Tuple elts tk tp)
  (hx:sc.names.lookup ("enumerate":Str)=some .globalImplicit) (hρ:ρ x=some ⟨.lst a xs,nw⟩) (hM:M=true->nw=false) (q:Q (enumP xs) σ)
  (hd:(x == ("__debug__":Str))=false:=by decide) (hc:(x == ("__classdict__":Str))=false:=by decide) :
  EST f M tgt ρ σ (.Call (.Name "enumerate" np) [.Name x p] [] pos) Q X:=fun s I=>by
 refine wpAny_Call_Name_kw (wp_GName F I hx (blt_name F (by decide) blt_enumerate) ?_)
 refine PyProof.Rows.callWith_type1 (wpAny_items_cons (EV.use F (EV_Name F (X:=X) (Q:=fun r σ'=>r=⟨.lst a xs,false⟩∧σ'=σ) hρ ⟨rfl,rfl⟩ hd hc) I (fun _ _ x=>x) fun v s₁ r0 σ0 ex I₁ ok off ⟨e1,e2⟩=>wpAny_items_nil ?_)) rfl rfl
 subst e1 e2
 obtain ⟨rfl,hl⟩:=ok.1
 obtain ⟨vs,n,hL,hi⟩:=hl.isL
 have hsz:=hi.length
 simp only [Array.length_toList] at hsz
 refine call_enumerate_1 hL fun G he hit hsize kp=>?_
 have lta:a < s₁.heap.objs.size:=Heap.lt_size hL
 refine wpAny_pyIter_enum he ?_
 have wnew:∀ b∈[s₁.heap.objs.size+1,s₁.heap.objs.size],s₁.heap.get? b=none:=fun b hb=>by
  have hb:s₁.heap.objs.size≤b:=(List.mem_cons.mp hb).elim (fun e=>e▸Nat.le_succ _) fun hb=>List.mem_singleton.mp hb▸Nat.le_refl _
  exact none_from _ hb
 obtain ⟨hea,aw,han,hee⟩:=en_apart lta
 have W:=WalksT.enumerateD (Draws.list (prog:=f.c.prog) (w:=f.c.w) (A:=f.A.in1) F.handled s₁.heap.objs.size a han vs) (s₁.heap.objs.size+1) hee hea (.head _)
 rw [hsz.trans (enumP_len xs).symm] at W
 refine spost_mk F (G:=G) I₁ ex kp wnew hL hρ rfl hM (drw_of_walksT htgt W (fun i vals ⟨t,y0,hy0,e⟩=>?_) fun i t h hm b hb=>?_) ⟨⟨_,he⟩,hit,IsL.isList (kp _ _ hL)⟩ (fun i h ⟨⟨old,h1⟩,⟨o',h2,h3,h4⟩,_⟩ b hb=>?_) q
 ·obtain ⟨y,hy,him⟩:=hi.getV i y0 (Array.getElem?_toList▸hy0)
  exact ⟨_,enumP_at hy,fun h ht=>e▸.cons (.int _ _) (.cons (him.mono ((TK.of kp).trans ht)) .nil)⟩
 ·rcases List.mem_cons.mp hb with rfl | hb
  ·obtain ⟨x',hx'⟩:=hm.1
   exact ⟨_,hx',show Value.type "enumerate"≠Value.type "tuple" by decide⟩
  ·obtain rfl:=List.mem_singleton.mp hb
   obtain ⟨o',h1,h2,_⟩:=hm.2.1.1
   exact ⟨o',h1,h2▸by decide⟩
 ·rcases List.mem_cons.mp hb with rfl | hb
  ·exact ⟨_,_,h1,(by show Value.type "enumerate"≠Value.type "list";decide),(by show Value.type "enumerate"≠Value.type "dict";decide),rfl⟩
  ·obtain rfl:=List.mem_singleton.mp hb
   exact ⟨o',_,h2,h3▸by decide,h3▸by decide,h4⟩
end
end
section
section
variable {f:Fx}{sc:Scope}{d:Nat}{ρ:Ab}{σ:Box}{s:Shared}{X:Prop}{N:Ab->Box->Prop}{R:RV->Box->Prop}
theorem nbs_ints (ns:List Int):PV.nbs (ns.map PV.int)=true:=by
 induction ns with
 | nil=>rfl
 | cons n ns ih=>simp [PV.nbs,PV.nb,ih]
theorem depths_ints (ns:List Int):PV.depths (ns.map PV.int)=0:=by
 induction ns with
 | nil=>rfl
 | cons n ns ih=>simp [PV.depths,PV.depth,ih]
theorem notin2_iff (ns:List Int) (j:Int):(!([PyData.list (PV.toDs []),PyData.list (PV.toDs [.int j])].any fun y=>PyData.eqv y (.list (PV.toDs (ns.map PV.int)))))=true↔¬ (ns=[]∨ns=[j]):=by
 have e0:∀ ys:List PV,PV.nbs ys=true->(PyData.eqv (.list (PV.toDs ys)) (.list (PV.toDs (ns.map PV.int)))=true↔ys=ns.map PV.int):=fun ys hy=>by
  simp only [PyData.eqv];exact PV.eqvs_iff _ _ hy (nbs_ints ns)
 have e1:=e0 [] rfl
 have e2:=e0 [.int j] rfl
 have i1:([]=ns.map PV.int)↔ns=[]:=by cases ns <;> simp
 have i2:([PV.int j]=ns.map PV.int)↔ns=[j]:=by
  cases ns with
  | nil=>simp
  | cons n ns =>
   rw [List.map_cons,List.cons.injEq,PV.int.injEq,List.cons.injEq]
   constructor
   ·rintro ⟨h1,h2⟩;exact ⟨h1.symm,List.map_eq_nil_iff.mp h2.symm⟩
   ·rintro ⟨rfl,rfl⟩;exact ⟨rfl,rfl⟩
 rw [i1] at e1
 rw [i2] at e2
 rw [List.any_cons,List.any_cons,List.any_nil,Bool.or_false,Bool.not_eq_true',Bool.or_eq_false_iff,← e1,← e2,not_or,Bool.not_eq_true,Bool.not_eq_true]
theorem ET_NotIn2 (F:f.Ok sc d) {x y:Str}{p lp yp lp2 tp pos:Pos}{k:Nat}{a:Addr}{ns:List Int}{j:Int}{nw nw':Bool}{Q:Bool->Box->Prop} (hx:ρ x=some ⟨.lst a (ns.map PV.int),nw⟩) (hy:ρ y=some ⟨.val (.int j),nw'⟩)
  (h:∀ b:Bool,(b=true↔¬ (ns=[]∨ns=[j]))->Q b σ)
  (hd:(x == ("__debug__":Str))=false:=by decide) (hc:(x == ("__classdict__":Str))=false:=by decide) (hd':(y == ("__debug__":Str))=false:=by decide) (hc':(y == ("__classdict__":Str))=false:=by decide)
  (hm:behindInMarks .NotIn (.Tuple [.List [] lp,.List [.Name y yp] lp2] k tp)=false:=by with_unfolding_all rfl) :
  ET f ρ σ (.Compare (.Name x p) [.NotIn] [.Tuple [.List [] lp,.List [.Name y yp] lp2] k tp] pos) Q X:=fun s I=>by
 refine wpAny_isTrue_Compare1 (EV.use F (EV_Name F (X:=X) (Q:=fun r σ'=>r=⟨.lst a (ns.map PV.int),false⟩∧σ'=σ) hx ⟨rfl,rfl⟩ hd hc) I (fun _ _ x=>x) fun v s₁ r0 σ0 ex I₁ ok off hq_=>?_) hm
 obtain ⟨e1,e2⟩:=hq_
 subst e1 e2
 obtain ⟨rfl,hl⟩:=ok.1
 have el:EL f ρ σ0 [.List [] lp,.List [.Name y yp] lp2] (fun rs σ'=>σ'=σ0∧∃ c1 c2,rs=[⟨.lst c1 [],true⟩,⟨.lst c2 [.int j],true⟩]) X:=by
  refine EL_cons F (EV_List F (EL_nil F ⟨[],rfl,by decide,fun c1=>EL_cons F (EV_List F (EL_cons F (EV_Name F hy (EL_nil F ⟨[.int j],rfl,by (show (1:Nat)≤1000000;decide),fun c2=>EL_nil F ⟨rfl,c1,c2,rfl⟩⟩) hd' hc')))⟩))
 refine wpAny_Tuple (wpAny_mono (el s₁ tp I₁) (fun vs s₂ hq_=>?_) fun _ _ x=>x)
 obtain ⟨rs,σ',ex2,z,oks,e1,c1,c2,e2⟩:=hq_
 subst e1 e2
 obtain ⟨v1,v2,rfl,o1,_,o2⟩:=oks.two
 obtain ⟨rfl,l1⟩:=o1.1
 obtain ⟨rfl,l2⟩:=o2.1
 refine ⟨sizeLine_ge (n:=2) (by decide),?_⟩
 have I₂:=I₁.ext F ex2 z
 have kp:Kp s₂.heap (s₂.heap.push { cls:=.type "tuple",data:=.seq #[.ref c1,.ref c2] }):=fun b o e=>Heap.get?_push_of_some _ e
 have R0:=listReads ((hl.mono (I₁.tk F ex2) fun o e=>ex2.keep a o (off a (.head _)) e).mono (TK.of kp) (kp a)) (nbs_ints ns)
 refine SeqAt.notIn_tuple_reads (s:={ s₂ with heap:=s₂.heap.push { cls:=.type "tuple",data:=.seq #[.ref c1,.ref c2] } }) (.tuple (Heap.get?_push_size _ rfl) rfl rfl (.cons (listReads (l1.mono (TK.of kp) (kp c1)) rfl).1 (.cons (listReads (l2.mono (TK.of kp) (kp c2)) rfl).1 .nil))) R0.1 rfl R0.2.1 (Nat.lt_of_le_of_lt (Nat.add_le_add_left (Nat.le_trans (Nat.min_le_left ..) (Nat.le_of_ble_eq_true rfl:_≤5)) _) ?_) ?_
 ·have:=F.u60
  lia
 ·exact wpAny_truthy_bool ⟨σ',(ex.trans ex2).trans (Ext.of (tk:=s₂.toks) kp),F.zsame σ' s₂.heap _ (fun b o _ e=>kp b o e) z,h _ (notin2_iff ns j)⟩
end
end
section
section
variable {c:Cx}
theorem lbare_A (P:Pg c) {k:Str}{xs:List PV} (hk:k≠"prod"):Fn c 1 "_law_bare" [.val (.tup (.str k :: xs))] (fun v=>v=⟨.val (.tup (.str k :: xs)),true⟩) False :=
 go1_0 P 69 "term" fun f F P _=>both_t (ndec hk) rfl
theorem lbare_B (P:Pg c) {k:Str}{xs zs:List PV} (hk:k≠"num"):Fn c 1 "_law_bare" [.val (.tup [.str "prod",.tup (.tup (.str k :: xs) :: zs)])] (fun v=>v=⟨.val (.tup [.str "prod",.tup (.tup (.str k :: xs) :: zs)]),true⟩) False :=
 go1_0 P 69 "term" fun f F P _=>both_t (ndec hk) rfl
theorem lbare_C (P:Pg c) {x:PV}{zs:List PV}:Fn c 1 "_law_bare" [.val (.tup [.str "prod",.tup [.tup (.str "num" :: zs),x]])] (fun v=>v=⟨.val x,true⟩) False :=
 go1_0 P 69 "term" fun f F P _=>t_lenT (Nat.le_of_ble_eq_true rfl) rfl
theorem lbare_D (P:Pg c) {ys zs:List PV} (h1:zs.length≠1) (h2:zs.length < 1000000):Fn c 1 "_law_bare" [.val (.tup [.str "prod",.tup (.tup (.str "num" :: ys) :: zs)])] (fun v=>v=⟨.val (.tup [.str "prod",.tup zs]),true⟩) False :=
 go1_0 P 69 "term" fun f F P _=>t_lenT h2 (both_f (decide_eq_false fun e=>h1 (Nat.succ.inj (Int.ofNat_inj.mp e))) ⟨h2,_,rfl,rfl,rfl,by decide,Nat.le_add_left ..,rfl⟩)
theorem fn_lbare (P:Pg c) {t:T} (hn:t.isNum=false) (h:t.nok) (hl:∀ ts,t=.prod ts->ts.length≤1000000):Fn c 1 "_law_bare" [.val t.enc] (fun v=>v=⟨.val t.rest.enc,true⟩) False:=by
 cases t with
 | num p q=>cases hn
 | prod ts =>
  cases ts with
  | nil=>exact h.elim
  | cons t ts =>
   have hl:=hl _ rfl
   cases t with
   | num p q =>
    cases ts with
    | nil=>exact lbare_D P (zs:=[]) (by decide) (by decide)
    | cons x xs =>
     cases xs with
     | nil=>exact lbare_C P
     | cons y ys =>
      refine lbare_D P (zs:=T.encs (x :: y :: ys)) (fun e=>?_) (by rw [T.encs_map,List.length_map];exact hl)
      rw [T.encs_map,List.length_map] at e
      cases e
   | _=>exact lbare_B P (of_decide_eq_false rfl)
 | _=>exact lbare_A P (of_decide_eq_false rfl)
noncomputable def FormFn (c:Cx) (d:Nat) (t:T):Prop:=Fn c d "_law_is_formed" [.val t.enc] (fun v=>v=⟨.val (.bool true),true⟩) False
theorem ratioO_nm {r:Rat}:ratioO r.num r.den=some r:=(ratioO_ne (den_ne r)).trans (congrArg some (Rat.num_divInt_den r))
theorem form_num (P:Pg c) {d:Nat}{r:Rat} (h:Sm r.den):FormFn c (d+3) (T.nm r):=by
 have fr:∀ {c:Cx},Pg c->Fn c 1 "_law_ratio" [.val (.int r.num),.val (.int r.den)] (fun v=>v=⟨.val (ratP r),true⟩) False:=fun P=>by
  have k:=fn_ratio P (p:=r.num) h
  rwa [ratioO_nm] at k
 exact in1 P 70 "term" fun f i P=>XL_v i.ok P ⟨i.own,rfl,i.cells "kind" rfl,(fr P).is (q_vv rfl rfl (.inl (Nat.le_of_ble_eq_true rfl)) (bT rfl rfl))⟩
theorem form_sym (P:Pg c) {d:Nat}{x:Str}:FormFn c (d+3) (.sym x):=in1 P 70 "term" fun f i P=>XL_v i.ok P ⟨i.own,rfl,i.cells "kind" rfl,rfl⟩
theorem form_pow (P:Pg c) {d:Nat}{b:T}{j:Int} (hb:FormFn c d b) (h0:j≠0) (h1:j≠1) (hk:b.kind="sym"∨b.kind="sum"):FormFn c (d+3) (.pow b (T.nm (j:Rat))):=by
 refine in1 P 70 "term" fun f i P=>?_
 obtain ⟨F,rfl,own,cells,_⟩:=i
 refine XL_v F P ⟨own,rfl,cells "kind" rfl,q_ninT rfl rfl (Nat.le_of_ble_eq_true rfl) (bF (fun h=>(List.mem_cons.mp h).elim (fun e=>h0 (PV.int.inj e)) fun h=>h1 (PV.int.inj (List.mem_singleton.mp h))) (q_in true ⟨fun _=>hk.elim (fun e=>e▸.head _) fun e=>e▸.tail _ (.head _),fun _=>rfl⟩ rfl (Fn.is hb rfl)))⟩
end
end
section
noncomputable def numAt:Nat->List T->List Int
 | _,[]=>[]
 | n,t :: ts=>if t.isNum then (n:Int) :: numAt (n+1) ts else numAt (n+1) ts
theorem numAt_none:∀ {ts:List T}{n:Nat},(∀ t∈ts,t.isNum=false)->numAt n ts=[]
 | [],_,_=>rfl
 | t :: ts,n,h=>by rw [numAt];rw [h t (.head _)];exact numAt_none fun u hu=>h u (.tail _ hu)
theorem numAt_last:∀ {ts:List T}{n:Nat}{t:T},(∀ t∈ts,t.isNum=false)->t.isNum=true->numAt n (ts ++ [t])=[((n+ts.length:Nat):Int)]
 | [],n,t,_,h=>by rw [List.nil_append];rw [numAt];rw [h];rfl
 | u :: ts,n,t,hu,h=>by
  rw [List.cons_append];rw [numAt];rw [hu u (.head _)];rw [List.length_cons];rw [← Nat.add_assoc];rw [Nat.add_right_comm]
  exact numAt_last (fun v hv=>hu v (.tail _ hv)) h
theorem enum_eq (ts:List T):enumP (ts.map T.enc)=ts.zipIdx.map fun x=>.tup [.int x.2,x.1.enc]:=by
 have:∀ (ts:List T) (n:Nat),((ts.map T.enc).zipIdx n).map (fun x:PV×Nat=>PV.tup [.int x.2,x.1])=(ts.zipIdx n).map fun x=>.tup [.int x.2,x.1.enc]:=fun ts=>by
  induction ts with
  | nil=>exact fun _=>rfl
  | cons t ts ih=>exact fun n=>congrArg (_ :: ·) (ih (n+1))
 unfold enumP
 refine List.mapIdx_eq_zipIdx_map▸?_
 exact this ts 0
theorem numAt_eq:∀ (ts:List T) (n:Nat),(ts.zipIdx n).flatMap (fun x=>if x.1.isNum then [PV.int x.2] else [])=(numAt n ts).map PV.int
 | [],_=>rfl
 | t :: ts,n=>by
  rw [List.zipIdx_cons];rw [List.flatMap_cons];rw [numAt_eq ts (n+1)];rw [numAt]
  cases t.isNum <;> rfl
open Classical in
theorem lookP_none {es:List (PV×PV)}{k:PV} (h:k∉es.map (·.1)):lookP es k=none:=by
 unfold lookP
 rw [Option.map_eq_none_iff];rw [List.find?_eq_none]
 intro x hx e
 exact h (List.mem_map.mpr ⟨x,hx,by simpa using e⟩)
open Classical in
theorem putsP_nodup_aux:∀ (ps es:List (PV×PV)),((es ++ ps).map (·.1)).Nodup->ps.foldl (fun es p=>putP es p.1 p.2) es=es ++ ps
 | [],es,_=>by simp
 | p :: ps,es,h=>by
  have hk:p.1∉es.map (·.1):=by
   rw [List.map_append,List.map_cons,List.nodup_append] at h
   intro hm
   exact h.2.2 _ hm _ (.head _) rfl
  have e:putP es p.1 p.2=es ++ [p]:=by unfold putP;refine (lookP_none hk)▸?_;rfl
  refine List.foldl_cons.symm▸?_;refine e.symm▸?_;refine (putsP_nodup_aux ps (es ++ [p]) (by simpa using h)).symm▸?_;simp
theorem putsP_nodup {ps:List (PV×PV)} (h:(ps.map (·.1)).Nodup):putsP ps=ps:=by
 unfold putsP;refine (putsP_nodup_aux ps [] (h))▸?_;rfl
theorem nodup_map_inj {α β:Type}{f:α->β} (hf:∀ a b,f a=f b->a=b) {l:List α} (h:l.Nodup):(l.map f).Nodup:=by
 induction l with
 | nil=>simp
 | cons a l ih =>
  rw [List.nodup_cons] at h
  rw [List.map_cons];rw [List.nodup_cons]
  refine ⟨fun hm=>?_,ih h.2⟩
  obtain ⟨b,hb,e⟩:=List.mem_map.mp hm
  exact h.1 (hf _ _ e▸hb)
structure FL (c:Cx) (d n:Nat) (kd:Str) (kf:T->T) (ts:List T):Prop where
 which:(kd="sum"∧kf=T.rest)∨(kd="prod"∧kf=T.base)
 len2:2≤ts.length
 len:ts.length≤900000
 kind:∀ p∈ts,p.kind≠kd
 frm:∀ p∈ts,FormFn c d p
 nums:(∀ p∈ts,p.isNum=false)∨∃ q us,q≠0∧(kd="prod"->q≠1)∧(∀ u∈us,u.isNum=false)∧ts=if kd="sum" then us ++ [T.nm q] else T.nm q :: us
 adj:∀ i a b,(ts.filter fun t=>!t.isNum)[i]?=some a->(ts.filter fun t=>!t.isNum)[i+1]?=some b->O.cmp a.code b.code=.lt
 rows:Rows n (ts.filter fun t=>!t.isNum)
 keys:((ts.filter fun t=>!t.isNum).map kf).Nodup
 key:∀ u∈ts.filter fun t=>!t.isNum,(kf u).dp≤8∧u.nok∧∀ us,u=.prod us->us.length≤1000000
section
variable {c:Cx}
noncomputable def fS:Nat->List Stmt
 | 0=>(dfn 70).body
 | n+1=>tlS (fS n)
noncomputable def XF (f:Fx) (ρ:Ab) (n:Nat):Prop:=∀ σ,XL f ρ σ (fS n) (fun _ _=>False) (fun v _=>v=⟨.val (.bool true),true⟩) False
section
variable {f:Fx}{d:Nat}{ρ:Ab}{kd:Str}{ts us:List T}{a0:Addr}
noncomputable def L5 (kd:Str) (a0:Addr) (ts:List T):List (Str×RV):=[("parts",⟨.lst a0 (ts.map T.enc),true⟩),("kind",.im (.str kd))]
theorem fl5 (P:Pg f.c) (F:f.Ok (dfn 70).scope (d+2)) (ck:∃ a,f.env.cells.lookup ("kind":Str)=some a) (hl:ts.length≤900000) (h2:2≤ts.length) (hk:∀ p∈ts,p.kind≠kd) (hf:∀ p∈ts,FormFn f.c d p) (h:XF f (sets ρ (L5 kd a0 ts)) 6):XF f (sets ρ (L5 kd a0 ts)) 5:=fun σ=>by
 have len:(ts.map T.enc).length=ts.length:=List.length_map _
 refine XL_step (XS_v F P (t_lenL (by refine len▸?_;exact few_le hl) (both_f (decide_eq_false ?_) ?_)))
 ·refine len▸?_;exact Int.not_lt.mpr (Int.ofNat_le.mpr h2)
 ·refine EV_Comp F (CScope.of (by decide +kernel)) (fun x hx e=>?_) (fun g=>.name (.inl (by decide +kernel))) (by decide +kernel) (ES.T F (ES_Name F (nw:=true) rfl (fun h=>nomatch h) ?_))
  ·exact (onlyFree "kind" (by decide +kernel) x hx e).symm▸ck
  exact comp_none P (few_le hl) (fun g hc G P t ht=>ET_v G P (both_f (decide_eq_false (hk t ht)) (Fn.is (hc▸hf t ht:FormFn g.c d t) (bth_f rfl ⟨rfl,rfl⟩)))) fun a1 a2=>q_lne rfl rfl (.inl (Nat.zero_le _)) (bT rfl (h σ))
theorem fl6 (P:Pg f.c) (F:f.Ok (dfn 70).scope (d+2)) (hl:ts.length≤900000) (h:∀ a,XF f (set (sets ρ (L5 kd a0 ts)) "numbers" ⟨.lst a ((numAt 0 ts).map PV.int),true⟩) 7):XF f (sets ρ (L5 kd a0 ts)) 6:=fun σ=>by
 refine XL_step (XS_AssignComp F (CScope.of (by decide +kernel)) (fun x hx e=>(CScope.nofree (by decide +kernel) x hx e).elim) rfl (fun g=>.pair (.inl (by decide +kernel)) (.inl (by decide +kernel))) (by decide +kernel) (EST_enumerate F rfl rfl rfl (fun h=>nomatch h) ?_) rfl rfl)
 refine (enum_eq ..)▸?_
 refine comp_gen (fun x:T×Nat=>[.int x.2,x.1.enc]) (fun x=>if x.1.isNum then [PV.int x.2] else []) P (by refine List.length_zipIdx.symm▸?_;exact few_le hl) (fun x=>⟨⟨_,_,rfl,rfl⟩,rfl,fun zs ⟨u,v,e1,e2⟩=>by cases e1;exact e2⟩) (fun g hc G P x hx=>?_) fun a=>?_
 ·exact ET_v G P (bth_dec (fun e=>EV_v G P ⟨_,rfl,(if_pos ((isNum_dec x.1).symm.trans (decide_eq_true e))).symm,rfl⟩) fun e=>⟨(if_neg (Bool.eq_false_iff.mp ((isNum_dec x.1).symm.trans (decide_eq_false e)))).symm,rfl⟩)
 ·refine (numAt_eq ..)▸?_;exact h a σ
noncomputable def spotF (kd:Str) (ts:List T):Int:=if kd="sum" then (ts.length:Int) - 1 else 0
noncomputable def L6 (kd:Str) (a0 a3:Addr) (ts:List T):List (Str×RV):=("numbers",⟨.lst a3 ((numAt 0 ts).map PV.int),true⟩) :: L5 kd a0 ts
theorem fl7 (P:Pg f.c) (F:f.Ok (dfn 70).scope (d+2)) {a3:Addr} (hl:ts.length≤900000) (h:∀ ρ nw,XF f (sets ρ (("spot",⟨.val (.int (spotF kd ts)),nw⟩) :: L6 kd a0 a3 ts)) 8):XF f (sets ρ (L6 kd a0 a3 ts)) 7:=fun σ=>by
 have len:(ts.map T.enc).length=ts.length:=List.length_map _
 refine XL_cutH (fun nw:Bool=>("spot",⟨.val (.int (spotF kd ts)),nw⟩) :: L6 kd a0 a3 ts) (fun _ _=>True) (XS_v F P (dec_both (fun hs=>t_lenL (by refine len▸?_;exact few_le hl) ⟨_,⟨somI ?_,rfl,rfl,rfl,trivial⟩,trivial⟩) fun hs=>⟨_,⟨somI (if_neg hs).symm,rfl,rfl,rfl,trivial⟩,trivial⟩)) fun nw ρ σ _=>h ρ nw σ
 refine len▸?_;exact (if_pos hs).symm
noncomputable def NumsOk (kd:Str) (ts:List T):Prop:=numAt 0 ts=[]∨(numAt 0 ts=[spotF kd ts]∧0≤spotF kd ts∧∃ q:Rat,ts[(spotF kd ts).toNat]?=some (T.nm q)∧q≠0∧(kd="prod"->q≠1))
theorem fl8 (P:Pg f.c) (F:f.Ok (dfn 70).scope (d+2)) {a3:Addr}{nw:Bool} (hl:ts.length≤900000) (hn:NumsOk kd ts) (h:XF f (sets ρ (("spot",⟨.val (.int (spotF kd ts)),nw⟩) :: L6 kd a0 a3 ts)) 9):XF f (sets ρ (("spot",⟨.val (.int (spotF kd ts)),nw⟩) :: L6 kd a0 a3 ts)) 8:=fun σ=>by
 have dp:PV.depths ((numAt 0 ts).map PV.int)≤50:=by rw [depths_ints];decide
 refine XL_step (XS_If F (ET_BoolOp (EA_or F (ET_NotIn2 F rfl rfl fun b hb=>⟨fun e=>absurd (hn.imp id And.left) (hb.mp e),fun _=>EA_or F (ET_v F P fun a4=>q_lne (nbs_ints _) rfl (.inl dp) ?_)⟩))))
 rcases hn with e | ⟨e,h0,q,hq,q0,q1⟩
 ·exact bT (by refine e▸?_;rfl) (bth_f rfl (EA_or_nil (bth_f rfl (XL_nil (h σ)))))
 ·have lt:(spotF kd ts).toNat < ts.length:=(List.getElem?_eq_some_iff.mp hq).1
  have l63:spotF kd ts < 2 ^ 63:=by refine (Int.toNat_of_nonneg h0)▸?_;exact lt63 lt (few_le hl)
  have hq':(ts.map T.enc)[(spotF kd ts).toNat]?=some (T.nm q).enc:=by refine (List.getElem?_map)▸?_;refine hq▸?_;rfl
  refine bF (by refine e▸?_;nofun) (s_lst hq' (both_f (decide_eq_false fun e=>q0 (Rat.num_eq_zero.mp e)) (dec_both (fun hp=>s_lst hq' (q_vv rfl rfl (.inl (Nat.le_of_ble_eq_true rfl)) (bF (fun e=>q1 hp (nm_inj.mp (T.enc_inj (T.nm q) (T.nm 1) e))) (bth_f rfl (EA_or_nil (bth_f rfl (XL_nil (h σ))))))) h0 l63) fun _=>bth_f rfl (EA_or_nil (bth_f rfl (XL_nil (h σ)))))) h0 l63)
theorem fl9 (P:Pg f.c) (F:f.Ok (dfn 70).scope (d+2)) (own:f.own=true) (cr:∃ a,f.env.cells.lookup ("rest":Str)=some a) (hl:ts.length≤900000) (h:∀ a,XF f (set (sets ρ (L5 kd a0 ts)) "rest" ⟨.lst a ((ts.filter fun t=>!t.isNum).map T.enc),true⟩) 10):XF f (sets ρ (L5 kd a0 ts)) 9:=fun σ=>by
 refine XL_step (XS_Assign F (.inr ⟨own,rfl,cr⟩) ?_ (swaps_false F rfl))
 refine EV_Comp F (CScope.of (by decide +kernel)) (fun x hx e=>(CScope.nofree (by decide +kernel) x hx e).elim) (fun g=>.name (.inl (by decide +kernel))) (by decide +kernel) (ES.T F (ES_Name F (nw:=true) rfl (fun h=>nomatch h) ?_))
 exact comp_filter (fun t=>!t.isNum) P (few_le hl) (fun g hc G P t ht=>ET_v G P (bth_ndec (fun e=>EV_v G P ⟨_,rfl,(if_pos (by refine (isNum_dec t)▸?_;refine (decide_eq_false e)▸?_;rfl)).symm,rfl⟩) fun e=>⟨(if_neg (by refine (isNum_dec t)▸?_;refine (decide_eq_true e).symm▸?_;decide)).symm,rfl⟩)) fun a=>⟨.inl rfl,h a σ⟩
theorem fl10 (P:Pg f.c) {n:Nat} (hd:8 * n+1≤d+1) (F:f.Ok (dfn 70).scope (d+2)) (cr:∃ a,f.env.cells.lookup ("rest":Str)=some a) {a5:Addr}{r:RV} (hl:us.length≤900000) (h1:1≤us.length) (hr:Rows n us) (ha:∀ i a b,us[i]?=some a->us[i+1]?=some b->O.cmp a.code b.code=.lt) (h:XF f (sets ρ [("rest",⟨.lst a5 (us.map T.enc),true⟩),("kind",r)]) 11):XF f (sets ρ [("rest",⟨.lst a5 (us.map T.enc),true⟩),("kind",r)]) 10:=fun σ=>by
 obtain ⟨m,hm⟩:=Nat.exists_eq_add_of_le' h1
 have len:(us.map T.enc).length=m+1:=by rw [List.length_map];exact (hm ..)▸rfl
 refine XL_step (XS_v F P ?_)
 refine EV_Comp F (CScope.of (by decide +kernel)) (fun x hx e=>?_) (fun g=>.name (.inl (by decide +kernel))) (by decide +kernel) (ES.T F (ES_Range F rfl (EV_v F P (t_lenL (by rw [List.length_map];exact few_le hl) ⟨m,?_,Nat.le_trans (Nat.le_of_lt (Nat.lt_of_succ_le (Nat.le_of_eq hm.symm))) (few_le hl),comp_none (ts:=List.range m) (enc:=fun k:Nat=>.int k) P ?_ (fun g hc G P k hk=>?_) fun a6 a7=>q_lne rfl rfl (.inl (Nat.zero_le _)) (bT rfl (h σ))⟩))))
 ·exact (onlyFree "rest" (by decide +kernel) x hx e).symm▸cr
 ·refine len▸?_;exact congrArg (fun x=>Slot.val (.int x)) (Int.add_sub_cancel (m:Int) 1)
 ·refine List.length_range▸?_;exact Nat.le_trans (Nat.le_of_lt (Nat.lt_of_succ_le (Nat.le_of_eq hm.symm))) (few_le hl)
 ·have hk:=List.mem_range.mp hk
  have h2:k+1 < us.length:=by refine hm▸?_;exact Nat.succ_lt_succ hk
  have h1:k < us.length:=Nat.lt_of_succ_lt h2
  have ct:=fn_CT P n us[k] us[k+1] (hr.cm _ (List.getElem_mem _)) (hr.cm _ (List.getElem_mem _)) (hr.sz _ (List.getElem_mem _)) (hr.sz _ (List.getElem_mem _))
  replace ct:=(ha k _ _ (List.getElem?_eq_getElem h1) (List.getElem?_eq_getElem h2))▸ct
  exact ET_v G P (s_lst (map_get h1) (s_lst (x:=us[k+1].enc) (map_get h2) (ct.is (bth_f rfl ⟨rfl,rfl⟩) hd) (Int.natCast_nonneg (k+1)) (lt63 h2 (few_le hl))) (Int.natCast_nonneg k) (lt63 h1 (few_le hl)))
theorem fl11 (P:Pg f.c) (F:f.Ok (dfn 70).scope (d+2)) (ck:∃ a,f.env.cells.lookup ("kind":Str)=some a) {a5:Addr}{kf:T->T} (hw:(kd="sum"∧kf=T.rest)∨(kd="prod"∧kf=T.base)) (hl:us.length≤900000) (hn:∀ u∈us,u.isNum=false∧u.nok∧∀ ts,u=.prod ts->ts.length≤1000000)
  (h:∀ a,XF f (set (sets ρ [("rest",⟨.lst a5 (us.map T.enc),true⟩),("kind",.im (.str kd))]) "keys" ⟨.lst a (us.map fun u=>(kf u).enc),true⟩) 12):XF f (sets ρ [("rest",⟨.lst a5 (us.map T.enc),true⟩),("kind",.im (.str kd))]) 11:=fun σ=>by
 refine XL_step (XS_AssignComp F (CScope.of (by decide +kernel)) (fun x hx e=>?_) rfl (fun g=>.name (.inl (by decide +kernel))) (by decide +kernel) (ES.T F (ES_Name F (nw:=true) rfl (fun h=>nomatch h) ?_)) rfl rfl)
 ·exact (onlyFree "kind" (by decide +kernel) x hx e).symm▸ck
 refine comp_map (fun u=>(kf u).enc) P (few_le hl) (fun g hc G P u hu=>?_) fun a=>h a σ
 have k:=hn u hu
 rcases hw with ⟨rfl,rfl⟩ | ⟨rfl,rfl⟩
 ·exact EV_v G P ((fn_lbare P k.1 k.2.1 k.2.2).is ⟨_,rfl,rfl,rfl⟩)
 ·cases u with
  | pow b e=>exact EV_v G P ⟨_,rfl,rfl,rfl⟩
  | _=>exact EV_v G P ⟨_,rfl,rfl,rfl⟩
theorem nbs_kinds:∀ us:List T,PV.nbs (us.map fun u=>PV.str u.kind)=true
 | []=>rfl
 | _ :: us=>nbs_kinds us
theorem fl12 (P:Pg f.c) (F:f.Ok (dfn 70).scope (d+2)) {a5 a8:Addr}{kf:T->T} (hw:kd="sum"∨kd="prod") (hl:us.length≤900000) (hk:∀ u∈us,(kf u).dp≤8) (hu:∀ u∈us,u.kind≠kd) (nd:(us.map kf).Nodup):XF f (sets ρ [("rest",⟨.lst a5 (us.map T.enc),true⟩),("kind",.im (.str kd)),("keys",⟨.lst a8 (us.map fun u=>(kf u).enc),true⟩)]) 12:=fun σ=>by
 have hputs:putsP (us.map fun u=>((kf u).enc,PV.bool true))=us.map fun u=>((kf u).enc,PV.bool true):=by
  refine putsP_nodup ?_
  rw [List.map_map]
  have:=nodup_map_inj (f:=T.enc) (fun a b e=>T.enc_inj _ _ e) nd
  rwa [List.map_map] at this
 have len:∀ {β:Type} (g:T->β),(us.map g).length=us.length:=fun g=>List.length_map _
 refine XL_step (XS_Return F (EV_BoolOp (EB_and F (EV_Cmp F (EV_LenD F rfl (EV_DictOf F rfl ?_))))))
 refine EV_Comp F (CScope.of (by decide +kernel)) (fun x hx e=>(CScope.nofree (by decide +kernel) x hx e).elim) (fun g=>.name (.inl (by decide +kernel))) (by decide +kernel) (ES.T F (ES_Name F (nw:=true) rfl (fun h=>nomatch h) ?_))
 refine comp_map (fun u=>pairP ((kf u).enc,.bool true)) P (few_le hl) (fun g hc G P u hu=>EV_v G P ⟨_,rfl,rfl,rfl⟩) fun a9=>⟨a9,us.map fun u=>((kf u).enc,.bool true),?_,fun p hp=>?_,by refine (len ..)▸?_;exact hl,fun D=>?_⟩
 ·rw [List.map_map];rfl
 ·obtain ⟨u,hu,rfl⟩:=List.mem_map.mp hp
  exact key_enc (hk u hu)
 rw [hputs]
 refine ⟨D,_,rfl,by rw [len];exact few_le hl,EV_v F P (t_lenL (by refine (len ..)▸?_;exact few_le hl) (q_eq ⟨_,rfl,fun _=>?_,fun e=>?_⟩))⟩
 ·refine EB_last (EV_BoolOp (EB_or F (EV_v F P ⟨_,rfl,fun _=>⟨.inr (.inl rfl),rfl⟩,fun hp=>?_⟩)))
  have hsm:kd="sum":=hw.resolve_right (of_decide_eq_false hp)
  refine EB_last (EV_Cmp F (EV_str F (EV_Comp F (CScope.of (by decide +kernel)) (fun x hx e=>(CScope.nofree (by decide +kernel) x hx e).elim) (fun g=>.name (.inl (by decide +kernel))) (by decide +kernel) (ES.T F (ES_Name F (nw:=true) rfl (fun h=>nomatch h) ?_)))))
  exact comp_map (fun u=>.str u.kind) P (few_le hl) (fun g hc G P u hu=>EV_v G P ⟨_,rfl,rfl,rfl⟩) fun a=>q_ninL rfl (nbs_kinds us) (Nat.zero_le _) (bF (fun m=>by
   obtain ⟨u,h,e⟩:=List.mem_map.mp m
   exact hu u h ((PV.str.inj e).trans hsm.symm)) ⟨.inr (.inl rfl),rfl⟩)
 ·rw [len,len] at e
  exact absurd rfl (of_decide_eq_false e)
end
theorem form_list (P:Pg c) {d n:Nat} (hd:8 * n+10≤d) {kd:Str}{kf:T->T}{ts:List T}{t:T} (he:t.enc=.tup [.str kd,.tup (ts.map T.enc)]) (L:FL c d n kd kf ts):FormFn c (d+3) t:=by
 have hl:=L.len
 have hw:=L.which
 have nums:NumsOk kd ts:=by
  rcases L.nums with h | ⟨q,us,q0,q1,hu,e⟩
  ·exact .inl (numAt_none h)
  ·refine .inr ?_
   unfold spotF
   by_cases hs:kd="sum"
   ·rw [if_pos hs] at e ⊢
    have el:(ts.length:Int) - 1=(us.length:Int):=by refine e▸?_;refine List.length_append▸?_;exact Int.add_sub_cancel (us.length:Int) 1
    refine el▸?_
    refine ⟨by refine e▸?_;rw [numAt_last hu rfl];rw [Nat.zero_add],Int.natCast_nonneg _,q,?_,q0,q1⟩
    refine e▸?_;refine (Int.toNat_natCast ..)▸?_;exact (List.getElem?_concat_length ..)▸rfl
   ·rw [if_neg hs] at e ⊢
    refine ⟨?_,Int.le_refl _,q,by refine e▸?_;rfl,q0,q1⟩
    refine e▸?_
    show ((0:Nat):Int) :: numAt 1 us=_
    refine (numAt_none hu).symm▸?_;rfl
 have sub:∀ u∈ts.filter fun t=>!t.isNum,u∈ts∧u.isNum=false:=fun u hu=>⟨(List.mem_filter.mp hu).1,(Bool.not_eq_true' _).mp (List.mem_filter.mp hu).2⟩
 have ul:(ts.filter fun t=>!t.isNum).length≤900000:=Nat.le_trans (List.length_filter_le _ _) hl
 have u1:1≤(ts.filter fun t=>!t.isNum).length:=by
  obtain ⟨u,hu⟩:∃ u,u∈ts.filter fun t=>!t.isNum:=by
   rcases L.nums with h | ⟨q,us,_,_,hu,e⟩
   ·have h2:0 < ts.length:=Nat.lt_of_lt_of_le (by decide) L.len2
    exact ⟨ts[0],List.mem_filter.mpr ⟨List.getElem_mem h2,by refine (h _ (List.getElem_mem h2))▸?_;rfl⟩⟩
   ·have h2:=L.len2
    cases us with
    | nil=>rw [e] at h2;split at h2 <;> exact absurd h2 (show ¬ 2≤1 by decide)
    | cons u us=>exact ⟨u,List.mem_filter.mpr ⟨by refine e▸?_;split <;> simp,by refine (hu u (.head _))▸?_;rfl⟩⟩
  exact List.length_pos_of_mem hu
 have kn:kd≠"num"∧kd≠"sym"∧kd≠"pow":=hw.elim (fun h=>h.1▸by decide) fun h=>h.1▸by decide
 unfold FormFn
 refine he▸?_
 refine in1 P 70 "term" fun f i P=>?_
 obtain ⟨F,rfl,own,cells,_⟩:=i
 have ck:=cells "kind" rfl
 have cr:=cells "rest" rfl
 refine XL_step (XS_v F P ⟨own,rfl,ck,XL_step (XS_v F P (both_f (decide_eq_false kn.1) ?_))⟩)
 refine XL_step (XS_v F P (both_f (decide_eq_false kn.2.1) (XL_step (XS_v F P (both_f (decide_eq_false kn.2.2) ?_)))))
 refine XL_step (XS_v F P (t_listT (by rw [List.length_map];exact few_le hl) fun a0=>?_))
 refine XL_has (xs:=L5 kd a0 ts) ⟨rfl,rfl,trivial⟩ (fl5 P F ck hl L.len2 L.kind L.frm (fl6 P F hl fun a3=>fl7 P F hl fun ρ nw=>fl8 P F hl nums fun σ=>?_) _)
 refine XL_has (xs:=L5 kd a0 ts) ⟨rfl,rfl,trivial⟩ (fl9 P F own cr hl (fun a5 σ=>?_) σ)
 refine XL_has (xs:=[("rest",⟨.lst a5 _,true⟩),("kind",.im (.str kd))]) ⟨rfl,rfl,trivial⟩ (fl10 P (n:=n) ?_ F cr ul u1 L.rows L.adj (fl11 P F ck hw ul (fun u hu=>⟨(sub u hu).2,(L.key u hu).2⟩) fun a8 σ=>?_) σ)
 ·exact Nat.le_trans (Nat.add_le_add_left (by decide:1≤10) _) (Nat.le_trans hd (Nat.le_succ d))
 ·exact XL_has (xs:=[("rest",⟨.lst a5 _,true⟩),("kind",.im (.str kd)),("keys",_)]) ⟨rfl,rfl,rfl,trivial⟩ (fl12 P F (hw.imp And.left And.left) ul (fun u hu=>(L.key u hu).1) (fun u hu=>L.kind u (sub u hu).1) L.keys σ)
end
end
section
section
variable {f:Fx}{sc:Scope}{d:Nat}{ρ:Ab}{σ:Box}{s:Shared}{X:Prop}{Q:RV->Box->Prop}{N:Ab->Box->Prop}{R:RV->Box->Prop}
inductive LBox (Q:RV->Box->Prop) (rs:List RV) (σ':Box):Prop
 | mk (L:Addr) (xs:List Int) (n:Int) (nw:Bool):rs=[⟨.lst L (xs.map PV.int),true⟩,⟨.val (.int n),nw⟩]->(∀ B,Q ⟨.box B L (xs,n),true⟩ σ')->LBox Q rs σ'
theorem EV_ListBox (F:f.Ok sc d) {es:List Expr}{pos:Pos} (h:EL f ρ σ es (LBox Q) X):EV f ρ σ (.List es pos) Q X:=fun s I=>by
 refine wpAny_List (wpAny_mono (h s pos I) (fun vs s' hq_=>?_) fun _ _ x=>x)
 obtain ⟨rs,σ',e,z,oks,hq_⟩:=hq_
 obtain ⟨L,xs,n,nw,e1,q⟩:=hq_
 subst e1
 obtain ⟨v1,v2,rfl,o1,off1,o2⟩:=oks.two
 obtain ⟨⟨rfl,hl⟩,hn1⟩:=o1
 obtain ⟨tk,rfl⟩:=Im.toInt o2.1
 refine ⟨sizeLine_ge (n:=2) (by decide),?_⟩
 obtain ⟨ws,m,hL,hi⟩:=hl.isL
 have I':=I.ext F e z
 have kp:Kp s'.heap (s'.heap.push { cls:=.type "list",data:=.seq #[.ref L,.int n tk] }):=fun _ _ e=>Heap.get?_push_of_some _ e
 have ltL:L < s'.heap.objs.size:=Heap.lt_size hL
 have nz:s'.heap.objs.size∉f.Z:=fun hm=>let ⟨_,ho⟩:=F.zlive σ' s'.heap _ hm z;nob (get_size_none _) ho
 refine ⟨⟨.box s'.heap.objs.size L (xs,n),true⟩,σ',e.trans (Ext.of (tk:=s'.toks) kp),F.zsame σ' s'.heap _ (fun b o _ e=>kp b o e) z,⟨⟨rfl,⟨⟨tk,_,Heap.get?_push_size _ rfl,rfl,0,rfl⟩,⟨ws,m,kp _ _ hL,hi.mono (TK.of kp)⟩,Nat.ne_of_gt ltL⟩⟩,fun _ a ha=>?_⟩,fun a ha=>?_,q _⟩
 ·rcases List.mem_cons.mp ha with rfl | ha
  ·exact ext_new e nz
  ·obtain rfl:=List.mem_singleton.mp ha;exact hn1 rfl _ (.head _)
 ·rcases List.mem_cons.mp ha with rfl | ha
  ·exact nz
  ·obtain rfl:=List.mem_singleton.mp ha;exact off1 _ (.head _)
end
end
section
section
variable {c:Cx}
theorem fmod_seed (x:Int):0≤x.fmod 2147483647∧x.fmod 2147483647 < 2147483647:=by
 rw [Int.fmod_eq_emod_of_nonneg _ (by decide)]
 exact ⟨Int.emod_nonneg _ (by decide),Int.emod_lt_of_pos _ (by decide)⟩
theorem seed_sm {n:Int} (h:0≤n∧n < 2147483647):Sm n:=Sm.of (k:=40) (by lia) (by decide)
noncomputable def bI (a:Addr) (ks:List Int) (u:Int×Bool):List (Str×RV):=[("seed_here",⟨.val (.int u.1),u.2⟩),("script",⟨.lst a (ks.map PV.int),false⟩)]
theorem fn_law_box (P:Pg c) {a:Addr}{ks:List Int} (hl:ks.length≤1000):Fn c 1 "_law_box" [.lst a (ks.map PV.int),.val (.int 71)] (fun r=>∃ B L σ,Bx σ∧r=⟨.box B L σ,true⟩) False:=by
 have hlen:(ks.map PV.int).length≤1000000:=by rw [List.length_map];exact Nat.le_trans hl (by decide)
 have h30:(ks.take 30).length≤30:=List.length_take_le ..
 refine in2 P 64 "script" "seed_here" fun f i P=>XL_step (XS_For i.ok (.inl rfl) (ES_val i.ok (EV_v0 i.ok P ⟨hlen,_,⟨by decide,rfl⟩,fun b=>⟨rfl,loopV (bI a ks) (fun _ u=>0≤u.1∧u.1 < 2147483647) (71,false) ⟨rfl,rfl,trivial⟩ ⟨by decide,by decide⟩ (fun T K F i u y ρ σ hy hJ=>?_) fun u ρ σ hJ=>?_⟩⟩)))
 ·obtain ⟨k,_,rfl⟩:=List.mem_map.mp (List.mem_of_mem_take (List.mem_of_getElem? hy))
  exact XL_v0 F P (b_mul (mulOk_of (seed_sm hJ) (Sm.of (k:=40) (by decide) (by decide))) (b_mod (by decide) ⟨(_,false),⟨rfl,rfl,trivial⟩,fmod_seed _⟩))
 ·exact XL_step (XS_Return i.ok (EV_ListBox i.ok (EL_cons i.ok (EV_v0 i.ok P ⟨hlen,_,⟨by decide,rfl⟩,fun b2=>t_listL (by refine List.map_take▸?_;rw [List.length_map];exact Nat.le_trans (List.length_take_le ..) (by decide)) fun L=>EL_cons i.ok (EV_Name i.ok rfl (EL_nil i.ok ⟨L,ks.take 30,u.1,false,by refine List.map_take▸?_;rfl,fun B=>⟨.inl rfl,B,L,_,⟨hJ.1,hJ.2,Nat.le_trans h30 (by decide)⟩,rfl⟩⟩))⟩))))
end
end
section
section
variable {f:Fx}{sc:Scope}{d:Nat}{ρ:Ab}{σ:Box}{s:Shared}{X:Prop}{Q:RV->Box->Prop}{N:Ab->Box->Prop}{R:RV->Box->Prop}
noncomputable def pairS (x:Str×PV):PV:=.tup [.str x.1,x.2]
theorem TEnts.keys {h:Heap}{xs:List (Str×Value)}{es:List (Str×PV)} (x:TEnts h xs es):xs.map (·.1)=es.map (·.1):=by
 induction x with
 | nil=>rfl
 | cons _ _ ih=>rw [List.map_cons];rw [List.map_cons];rw [ih]
theorem TEnts.append {h:Heap}{xs ys:List (Str×Value)}{es gs:List (Str×PV)} (x:TEnts h xs es) (y:TEnts h ys gs):TEnts h (xs ++ ys) (es ++ gs):=by
 induction x with
 | nil=>exact y
 | cons a _ ih=>exact .cons a ih
inductive SArg (K:List (Str×PV)->Prop) (r:RV):Prop
 | mk (a:Addr) (es:List (Str×PV)):r.sl=.lst a (es.map pairS)->(es.map (·.1)).Nodup->es.length≤900000->K es->SArg K r
inductive SSt (knd:KeyKind prog w Str) (H:Heap) (D:Addr) (es:List (Str×PV)) (i:Nat) (h:Heap):Prop
 | mk (xs:List (Str×Value)):h.DictOf knd D xs->TEnts H xs (es.take i)->SSt knd H D es i h
set_option tactic.hygienic true in
theorem EV_DictStr (F:f.Ok sc d) {e:Expr}{p pos:Pos} (hx:sc.names.lookup ("dict":Str)=some .globalImplicit)
  (h:EV f ρ σ e (fun r σ'=>SArg (fun es=>∀ D,(D == sysModules)=false->Q ⟨.tab D es,true⟩ σ') r) X)
  (he:starEach [e] f.env=(false,eval e f.env) :: starEach [] f.env:=by rfl):EV f ρ σ (.Call (.Name "dict" p) [e] [] pos) Q X:=fun s I=>by
 refine wp_type1 F hx (by decide) blt_dict (by decide) h he I fun v s₁ r σ' ex I₁ ok hq_=>?_
 obtain ⟨a,es,hr,hnd,hlen,q⟩:=hq_
 have a1:=ok.1
 rw [hr] at a1
 obtain ⟨rfl,hlst⟩:=a1
 obtain ⟨ws,n,hL,hi⟩:=hlst.isL
 have hsz:=hi.length
 simp only [Array.length_toList,List.length_map] at hsz
 refine call_dict F.handled hL (SSt (strKind f.c.prog f.c.w) s₁.heap s₁.heap.objs.size es) ?_ ?_ ?_ ?_
 ·exact ⟨[],Heap.DictOf.new _,.nil⟩
 ·rintro i v s' hv hk ⟨xs,hD,hE⟩
  obtain ⟨y,hy,him⟩:=hi.getV i v (by simpa using hv)
  rw [List.getElem?_map,Option.map_eq_some_iff] at hy
  obtain ⟨⟨ks,pv1⟩,hp,rfl⟩:=hy
  obtain ⟨p,o,kk,vv,m,rfl,ho,hc,hd,x1,x2⟩:=Im.pair him
  obtain ⟨_,rfl⟩:=Im.toStr x1
  rename_i tk
  refine ⟨p,o,_,vv,m,rfl,hk _ _ ho,hc,hd,fun A' Q' E' hu hq=>?_⟩
  have step:es.take (i+1)=es.take i ++ [(ks,pv1)]:=by rw [List.take_add_one];rw [hp];rfl
  have hil:i < es.length:=(List.getElem?_eq_some_iff.mp hp).1
  have hlx:xs.length=i:=by
   have:=congrArg List.length hE.keys
   rw [List.length_map,List.length_map,List.length_take] at this;lia
  have hnot:ks∉xs.map (·.1):=by
   rw [hE.keys]
   intro hm
   have h1:((es.take (i+1)).map (·.1)).Nodup:=hnd.sublist ((List.take_sublist _ _).map _)
   rw [step,List.map_append,List.nodup_append] at h1
   exact h1.2.2 _ hm _ (.head _) rfl
  have hst:stored xs ks vv=xs ++ [(ks,vv)]:=by
   unfold stored
   rw [if_neg]
   intro h
   obtain ⟨kv,hkv,e⟩:=List.any_eq_true.mp h
   exact hnot (List.mem_map.mpr ⟨kv,hkv,by simpa using e⟩)
  refine wpAny_dictSet_pairs (knd:=strKind f.c.prog f.c.w) (k:=ks) (strKind_is _ _ _ _) hD (fun h' hD' hs'=>hq h' _ ⟨_,hD',?_⟩ hs') (by rw [hlx];exact sizeLine_ge (by lia))
  rw [hst];rw [step]
  exact hE.append (.cons x2 .nil)
 ·rintro i h h' ⟨xs,⟨o,es',ep,ho,r⟩,hE⟩ hD hk
  exact ⟨xs,⟨o,es',ep,hD o ho,r⟩,hE⟩
 ·rintro h' tk hk ⟨xs,hD,hE⟩
  rw [List.take_of_length_le (by lia)] at hE
  have hsys:=beq_eq_false_iff_ne.mpr (not_sys F I₁)
  exact giv_post F ex I₁.z (K:=fun r=>r=⟨.tab s₁.heap.objs.size es,true⟩) (fun r e=>e▸q _ hsys) _ _ h' tk rfl hk ⟨⟨rfl,xs,hD,hE.mono (TK.of hk)⟩,fun _ a ha=>by obtain rfl:=List.mem_singleton.mp ha;exact get_size_none _⟩ (.inr rfl)
theorem XS_AppendTab (F:f.Ok sc d) {x:Str}{p ap cp pos:Pos}{e:Expr}{a:Addr}{ds:List (Addr×List (Str×PV))} (hρ:ρ x=some ⟨.tabs a ds,true⟩) (hlen:ds.length≤1000000)
  (h:EV f ρ σ e (fun r σ'=>∃ D es,r=⟨.tab D es,true⟩∧N (set ρ x ⟨.tabs a (ds ++ [(D,es)]),true⟩) σ') X)
  (hd:(x == ("__debug__":Str))=false:=by decide) (hc:(x == ("__classdict__":Str))=false:=by decide)
  (hbase:attributeBase (.Name x p) ("append":Str) f.env (eval (.Name x p) f.env)=eval (.Name x p) f.env:=by rfl) (hline:(ap.endLine == cp.line)=true:=by rfl) (htrees:backTo cp (starEach [e] f.env)=[(false,eval e f.env)]:=by rfl) :
  XS f ρ σ (.Expr (.Call (.Attribute (.Name x p) "append" ap) [e] [] cp) pos) N R X:=by
 refine XS_listMethod F (sl:=.tabs a ds) (fun ok=>⟨ok.1,let ⟨vs,n,h,_⟩:=ok.2.1.isL;⟨vs,n,h⟩⟩) PySem.F.slot_list_append PySem.F.type_list_append hρ hd hc hbase hline htrees fun s₁ I₁=>P.append_list (h.use F I₁ (fun _ _ x=>x) fun v s₂ r σ₂ ex2 I₂ ok2 off2 hq_=>?_)
 obtain ⟨D,es,hr,q⟩:=hq_
 subst hr
 obtain ⟨m,_,hv⟩:=I₂.vars
 obtain ⟨u,_,oku⟩:=hv x _ hρ
 obtain ⟨hu,l2,tabs⟩:=oku
 obtain ⟨ws,n2,hL2,hi2⟩:=l2.isL
 have e1:=hi2.length
 simp only [Array.length_toList,List.length_map] at e1
 obtain ⟨rfl,hD⟩:=ok2.1
 have hDn:=ok2.2 rfl
 have fr:SlotFits f ρ x ⟨.tab D es,true⟩:=SlotFits.fresh F I₁ off2 hDn
 have hx2:∀ b∈(Slot.tabs a ds).fp,_:=fun b hb=>I₂.off x _ b hρ hb
 have hm2:∀ b∈(Slot.tabs a ds).fp,_:=fun b hb=>I₂.mine x _ b hρ rfl hb
 have mem:∀ b,b∈(Slot.tabs a (ds ++ [(D,es)])).fp->b∈(Slot.tabs a ds).fp∨b∈(Slot.tab D es).fp:=fun b hb=>by
  rcases List.mem_cons.mp hb with rfl | hb
  ·exact .inl (.head _)
  ·rw [List.map_append] at hb
   rcases List.mem_append.mp hb with hb | hb
   ·exact .inl (.tail _ hb)
   ·exact .inr hb
 have fits:SlotFits f ρ x ⟨.tabs a (ds ++ [(D,es)]),true⟩:=by
  refine ⟨fun b hb=>?_,fun _ b hb=>?_,fun y q' b hy hq hn hb=>?_⟩
  ·exact (mem b hb).elim (fun h=>hx2 b h) fun h=>fr.off b h
  ·exact (mem b hb).elim (fun h=>⟨(hm2 b h).1,(hm2 b h).2.1⟩) fun h=>fr.mine rfl b h
  ·exact (mem b hb).elim (fun h=>(hm2 b h).2.2 y q' hy hq) fun h=>fr.alone y q' b hy hq (.inl rfl) h
 have hs:=Heap.SameBut.update (h:=s₂.heap) (a:=a) (f:=Obj.mapSeq (·.push (.ref D)))
 have hL':=hL2.update (·.push (.ref D))
 have tk:TK s₂.heap (s₂.heap.update a (Obj.mapSeq (·.push (.ref D)))):=tk_sameBut hs fun o e c=>by
  have hL2':s₂.heap.get? a=_:=hL2
  cases hL2'.symm.trans e;exact absurd c (show Value.type "list"≠Value.type "tuple" by decide)
 have nea:∀ b,(∃ o,s₂.heap.get? b=some o∧o.cls=.type "dict")->b≠a:=by
  rintro b ⟨o,ho,hc⟩ rfl
  have hL2':s₂.heap.get? b=_:=hL2
  cases hL2'.symm.trans ho;exact absurd hc (show Value.type "list"≠Value.type "dict" by decide)
 refine ⟨ws,n2,by refine e1▸?_;exact sizeLine_ge hlen,hL2,rfl,_,σ₂,I₂.swap F hρ (a:=a) (.head _) fits hs ⟨_,hL',fun vs q=>by cases q⟩ (fun v ok=>⟨ok.1,?_,fun t ht=>?_⟩),q⟩
 ·refine IsL.listAt hL' ?_
  have:=(hi2.mono tk).append (.cons (Im.ref D) .nil)
  simpa using this
 ·rcases List.mem_append.mp ht with ht | ht
  ·have:=ok.2.2 t ht
   exact this.mono tk fun o e=>(hs.2 _ (nea _ this.live)).trans e
  ·obtain rfl:=List.mem_singleton.mp ht
   exact hD.mono tk fun o e=>(hs.2 _ (nea _ hD.live)).trans e
end
end
section
section
variable {f:Fx}{sc:Scope}{d:Nat}{ρ:Ab}{σ:Box}{s:Shared}{X:Prop}{Q:RV->Box->Prop}{N:Ab->Box->Prop}{R:RV->Box->Prop}
theorem TEnts.at {h:Heap}{xs:List (Str×Value)}{es:List (Str×PV)} (x:TEnts h xs es):∀ (i:Nat) (k:Str) (v:Value),xs[i]?=some (k,v)->∃ y,es[i]?=some (k,y):=by
 induction x with
 | nil=>intro i k v e;simp at e
 | @cons k0 v0 y0 xs es a _ ih =>
  intro i k v e
  cases i with
  | zero=>simp only [List.getElem?_cons_zero] at e ⊢;cases Option.some.inj e;exact ⟨_,rfl⟩
  | succ i=>simp only [List.getElem?_cons_succ] at e ⊢;exact ih i k v e
theorem ES_Keys (F:f.Ok sc d) {M:Bool}{x:Str}{p:Pos}{a:Addr}{es:List (Str×PV)}{nw:Bool}{Q:List PV->Box->Prop} (hρ:ρ x=some ⟨.tab a es,nw⟩) (hM:M=true->nw=false) (hsys:(a == sysModules)=false) (hok:∀ e∈es,PyData.strOk e.1=true) (h:Q (es.map fun e=>PV.str e.1) σ)
  (hd:(x == ("__debug__":Str))=false:=by decide) (hc:(x == ("__classdict__":Str))=false:=by decide):ES f M ρ σ (.Name x p) Q X:=fun s I =>
 EV.use F (EV_Name F (X:=X) (Q:=fun r σ'=>r=⟨.tab a es,false⟩∧σ'=σ) hρ ⟨rfl,rfl⟩ hd hc) I (fun _ _ x=>x) fun v s₁ r σ' ex I' ok off ⟨e1,e2⟩=>by
  subst e1 e2
  obtain ⟨rfl,xs,hD,hE⟩:=ok.1
  obtain ⟨ep,hA⟩:=hD.dictAt
  obtain ⟨o,es',ho,hrest⟩:=id hA
  obtain ⟨p3,p2,p4⟩:=I'.off x _ a hρ (.head _)
  have p1:a≠s₁.heap.objs.size:=Nat.ne_of_lt (Heap.lt_size ho)
  obtain ⟨n1,n2,n3,n4⟩:=src_new F I'
  have hlen:xs.length=es.length:=by simpa using congrArg List.length hE.keys
  have kp:Kp s₁.heap (s₁.heap.push { cls:=.type "dict_keyiterator",data:=.fields #[.ref a,.int 0 0,.int xs.length 0,.int ep 0] }):=fun _ _ e=>Heap.get?_push_of_some _ e
  refine wpAny_pyIter_dict hsys hA ⟨s₁.heap.objs.size,[(a,o)],xs.length,fun i v=>∃ k x,xs[i]?=some (k,x)∧(strKind f.c.prog f.c.w).is k v=true,_,es.map fun e=>PV.str e.1,σ',rfl,ex.trans (Ext.of (tk:=s₁.toks) kp),F.zsame σ' s₁.heap _ (fun b o _ e=>kp b o e) I'.z, { W:=Walks.dictKeys F.handled _ a p1 xs ep,st:=⟨⟨_,Heap.get?_push_size _ rfl,rfl,rfl⟩,⟨o,es',kp _ _ ho,hrest⟩⟩,it:=?_,pins:=?_,new:=n1,nz:=n2,nP:=?_,nK:=n3 },?_,?_,fun y r hy hr=>⟨n4 y r hy,fun hM' p hp=>?_⟩,ext_new ex n2,h⟩
  ·rintro i h ⟨⟨o',h1,h2,h3⟩,_⟩
   exact ⟨o',_,h1,by refine h2▸?_;decide,by refine h2▸?_;decide,h3⟩
  ·intro p hp;obtain rfl:=List.mem_singleton.mp hp;exact kp _ _ ho
  ·intro p hp;obtain rfl:=List.mem_singleton.mp hp;exact ⟨p1,p2,p3,p4⟩
  ·rw [List.length_map];exact (hlen ..)▸rfl
  ·rintro i v h hlt ⟨k,x,hx,hk⟩ _
   obtain ⟨t,rfl⟩:=Value.isStrOf_shape hk
   obtain ⟨y,hy⟩:=hE.at i k x hx
   exact ⟨.str k,by refine (List.getElem?_map)▸?_;refine hy▸?_;rfl,.str _ _ (hok _ (List.mem_of_getElem? hy))⟩
  ·obtain rfl:=List.mem_singleton.mp hp
   intro ha
   have hne:x≠y:=by rintro rfl;cases hρ.symm.trans hy;cases (hM hM').symm.trans hr
   exact (I'.mine y r a hy hr ha).2.2 x _ hne hρ (.head _)
end
end
section
section
variable {f:Fx}{sc:Scope}{d:Nat}{ρ:Ab}{σ:Box}{s:Shared}{X:Prop}{Q:RV->Box->Prop}{N:Ab->Box->Prop}{R:RV->Box->Prop}
structure CompEndS (f:Fx) (s₀:Shared) (J:List (Addr×List (Str×PV))->Box->Prop) (D C:Addr) (s':Shared):Prop where
 ext:Ext f s₀ s'
 dNew:s₀.heap.get? D=none
 cNew:s₀.heap.get? C=none
 ne:D≠C
 dz:D∉f.Z
 cz:C∉f.Z
 ns:∃ m,s'.heap.Ns C m
 res:∃ ts σ',f.zok σ' s'.heap∧ListAt s'.heap D (ts.map fun t=>PV.ref t.1)∧(∀ t∈ts,TabAt f.c s'.heap t.1 t.2∧s₀.heap.get? t.1=none∧t.1∉f.Z∧t.1≠C)∧J ts σ'
structure CScopeC (scope:Scope):Prop where
 kind:scope.kind=.function
 loc:∀ x∈scope.names,x.2=.local->scope.names.lookup x.1=some .local
 nofree:∀ x∈scope.names,x.2≠.free
 nd:((cellsFrom 0 scope.names []).map (·.1)).Nodup
noncomputable def csOkC (scope:Scope):Bool:=scope.kind == .function && scope.names.all fun x=>(x.2 != .local || scope.names.lookup x.1 == some .local) && x.2 != .free
theorem CScopeC.of {scope:Scope} (h:csOkC scope=true) (hnd:((cellsFrom 0 scope.names []).map (·.1)).Nodup):CScopeC scope:=by
 unfold csOkC at h
 simp only [Bool.and_eq_true,List.all_eq_true] at h
 obtain ⟨h1,h2⟩:=h
 refine ⟨by simpa using h1,fun x hx e=>?_,fun x hx e=>?_,hnd⟩
 ·have:=(h2 x hx).1
  rw [e] at this;simpa using this
 ·have:=(h2 x hx).2
  rw [e] at this;simp at this
theorem new_env_comp {M:Model}{A:Around}{E:Value->Shared->Prop}{scope:Scope}{globals:Addr}{qual:Str}{outer:Env}{Q:Env->Shared->Prop}
  (hQ:∀ s',InCallC s s.heap.objs.size (fun _=>none) (cellsFrom (s.heap.objs.size+1) scope.names []) (fun _=>none) s' ->
   Q (newEnv scope s.heap.objs.size globals (cellsFrom (s.heap.objs.size+1) scope.names []) qual none .none (some outer) builtinsNs) s') :
  wpAny M A (newFunctionEnv scope globals [] [] qual none .none (some outer)) Q E s:=by
 simp only [newFunctionEnv,Option.isSome_some,if_true]
 refine wpAny_bind (wpAny_alloc ?_)
 refine wpAny_bind (wpAny_layCells _ (fun name kind cells=>by cases hkc:kind == NameKind.cell <;> simp [hkc]) _ _ _ _ ?_)
 have ok:=cellsFrom_ok scope.names (s.heap.push { cls:=.type "dict",data:=.dict #[] }) (s.heap.objs.size+1) [] ⟨fun _ _ hm=>(List.not_mem_nil hm).elim,List.Pairwise.nil⟩ (by rw [Heap.size_push];exact Nat.le_refl _)
 rw [Heap.size_push] at ok
 refine (show ({ s with heap:=s.heap.push { cls:=.type "dict",data:=.dict #[] } }:Shared).heap.objs.size=s.heap.objs.size+1 from Heap.size_push ..)▸?_
 rw [List.forIn_nil]
 refine wpAny_bind (wpAny_pure (wpAny_pure (hQ _ ?_)))
 exact ⟨⟨⟨_,_,rfl⟩,(Heap.Ns.new s.heap (.type "dict")).keeps (pushCells_keeps _ _),fun b o e=>pushCells_keeps _ _ b o (Heap.get?_push_of_some _ e),Nat.le_refl _⟩, fun n c hc=>(ok.empty n c (mem_of_lookup hc)).1,ok.apart,fun n c hm=>(ok.empty n c hm).2⟩
noncomputable def Fx.compC (f:Fx) (scope:Scope) (cl:List (Str×Addr)) (C:Addr) (s₂:Shared):Fx:={ f with env:=compEnvC scope cl C f.env,H:=s₂,own:=true,K:=[],T:=s₂.heap }
noncomputable def CompStepC (f:Fx) (scope gs:Scope) (d:Nat) (names:List Str) (sp:PV->List PV->Prop) (xs:List PV) (elt:Expr) (J:Nat->List (Addr×List (Str×PV))->Box->Prop):Prop :=
 ∀ g,Sub g f->g.Ok gs d->(∀ y,scope.names.lookup y=some .cell->∃ a,g.env.cells.lookup y=some a)->∀ i y ts zs σ,xs[i]?=some y->sp y zs->J i ts σ->ts.length=i->EV g (setAll (fun _=>none) names (zs.map RV.im)) σ elt (fun r σ'=>∃ E es,r=⟨.tab E es,true⟩∧J (i+1) (ts ++ [(E,es)]) σ') False
theorem comp_blockC {E:Value->Shared->Prop} (F:f.Ok sc d) {scope:Scope} (cs:CScopeC scope) {σ₀ σ':Box}{s₀ s₂:Shared} (I₀:Inv f ρ σ₀ s₀) (ex:Ext f s₀ s₂) (I₂:Inv f ρ σ' s₂) {elt tgt iter:Expr}{pos:Pos}{I:Addr}{ws:List Addr}{P:List (Addr×Obj)}{xs:List PV}
  {St:Nat->Heap->Prop}{Mid:Nat->Value->Heap->Prop}{names:List Str}{sp:PV->List PV->Prop} (hT:∀ g:Fx,g.own=true->(∀ y,scope.names.lookup y=some .cell->∃ a,g.env.cells.lookup y=some a)->Tgt g (relS scope sc) tgt names sp)
  (S:SrcT f I ws P tgt xs St Mid s₂.heap) (hI:∀ b∈ws,s₀.heap.get? b=none) (hlen:xs.length≤1000000) (hsp:∀ y∈xs,∃ zs,sp y zs∧zs.length=names.length) (J:Nat->List (Addr×List (Str×PV))->Box->Prop) (h0:J 0 [] σ')
  (step:CompStepC f scope (relS scope sc) d names sp xs elt J) {RR:Value->Env->Result->Shared->Prop}
  (ok:∀ D cenv s',cenv.frame=f.env.frame->CompEndS f s₀ (J xs.length) D cenv.locals s'->RR (.ref D) cenv (.ok .next) s') :
  wpAny (model f.c.prog f.c.w) f.A (newList []) (fun acc s₃=>wpAny (model f.c.prog f.c.w) f.A (newFunctionEnv scope f.env.globals (clOf scope.names f.env.cells) [] f.env.qual none .none (some f.env)) (fun cenv s₄ =>
   codeAny (model f.c.prog f.c.w) f.A (.compStart (.ListComp elt [⟨tgt,iter,[],0⟩] scope pos) 0 (.ref I) acc { cenv with scope:=relabel scope f.env }) (RR acc cenv) s₄) E s₃) E s₂:=by
 refine (clOf_nil cs.nofree)▸?_
 refine wpAny_newObj_type (new_env_comp fun s₃ x₃=>?_)
 dsimp only at x₃ ⊢
 generalize hH2:s₂.heap.push { cls:=.type "list",dict:=none,data:=.seq ([]:List Value).toArray }=H2 at x₃ ⊢
 have hCs:H2.objs.size=s₂.heap.objs.size+1:=by refine hH2▸?_;exact (Heap.size_push ..)▸rfl
 have hDC:s₂.heap.objs.size≠H2.objs.size:=by refine hCs▸?_;exact Nat.ne_of_lt (Nat.lt_succ_self _)
 have none₂:∀ a,s₂.heap.objs.size≤a->s₂.heap.get? a=none:=fun a ha=>none_from s₂.heap ha
 have hD2:=none₂ s₂.heap.objs.size (Nat.le_refl _)
 have hC2:=none₂ H2.objs.size (by refine hCs▸?_;exact Nat.le_succ _)
 have clNew:∀ p∈cellsFrom (H2.objs.size+1) scope.names [],H2.objs.size < p.2∧s₂.heap.get? p.2=none∧s₂.heap.objs.size≠p.2:=fun p hp=>by
  have h1:H2.objs.size < p.2:=x₃.above p.1 p.2 hp
  have h2:s₂.heap.objs.size < p.2:=Nat.lt_trans (by refine hCs▸?_;exact Nat.lt_succ_self _) h1
  exact ⟨h1,none₂ _ (Nat.le_of_lt h2),Nat.ne_of_lt h2⟩
 have zOf:∀ a,s₂.heap.get? a=none->a∉f.Z:=fun a ha=>(comp_new F ex I₂ ha).1
 have new₀:∀ a,s₂.heap.get? a=none->s₀.heap.get? a=none:=fun a ha=>(comp_new F ex I₂ ha).2
 have old:Kp s₂.heap s₃.heap:=fun b o e=>x₃.toInCall.keep b o (hH2▸Heap.get?_push_of_some _ e)
 have hacc:s₃.heap.PlainList s₂.heap.objs.size #[]:=⟨_,x₃.toInCall.keep _ _ (hH2▸Heap.get?_push_size _ rfl)⟩
 have cells:∀ y,scope.names.lookup y=some .cell->∃ a,(cellsFrom (H2.objs.size+1) scope.names []).lookup y=some a:=fun y hy=>Option.isSome_iff_exists.mp (cellsFrom_some _ _ _ (.inl hy))
 have hrel:relabel scope f.env=scope:=relabel_nofree cs.nofree
 have G:(f.compC scope (cellsFrom (H2.objs.size+1) scope.names []) H2.objs.size s₀).Ok (relS scope sc) d:=by
  refine { cx:=F.cx,scope:=relabel_eq F scope,kind:=cs.kind,glob:=F.glob,blt:=F.blt,handled:=F.handled,room:=F.room,units:=F.units,frames:=F.frames,fr:=?_,base:=fun b o e=>Inv.kb (f:=f) F I₀ b o e,zbase:=F.zbase,zsame:=F.zsame,ztup:=F.ztup,zlive:=F.zlive,fz:=F.fz, lnew:=new₀ _ hC2,cnew:=fun _ p hp=>new₀ _ (clNew p hp).2.1,apart:=fun _=>x₃.apart,lz:=zOf _ hC2,cz:=fun p hp=>⟨zOf _ (clNew p hp).2.1,Nat.ne_of_gt (clNew p hp).1⟩,kz:=fun p hp=>(List.not_mem_nil hp).elim }
  obtain ⟨fenv,outer,L,h1,h2,h3,h4⟩:=F.fr
  exact ⟨fenv,outer,L,h1,h2,h3,h4⟩
 obtain ⟨hh,tt,es⟩:=x₃.toInCall.same
 have V:Inv (f.compC scope (cellsFrom (H2.objs.size+1) scope.names []) H2.objs.size s₀) (fun _=>none) σ' s₃:=by
  obtain ⟨hx,tx,ex'⟩:=ex.same
  refine ⟨⟨hh,tt,by refine es▸?_;refine ex'▸?_;rfl⟩,fun b o hb e=>old b o (ex.keep b o hb e),F.zsame σ' s₂.heap s₃.heap (fun b o _ e=>old b o e) I₂.z,ff_of (fun en he b o hf e hd=>⟨o,old b o e,hd⟩) I₂.ff,⟨_,x₃.toInCall.ns,fun y r hy=>(nomatch hy)⟩,fun p hp=>?_,fun p hp=>(List.not_mem_nil hp).elim,(I₀.tk F ex).trans (TK.of old),fun y r a hy=>(nomatch hy),fun y r a hy=>(nomatch hy)⟩
  have hm:p∈cellsFrom (H2.objs.size+1) scope.names []:=hp
  have hnd:((cellsFrom (H2.objs.size+1) scope.names []).map (·.1)).Nodup:=cellsFrom_names scope.names 0 (H2.objs.size+1) [] [] rfl▸cs.nd
  exact ⟨_,x₃.cell p.1 p.2 (lookup_of_mem_nodup hnd hm)⟩
 have S':SrcT (f.compC scope (cellsFrom (H2.objs.size+1) scope.names []) H2.objs.size s₀) I ws P tgt xs St Mid s₃.heap:=S.up rfl rfl rfl rfl old hI fun p hp=>⟨(S.free hC2).2 p hp,fun q hq e=>(S.free (clNew q hq).2.1).2 p hp e.symm⟩
 have loop:codeAny (model f.c.prog f.c.w) f.A (.compLoop (.ListComp elt [⟨tgt,iter,[],0⟩] scope pos) 0 (.ref I) (.ref s₂.heap.objs.size) (compEnvC scope (cellsFrom (H2.objs.size+1) scope.names []) H2.objs.size f.env))
    (RR (.ref s₂.heap.objs.size) (newEnv scope H2.objs.size f.env.globals (cellsFrom (H2.objs.size+1) scope.names []) f.env.qual none .none (some f.env) builtinsNs)) s₃:=by
  refine comp_loop (L:=⟨f.compC scope (cellsFrom (H2.objs.size+1) scope.names []) H2.objs.size s₀,fun _=>none,I,s₂.heap.objs.size,ws,P,xs,St,Mid,_,.tab,fun i ts σ=>ts.length=i∧J i ts σ⟩) (s:=s₃) ⟨G,S',new₀ _ hD2,zOf _ hD2,(fun p hp=>(List.not_mem_nil hp).elim),(S.free hD2).1,(S.free hD2).2,(fun y r hy=>nomatch hy),Ne.symm hDC,(fun q hq=>Ne.symm (clNew q hq).2.2),frs_ne F I₂ hD2,fun y r hy=>nomatch hy⟩ (hT _ rfl cells) V hacc (fun y r hy=>nomatch hy) hlen ⟨rfl,h0⟩
   (fun g hs he hg i y ts zs σ hy hz hj _=>EV.mono (step g ⟨hs.c,hs.z,hs.zok,fun p hp=>hs.h.symm▸I₀.pin p hp⟩ hg (he.symm▸cells) i y ts zs σ hy hz hj.2 hj.1) (fun r σ' hq_=>by obtain ⟨E,es,hr,q⟩:=hq_;exact ⟨(E,es),hr,hj.1▸List.length_append,q⟩) id) hsp ?_ (fun x s' hx=>hx.elim)
  ·intro ts σ'' s' hJ V' hl hts
   have e1:Ext f s₀ s':=⟨V'.same,fun b o hb e=>V'.keep b o hb e⟩
   obtain ⟨m,hm,_⟩:=V'.vars
   exact ok _ _ s' rfl ⟨e1,new₀ _ hD2,new₀ _ hC2,hDC,zOf _ hD2,zOf _ hC2,⟨m,hm⟩,ts,σ'',V'.z,hl,fun t ht=>⟨let ⟨_,h⟩:=(hts t ht).1;h.2,have x:=(hts t ht).2 t.1 (.head _);⟨x.n,x.z,x.l⟩⟩,hJ.2⟩
 exact codeAny_compStart_list loop (S.W.self 0 _ _ _ (S.W.frame 0 _ _ S.st fun b _ o e=>old b o e) loop)
end
end
section
theorem Im.pinss {h:Heap}:(∀ {v:Value}{y:PV},Im h v y->∃ K:List (Addr×Obj),(∀ p∈K,h.get? p.1=some p.2∧p.2.cls=.type "tuple"∧∃ vs n,p.2.data=.seq vs n)∧∀ h':Heap,(∀ p∈K,h'.get? p.1=some p.2)->Im h' v y) ∧
  ∀ {vs:List Value}{ys:List PV},Ims h vs ys->∃ K:List (Addr×Obj),(∀ p∈K,h.get? p.1=some p.2∧p.2.cls=.type "tuple"∧∃ vs n,p.2.data=.seq vs n)∧∀ h':Heap,(∀ p∈K,h'.get? p.1=some p.2)->Ims h' vs ys :=
 have no:∀ {P:Heap->Prop},(∀ h,P h)->∃ K:List (Addr×Obj),(∀ p∈K,h.get? p.1=some p.2∧p.2.cls=.type "tuple"∧∃ vs n,p.2.data=.seq vs n)∧∀ h':Heap,(∀ p∈K,h'.get? p.1=some p.2)->P h':=fun k=>⟨[],fun p hp=>(List.not_mem_nil hp).elim,fun h' _=>k h'⟩
 Im.ind (no fun _=>.none) (fun b=>no fun _=>.bool b) (fun i t=>no fun _=>.int i t) (fun s t q=>no fun _=>.str s t q)
  (fun {a o _ _ _} ho hc hd _ ⟨K,h1,h2⟩=>⟨(a,o) :: K,List.forall_mem_cons.mpr ⟨⟨ho,hc,_,_,hd⟩,h1⟩,fun h' hk=>.tup (hk (a,o) (.head _)) hc hd (h2 h' fun p hp=>hk p (.tail _ hp))⟩) (fun a=>no fun _=>.ref a) (no fun _=>.nil)
  fun _ _ ⟨K,h1,h2⟩ ⟨K',h1',h2'⟩=>⟨K ++ K',fun p hp=>(List.mem_append.mp hp).elim (h1 p) (h1' p),fun h' hk=>.cons (h2 h' fun p hp=>hk p (List.mem_append_left _ hp)) (h2' h' fun p hp=>hk p (List.mem_append_right _ hp))⟩
theorem Im.pins {h:Heap}{v:Value}{y:PV} (x:Im h v y):∃ K:List (Addr×Obj),(∀ p∈K,h.get? p.1=some p.2∧p.2.cls=.type "tuple"∧∃ vs n,p.2.data=.seq vs n)∧∀ h':Heap,(∀ p∈K,h'.get? p.1=some p.2)->Im h' v y:=Im.pinss.1 x
theorem TEnts.pins {h:Heap}{xs:List (Str×Value)}{es:List (Str×PV)} (x:TEnts h xs es):∃ K:List (Addr×Obj),(∀ p∈K,h.get? p.1=some p.2∧p.2.cls=.type "tuple"∧∃ vs n,p.2.data=.seq vs n)∧∀ h':Heap,(∀ p∈K,h'.get? p.1=some p.2)->TEnts h' xs es:=by
 induction x with
 | nil=>exact ⟨[],fun p hp=>(List.not_mem_nil hp).elim,fun _ _=>.nil⟩
 | cons a _ ih =>
  obtain ⟨K,h1,h2⟩:=a.pins
  obtain ⟨K',h1',h2'⟩:=ih
  exact ⟨K ++ K',fun p hp=>(List.mem_append.mp hp).elim (h1 p) (h1' p),fun h' hk=>.cons (h2 h' fun p hp=>hk p (List.mem_append_left _ hp)) (h2' h' fun p hp=>hk p (List.mem_append_right _ hp))⟩
noncomputable def HasTab (K:List (Addr×Obj)) (c:Cx) (D:Addr) (es:List (Str×PV)):Prop:=(∃ o,(D,o)∈K)∧∀ h:Heap,(∀ p∈K,h.get? p.1=some p.2)->TabAt c h D es
theorem HasTab.up {K K':List (Addr×Obj)}{c:Cx}{D:Addr}{es:List (Str×PV)} (x:HasTab K c D es) (h:∀ p∈K,p∈K'):HasTab K' c D es :=
 ⟨let ⟨o,ho⟩:=x.1;⟨o,h _ ho⟩,fun g hg=>x.2 g fun p hp=>hg p (h p hp)⟩
theorem TabAt.pins {c:Cx}{h:Heap}{D:Addr}{es:List (Str×PV)} (x:TabAt c h D es):∃ K:List (Addr×Obj),(∀ p∈K,h.get? p.1=some p.2∧(p.1=D∨p.2.cls=.type "tuple"∧∃ vs n,p.2.data=.seq vs n))∧HasTab K c D es:=by
 obtain ⟨xs,⟨o,es',ep,ho,r⟩,hE⟩:=x
 obtain ⟨K,h1,h2⟩:=hE.pins
 refine ⟨(D,o) :: K,fun p hp=>?_,⟨o,.head _⟩,fun h' hk=>⟨xs,⟨o,es',ep,hk (D,o) (.head _),r⟩,h2 h' fun p hp=>hk p (.tail _ hp)⟩⟩
 rcases List.mem_cons.mp hp with rfl | hp
 ·exact ⟨ho,.inl rfl⟩
 ·exact ⟨(h1 p hp).1,.inr (h1 p hp).2⟩
theorem tabs_pins {c:Cx}{h:Heap} (ds:List (Addr×List (Str×PV))) (x:∀ d∈ds,TabAt c h d.1 d.2):∃ K:List (Addr×Obj),(∀ p∈K,h.get? p.1=some p.2∧(p.1∈ds.map (·.1)∨p.2.cls=.type "tuple"∧∃ vs n,p.2.data=.seq vs n))∧∀ d∈ds,HasTab K c d.1 d.2:=by
 induction ds with
 | nil=>exact ⟨[],fun p hp=>(List.not_mem_nil hp).elim,fun d hd=>(List.not_mem_nil hd).elim⟩
 | cons d ds ih =>
  obtain ⟨K,h1,h2⟩:=ih fun e he=>x e (.tail _ he)
  obtain ⟨K',h1',h2'⟩:=(x d (.head _)).pins
  refine ⟨K' ++ K,fun p hp=>?_,fun e he=>?_⟩
  ·rcases List.mem_append.mp hp with hp | hp
   ·exact ⟨(h1' p hp).1,(h1' p hp).2.imp (fun e=>by refine e▸?_;exact .head _) id⟩
   ·exact ⟨(h1 p hp).1,(h1 p hp).2.imp (fun e=>.tail _ e) id⟩
  ·rcases List.mem_cons.mp he with rfl | he
   ·exact h2'.up fun p hp=>List.mem_append_left _ hp
   ·exact (h2 e he).up fun p hp=>List.mem_append_right _ hp
section
variable {f:Fx}{sc:Scope}{d:Nat}{ρ:Ab}{σ:Box}{s:Shared}{X:Prop}{Q:RV->Box->Prop}{N:Ab->Box->Prop}{R:RV->Box->Prop}
noncomputable def Knows (g:Fx) (D:Addr) (es:List (Str×PV)):Prop:=∀ ρ σ s,Inv g ρ σ s->TabAt g.c s.heap D es∧D∉g.Z∧D≠g.env.locals∧∀ q∈g.env.cells,q.2≠D
theorem knows_self (F:f.Ok sc d) {D:Addr}{es:List (Str×PV)} (h:HasTab f.K f.c D es):Knows f D es:=fun ρ σ s I=>by
 obtain ⟨o,ho⟩:=h.1
 exact ⟨h.2 _ I.pin,F.kz _ ho⟩
theorem knows_pin {T:Heap}{K:List (Addr×Obj)} (F:(f.pin T K).Ok sc d) {D:Addr}{es:List (Str×PV)} (h:HasTab f.K f.c D es):Knows (f.pin T K) D es:=knows_self F (h.up fun p hp=>List.mem_append_right _ hp)
theorem knows_sub {g:Fx}{gs:Scope}{e:Nat} (F:f.Ok sc d) (G:g.Ok gs e) (S:Sub g f) {D:Addr}{es:List (Str×PV)} (h:HasTab f.K f.c D es):Knows g D es:=fun ρ σ s I=>by
 obtain ⟨o,ho⟩:=h.1
 have nz:∀ p∈f.K,p.1∉g.Z:=fun p hp=>by refine S.z▸?_;exact (F.kz p hp).1
 have pins:∀ p∈f.K,s.heap.get? p.1=some p.2:=fun p hp=>I.keep _ _ (nz p hp) (S.pins p hp)
 have ht:=h.2 _ pins
 replace ht:=S.c.symm▸ht
 refine ⟨ht,nz _ ho,?_,?_⟩
 ·rintro rfl
  have:=S.pins _ ho
  exact nob G.lnew this
 ·rintro q hq rfl
  obtain ⟨u,oc,hc,hcd⟩:=I.cells q hq
  obtain ⟨xs,⟨o',es',ep,ho',hx,hd,_⟩,_⟩:=ht
  cases hc.symm.trans ho';cases hcd.symm.trans hd
theorem Inv.retab (I:Inv f ρ σ s) {D:Addr}{es:List (Str×PV)} (k:Knows f D es) {x:Str}{nw:Bool} (hx:ρ x=some ⟨.val (.ref D),nw⟩) (hm:∀ y r,ρ y=some r->r.new=true->D∉r.sl.fp):Inv f (set ρ x ⟨.tab D es,false⟩) σ s:=by
 obtain ⟨kt,kz,kl,kc⟩:=k ρ σ s I
 have one:∀ b,b∈[D]->D=b:=fun b hb=>(List.mem_singleton.mp hb).symm
 exact I.reslot hx ⟨fun b hb=>one b hb▸⟨kl,kz,kc⟩,fun e=>absurd e Bool.false_ne_true,fun y q b _ hy hor hb=>one b hb▸hm y q hy (hor.resolve_left Bool.false_ne_true)⟩ fun v ok=>by
  have:v=.ref D:=by cases ok;rfl
  exact ⟨this,kt⟩
theorem EV_retab {D:Addr}{es:List (Str×PV)} (k:Knows f D es) {x:Str}{nw:Bool}{e:Expr} (hx:ρ x=some ⟨.val (.ref D),nw⟩) (hm:∀ y r,ρ y=some r->r.new=true->D∉r.sl.fp) (h:EV f (set ρ x ⟨.tab D es,false⟩) σ e Q X):EV f ρ σ e Q X:=fun s I=>h s (I.retab k hx hm)
theorem XL_retab {D:Addr}{es:List (Str×PV)} (k:Knows f D es) {x:Str}{nw:Bool}{sts:List Stmt} (hx:ρ x=some ⟨.val (.ref D),nw⟩) (hm:∀ y r,ρ y=some r->r.new=true->D∉r.sl.fp) (h:XL f (set ρ x ⟨.tab D es,false⟩) σ sts N R X):XL f ρ σ sts N R X:=fun s I=>h s (I.retab k hx hm)
noncomputable abbrev Fx.bx (f:Fx) (B L:Addr):Fx:={ f with Z:=[B,L],zok:=BoxOk B L }
theorem boxed (F:f.Ok sc d) (hZ:f.Z=[]) {s₀:Shared}{σ₀:Box} (I₀:Inv f ρ σ₀ s₀) {B L:Addr}{τ:Box} (nB:s₀.heap.get? B=none) (nL:s₀.heap.get? L=none) {ρ':Ab}{σ':Box} (I:Inv f ρ' σ' s) {x:Str} (hx:ρ' x=some ⟨.box B L τ,true⟩) :
  (f.bx B L).Ok sc d∧Inv (f.bx B L) (set ρ' x ⟨.ref (.ref B),false⟩) τ s:=by
 have new₀:∀ a∈[B,L],s₀.heap.get? a=none:=fun a ha=>by
  rcases List.mem_cons.mp ha with rfl | ha
  ·exact nB
  ·obtain rfl:=List.mem_singleton.mp ha;exact nL
 have hfp:(Slot.box B L τ).fp=[B,L]:=rfl
 obtain ⟨m,hm,hv⟩:=I.vars
 obtain ⟨v,hvx,rfl,hbox⟩:=hv x _ hx
 have off:∀ a∈[B,L],_:=fun a ha=>I.off x _ a hx ha
 have mine:∀ a∈[B,L],_:=fun a ha=>I.mine x _ a hx rfl ha
 refine ⟨{ F with zbase:=fun a ha=>?_,zsame:=fun σ h h' k z=>z.stay k,ztup:=fun σ h a o ha z e=>?_,zlive:=(fun σ h a ha z=>let ⟨o,ho,_⟩:=z.live ha;⟨o,ho⟩),fz:=fun e he L' hL' hz=>?_,lz:=fun ha=>(off _ ha).1 rfl, cz:=fun p hp=>⟨fun ha=>(off _ ha).2.2 p hp rfl,(F.cz p hp).2⟩,kz:=fun p hp=>⟨fun ha=>(mine _ ha).2.1 p hp rfl,(F.kz p hp).2⟩ },?_⟩
 ·exact back_none ((mine a ha).1) fun o q=>F.base a o q
 ·obtain ⟨o',ho',hc,_⟩:=z.live ha
  cases sinj e ho'
  refine hc▸?_;decide
 ·exact frs_ne F I₀ (new₀ L' hz) e he hL'
 ·exact ⟨I.same,fun b o hb e=>I.keep b o (by refine hZ▸?_;exact List.not_mem_nil) e,hbox,I.ff,⟨m,hm,set_ind ⟨_,hvx,rfl⟩ fun y q _ h=>hv y q h⟩,I.cells,I.pin,I.tup, fun y q a hy=>set_ind (P:=fun _ q=>a∈q.sl.fp->a≠f.env.locals∧a∉[B,L]∧∀ p∈f.env.cells,p.2≠a) (fun ha=>by cases ha) (fun y q hne h ha=>⟨(I.off y q a h ha).1,fun hz=>(mine a hz).2.2 y q hne h ha,(I.off y q a h ha).2.2⟩) y q hy, fun y q a hy=>set_ind (P:=fun y q=>q.new=true->a∈q.sl.fp->f.H.heap.get? a=none∧(∀ p∈f.K,p.1≠a)∧∀ z t,z≠y->set ρ' x ⟨.ref (.ref B),false⟩ z=some t->a∉t.sl.fp) (fun e=>absurd e Bool.false_ne_true)
    (fun y q _ h hq ha=>⟨(I.mine y q a h hq ha).1,(I.mine y q a h hq ha).2.1,fun z t hz ht=>set_ind (P:=fun z t=>z≠y->a∉t.sl.fp) (fun _ ha=>by cases ha) (fun z t _ h' hz=>(I.mine y q a h hq ha).2.2 z t hz h') z t ht hz⟩) y q hy⟩
noncomputable def CompQC (f:Fx) (scope gs:Scope) (d:Nat) (names:List Str) (sp:PV->List PV->Prop) (elt:Expr) (K:List (Addr×List (Str×PV))->Box->Prop) (xs:List PV) (σ':Box):Prop :=
 xs.length≤1000000∧(∀ y∈xs,∃ zs,sp y zs∧zs.length=names.length)∧∃ J:Nat->List (Addr×List (Str×PV))->Box->Prop,J 0 [] σ'∧CompStepC f scope gs d names sp xs elt J∧∀ ys σ'',J xs.length ys σ''->K ys σ''
theorem use_postS {E:Value->Shared->Prop} (F:f.Ok sc d) {σ₀:Box} (I:Inv f ρ σ₀ s) {y:Str}{py:Pos} (hy:Stores f sc y) {J:List (Addr×List (Str×PV))->Box->Prop}{D C:Addr}{s':Shared} (e:CompEndS f s J D C s') (k:∀ ys σ',J ys σ'->N (set ρ y ⟨.tabs D ys,true⟩) σ') :
  wpAny (model f.c.prog f.c.w) f.A (assign (.Name y py) f.env (.ref D)) (fun _ s''=>∃ m,s''.heap.Ns C m∧∀ h',Heap.SameBut C s''.heap h'->XP f N R .next { s'' with heap:=h' }) E s':=by
 obtain ⟨m,hn⟩:=e.ns
 obtain ⟨ys,σ',hz,hl,ht,hJ⟩:=e.res
 have I':=I.ext F e.ext hz
 have fp2:∀ a∈(Slot.tabs D ys).fp,a∉f.Z∧s.heap.get? a=none∧a≠C:=fun a ha=>by
  rcases List.mem_cons.mp ha with rfl | ha
  ·exact ⟨e.dz,e.dNew,e.ne⟩
  ·obtain ⟨t,hm,rfl⟩:=List.mem_map.mp ha
   obtain ⟨_,h2,h3,h4⟩:=ht t hm
   exact ⟨h3,h2,h4⟩
 refine wpAny_assign_Name (I'.storeK F hy (sl:=⟨.tabs D ys,true⟩) ⟨rfl,hl,fun t hm=>(ht t hm).1⟩ (SlotFits.fresh F I (fun a ha=>(fp2 a ha).1) fun a ha=>(fp2 a ha).2.1) fun s'' I'' K=>?_)
 have hLC:C≠f.env.locals:=by
  rintro rfl
  obtain ⟨m,⟨oL,_,_,hL,_⟩,_⟩:=I.vars
  exact nob e.cNew hL
 have hCC:∀ p∈f.env.cells,p.2≠C:=by
  rintro p hp rfl
  obtain ⟨v,oc,hc,_⟩:=I.cells p hp
  exact nob e.cNew hc
 have hn':s''.heap.Ns C m:=hn.at' fun o q=>K.at' C o hLC hCC q
 refine ⟨m,hn',fun h' hs=>⟨_,σ',Inv.lone F I I'' e.cNew hn' (fun z r hz' ha=>?_) e.cz hs,k ys σ' hJ⟩⟩
 unfold Mine.set at hz'
 by_cases q:z=y
 ·cases (if_pos q).symm.trans hz'
  exact (fp2 C ha).2.2 rfl
 ·rw [if_neg q] at hz'
  obtain ⟨m,_,hv⟩:=I.vars
  obtain ⟨v,_,ok⟩:=hv z r hz'
  obtain ⟨o,ho,_⟩:=ok.live C ha
  exact nob e.cNew ho
theorem XS_AssignCompC (F:f.Ok sc d) {scope:Scope} (cs:CScopeC scope) {elt tgt iter:Expr}{pos spos py:Pos}{y:Str}{names:List Str}{sp:PV->List PV->Prop}
  (hy:sc.names.lookup y=some .local) (hT:∀ g:Fx,g.own=true->(∀ y,scope.names.lookup y=some .cell->∃ a,g.env.cells.lookup y=some a)->Tgt g (relS scope sc) tgt names sp)
  (h:EST f false tgt ρ σ iter (CompQC f scope (relS scope sc) d names sp elt (fun ys σ'=>∀ a,N (set ρ y ⟨.tabs a ys,true⟩) σ')) X)
  (hl:(py.line == pos.line)=true:=by rfl) (hn:(scope.names.any fun (n,k)=>n == y && (k == .local || k == .cell))=false:=by rfl)
  (hs:∀ x,foldedSetIterable iter f.env x=pure x:=by intro _;rfl):XS f ρ σ (.Assign [.Name y py] (.ListComp elt [⟨tgt,iter,[],0⟩] scope pos) spos) N R X:=fun s I=>by
 refine wp_eq (exec_Assign_Name_used _ _ _ _ (swaps_true F hy hl hn)) ?_
 refine wpAny_bind (wpAny_standAt (wpAny_bind ?_))
 refine wpAny_bind (wpAny_mono (wpAny_comprehension_free (Q:=fun _ s'=>XP f N R .next s') (use:=some (assign (.Name y py) f.env)) rfl hs (closureFor_eq fun x hx e=>(cs.nofree x hx e).elim) cs.kind cs.loc (wpAny_mono (h s I) (fun x s₁ h₁=>wpAny_mono h₁ (fun it s₂ h₂=>?_) fun _ _ x=>x) fun _ _ x=>x))
  (fun _ s' hq=>wpAny_pure (wpAny_pure hq)) fun _ _ e=>e)
 obtain ⟨I',ws,P,xs,St,Mid,σ',rfl,ex,z,S,hfp,hI,hlen,hsp,J,h0,step,fin⟩:=h₂
 refine comp_blockC F cs I ex (I.ext F ex z) hT S hI hlen hsp J h0 step (fun D cenv s' _ e=>?_)
 exact use_postS F I (.inl hy) e fun ys σ'' hJ=>fin ys σ'' hJ D
end
end
section
noncomputable def LP (H:Shared) (fl:Flow) (s':Shared):Prop:=fl=.ret (.bool true)∧Same H s'∧Kp H.heap s'.heap
noncomputable def LX (f:Fx) (ρ:Ab) (σ:Box) (sts:List Stmt):Prop:=∀ s,Inv f ρ σ s->wpAny (model f.c.prog f.c.w) f.A (execs sts f.env) (LP f.H) (fun _ _=>False) s
section
variable {f:Fx}{sc:Scope}{d:Nat}{ρ:Ab}{σ:Box}{s:Shared}{X:Prop}{Q:RV->Box->Prop}{N:Ab->Box->Prop}{R:RV->Box->Prop}
theorem LX_cons {st:Stmt}{r:List Stmt} (h:XS f ρ σ st (fun ρ' σ'=>LX f ρ' σ' r) (fun _ _=>False) False):LX f ρ σ (st :: r):=fun s I =>
 wpAny_execs_cons (wpAny_mono (h s I) (fun fl s' x=>by
  cases fl with
  | next=>obtain ⟨ρ',σ',I',q⟩:=x;exact q s' I'
  | ret v=>obtain ⟨_,_,_,_,_,_,q⟩:=x;exact q.elim
  | brk=>exact x.elim
  | cont=>exact x.elim) fun x s' hx=>hx.1.elim)
theorem LX_end (hH:∀ a∈f.Z,f.H.heap.get? a=none) {sts:List Stmt} (h:XL f ρ σ sts (fun _ _=>False) (fun r _=>r=⟨.val (.bool true),true⟩) False):LX f ρ σ sts:=fun s I =>
 wpAny_mono (h s I) (fun fl s' x=>by
  cases fl with
  | next=>obtain ⟨_,_,_,q⟩:=x;exact q.elim
  | ret v =>
   obtain ⟨r,σ',ρ',I',ok,_,q⟩:=x
   subst q
   have:v=.bool true:=by have:=ok.1;cases this;rfl
   exact ⟨by exact this▸rfl,I'.same,fun b o e=>I'.keep b o (fun hz=>by exact nob (hH b hz) e) e⟩
  | brk=>exact x.elim
  | cont=>exact x.elim) fun x s' hx=>hx.1.elim
inductive BxR (f:Fx) (sc:Scope) (d:Nat) (ρ:Ab) (x:Str) (rest:List Stmt) (r:RV):Prop
 | mk (B L:Addr) (τ:Box):r=⟨.box B L τ,true⟩->((f.bx B L).Ok sc d->LX (f.bx B L) (set (set ρ x ⟨.box B L τ,true⟩) x ⟨.ref (.ref B),false⟩) τ rest)->BxR f sc d ρ x rest r
inductive BxS (f:Fx) (sc:Scope) (d:Nat) (ρ:Ab) (x:Str) (rest:List Stmt) (s:Shared) (fl:Flow) (s':Shared):Prop
 | mk (B L:Addr) (τ:Box) (σ':Box):fl=.next->s.heap.get? B=none->s.heap.get? L=none->Inv f (set ρ x ⟨.box B L τ,true⟩) σ' s'->((f.bx B L).Ok sc d->LX (f.bx B L) (set (set ρ x ⟨.box B L τ,true⟩) x ⟨.ref (.ref B),false⟩) τ rest)->BxS f sc d ρ x rest s fl s'
theorem LX_boxed (F:f.Ok sc d) (hZ:f.Z=[]) {x:Str}{p pos:Pos}{e:Expr}{rest:List Stmt} (hx:Stores f sc x)
  (h:EV f ρ σ e (fun r _=>BxR f sc d ρ x rest r) False)
  (hs:swapsWith e (some (.Name x p)) pos.line f.env=pure false:=by rfl):LX f ρ σ (.Assign [.Name x p] e pos :: rest):=fun s I=>by
 refine wpAny_execs_cons (wpAny_mono (Q:=BxS f sc d ρ x rest s) (wpAny_Assign_Name (h.use F I (fun _ _ x=>x.1.elim) fun v s' r σ' ex I' ok off hq_=>?_) hs) (fun fl s' hq_=>?_) fun _ _ x=>x)
 ·obtain ⟨B,L,τ,hr,q⟩:=hq_
  subst hr
  exact I'.store F hx ok.1 (rv_fits F ex I I' ok off (.inl rfl)) fun s'' I''=>⟨B,L,τ,σ',rfl,ok.2 rfl B (.head _),ok.2 rfl L (.tail _ (.head _)),I'',q⟩
 ·obtain ⟨B,L,τ,σ',hfl,nB,nL,I',q⟩:=hq_
  subst hfl
  obtain ⟨F',I2⟩:=boxed F hZ I nB nL I' (x:=x) (if_pos rfl)
  exact q F' s' I2
theorem LX_unbox {B L:Addr}{τ:Box}{sts:List Stmt} (hZ:f.Z=[]) (hzok:f.zok=fun _ _=>True) (hH:∀ a∈[B,L],f.H.heap.get? a=none) (h:LX f ρ σ sts):LX (f.bx B L) ρ τ sts:=fun s I =>
 h s ⟨I.same,fun b o _ e=>I.keep b o (fun hz=>by exact nob (hH b hz) e) e,by refine hzok▸?_;trivial,I.ff,I.vars,I.cells,I.pin,I.tup,fun x r a hx ha=>let ⟨a1,a2,a3⟩:=I.off x r a hx ha;⟨a1,by refine hZ▸?_;exact List.not_mem_nil,a3⟩,I.mine⟩
theorem LX_pins (F:f.Ok sc d) {x:Str}{a:Addr}{ds:List (Addr×List (Str×PV))}{nw:Bool}{sts:List Stmt} (hx:ρ x=some ⟨.tabs a ds,nw⟩) (hal:nw=false->∀ y r,y≠x->ρ y=some r->r.new=true->∀ b∈r.sl.fp,b∉ds.map (·.1))
  (h:∀ T K,(f.pin T K).Ok sc d->(∀ t∈ds,HasTab (f.pin T K).K f.c t.1 t.2)->TK f.T T->LX (f.pin T K) (set ρ x ⟨.lst a (ds.map fun t=>PV.ref t.1),false⟩) σ sts):LX f ρ σ sts:=fun s I=>by
 obtain ⟨m,hm,hv⟩:=I.vars
 obtain ⟨v,_,ok⟩:=hv x _ hx
 obtain ⟨K,hK1,hK2⟩:=tabs_pins (c:=f.c) (h:=s.heap) ds ok.2.2
 have offK:∀ p∈K,p.1∉f.Z∧p.1≠f.env.locals∧∀ q∈f.env.cells,q.2≠p.1:=fun p hp=>by
  obtain ⟨h1,h2 | ⟨h2,h3⟩⟩:=hK1 p hp
  ·obtain ⟨a1,a2,a3⟩:=I.off x _ p.1 hx (.tail _ h2)
   exact ⟨a2,a1,a3⟩
  ·obtain ⟨_,a2,a3,a4⟩:=place_off F I h1 h3 (fun hz=>F.ztup σ s.heap p.1 p.2 hz I.z h1 h2)
   exact ⟨a2,a3,a4⟩
 have F':(f.pin s.heap K).Ok sc d:=pin_ok F offK
 have I1:Inv f (set ρ x ⟨.lst a (ds.map fun t=>PV.ref t.1),false⟩) σ s:=I.weaken hx (fun b hb=>by obtain rfl:=List.mem_singleton.mp hb;exact .head _) (fun e=>nomatch e) fun v ok=>⟨ok.1,ok.2.1⟩
 have I2:Inv (f.pin s.heap K) (set ρ x ⟨.lst a (ds.map fun t=>PV.ref t.1),false⟩) σ s:=I1.pinned (TK.refl _) (fun p hp=>(hK1 p hp).1) fun p hp y r hy hr=>by
  refine set_ind (P:=fun y r=>r.new=true->p.1∉r.sl.fp) (fun e=>absurd e Bool.false_ne_true) (fun y r q hy hr=>?_) y r hy hr
  obtain ⟨h1,h2 | ⟨h2,h3⟩⟩:=hK1 p hp
  ·exact fun hb=>by
    cases nw with
    | true=>exact (I.mine y r p.1 hy hr hb).2.2 x _ (Ne.symm q) hx (.tail _ h2)
    | false=>exact hal rfl y r q hy hr p.1 hb h2
  ·intro hb
   obtain ⟨u,_,ok'⟩:=hv y r hy
   obtain ⟨o',ho',hc'⟩:=ok'.live _ hb
   cases h1.symm.trans ho';exact hc' h2
 exact h s.heap K F' (fun t ht=>(hK2 t ht).up fun p hp=>List.mem_append_left _ hp) I.tup s I2
theorem LX_unpin {T:Heap}{K:List (Addr×Obj)} (F:(f.pin T K).Ok sc d) (hT:TK f.T T) {x:Str}{a:Addr}{ds:List (Addr×List (Str×PV))}{nw:Bool}{sts:List Stmt} (hx:ρ x=some ⟨.lst a (ds.map fun t=>PV.ref t.1),nw⟩) (hk:∀ t∈ds,HasTab (f.pin T K).K f.c t.1 t.2)
  (h:LX f (set ρ x ⟨.tabs a ds,false⟩) σ sts):LX (f.pin T K) ρ σ sts:=fun s I=>by
 have kn:∀ t∈ds,TabAt f.c s.heap t.1 t.2∧t.1∉f.Z∧t.1≠f.env.locals∧(∀ q∈f.env.cells,q.2≠t.1)∧∃ o,(t.1,o)∈(f.pin T K).K:=fun t ht=>by
  obtain ⟨k1,k2,k3,k4⟩:=knows_self F (hk t ht) ρ σ s I
  exact ⟨k1,k2,k3,k4,(hk t ht).1⟩
 have J:=I.unpin hT
 refine h s (J.reslot hx ⟨fun b hb=>?_,fun e=>absurd e Bool.false_ne_true,fun y q b hne hy hor hb hbq=>?_⟩ fun v ok=>⟨ok.1,ok.2,fun t ht=>(kn t ht).1⟩)
 ·rcases List.mem_cons.mp hb with rfl | hb
  ·exact J.off x _ b hx (.head _)
  ·obtain ⟨t,ht,rfl⟩:=List.mem_map.mp hb
   obtain ⟨_,k2,k3,k4,_⟩:=kn t ht
   exact ⟨k3,k2,k4⟩
 ·have hq:=hor.resolve_left Bool.false_ne_true
  rcases List.mem_cons.mp hb with rfl | hb
  ·exact (J.mine y q b hy hq hbq).2.2 x _ (Ne.symm hne) hx (.head _)
  ·obtain ⟨t,ht,rfl⟩:=List.mem_map.mp hb
   obtain ⟨_,_,_,_,o,ho⟩:=kn t ht
   exact (I.mine y q t.1 hy hq hbq).2.1 _ ho rfl
theorem setFlight_exc {M:Model}{A:Around}{E:Value->Shared->Prop}{c:Cx}{frs:List Env}{s₀:Shared}{e:Addr}{m:Value}{Q:Unit->Shared->Prop} (x:ExcAt c [] frs s₀ e (some m) s) (k:∀ s',ExcAt c [] frs s₀ e (some .none) s'->Q () s'):wpAny M A (setFlight (.ref e) none) Q E s:=by
 obtain ⟨⟨hh,tk,rfl⟩,hb,hn,hff,hfl,hkd⟩:=x
 obtain ⟨_,t⟩:=Fl2.toW hfl
 exact wpAny_setFlight_noneW hb hff t fun h' k1 k2 k3 k4=>k _ ⟨⟨h',tk,rfl⟩,k1,hn,k2,Fl2.ofW k3,hkd.trans fun b o _ e' n=>⟨o,k4 b o e' n,rfl,rfl,rfl⟩⟩
theorem note_at {E:Value->Shared->Prop} (F:f.Ok sc d) {s₀:Shared}{e:Addr}{Q:Unit->Shared->Prop} (x:ExcAt f.c [] f.frs s₀ e (some .none) s) (k:∀ L s',ExcAt f.c [] f.frs s₀ e (some (rawInt L)) s'->Q () s'):wpAny (model f.c.prog f.c.w) f.A (noteFrame (.ref e) f.env) Q E s:=by
 obtain ⟨⟨hh,tk,rfl⟩,hb,hn,hff,hfl,hkd⟩:=x
 obtain ⟨fenv,outer,L,hfrs,hf,hf',hkk⟩:=F.fr
 have hfr:=F.frames
 rw [hfrs] at hfr hff
 refine wp_eq (noteFrame_same (hf'.trans hf.symm)) ?_
 obtain ⟨_,t⟩:=Fl2.toW hfl
 refine wpAny_noteFrame_onW hfr hff hf t hb hn fun h' hq_=>?_
 obtain ⟨x1,x2,x3,x4⟩:=hq_
 exact k L _ ⟨⟨h',tk,rfl⟩,x1,hn,by refine hfrs▸?_;exact x2,Fl2.ofW x3,hkd.trans (.of_left x4)⟩
end
end
section
section
variable {f:Fx}{sc:Scope}{d:Nat}{ρ:Ab}{σ:Box}{s:Shared}{X:Prop}
theorem KD.tk {h h':Heap} (k:KD [] h h'):TK h h':=fun b o vs n e c dd=>by
 obtain ⟨o',h1,h2,_,h4⟩:=k b o (fun h=>(List.not_mem_nil h).elim) e (fun ws q=>by cases dd.symm.trans q)
 exact ⟨o',h1,h2.trans c,h4.trans dd⟩
theorem due_nones (F:f.Ok sc d) (hH:Kp f.H.heap f.c.base) {s' s4:Shared}{e:Addr}{mk v₀:Option Value} (I':Inv f ρ σ s') (x4:ExcAt f.c [] f.frs s' e mk s4) {z:Str}{zp p1 p2 p3 lp ep rp:Pos}{k1 k2 k3:Nat}{nz:Bool}{a:Addr}
  (hz:ρ z=some ⟨.lst a [.none,.none,.none],nz⟩) (hzl:sc.names.lookup z=some .local) (hd3:(z == ("__debug__":Str))=false) {E:Value->Shared->Prop} :
  wpAny (model f.c.prog f.c.w) (f.A.mark v₀) (exec (.Return (some (.Compare (.Name z zp) [.Eq] [.List [.Constant .none k1 p1,.Constant .none k2 p2,.Constant .none k3 p3] lp] ep)) rp) f.env) (LP f.H) E s4:=by
 have kd4:=x4.kd
 have tk4:TK s'.heap s4.heap:=kd4.tk
 obtain ⟨m,hm,hv⟩:=I'.vars
 obtain ⟨v,hvi,hval,⟨ws,⟨ol,hol,holc,nl,hold⟩,hims⟩,_⟩:=hv z _ hz
 subst hval
 have hkl:f.env.kindOf z=some .local:=by unfold Env.kindOf;refine F.scope▸?_;exact hzl
 have hmz:m z=some (.ref a):=by
  rcases hvi with ⟨_,h⟩ | ⟨h | h,_⟩
  ·exact h
  ·cases hkl.symm.trans h
  ·cases hkl.symm.trans h
 have hm4:s4.heap.Ns f.env.locals m:=kd4.ns (fun h=>(List.not_mem_nil h).elim) hm
 have hkind:f.env.scope.kind=.function:=by refine F.scope▸?_;exact F.kind
 obtain ⟨ol4,hol4,hol4c,_,hol4d⟩:=kd4 a ol (fun h=>(List.not_mem_nil h).elim) hol (fun ws q=>by cases hold.symm.trans q)
 have rdue:Reads s4.heap (.ref a) (.list (PV.toDs [.none,.none,.none])) [a]:=.list hol4 (hol4c.trans holc) (hol4d.trans hold) ((hims.mono tk4).reads rfl)
 refine wpAny_Return_some (wpAny_Compare1 (wpAny_Name (wpAny_loadName_local hkind hkl hm4 hmz ?_) hd3) (by with_unfolding_all rfl))
 refine wpAny_List (wpAny_items_cons (wpAny_Constant_none (wpAny_items_cons (wpAny_Constant_none (wpAny_items_cons (wpAny_Constant_none (wpAny_items_nil ⟨sizeLine_ge (n:=3) (by decide),?_⟩)))))))
 have kp:Kp s4.heap (s4.heap.push { cls:=.type "list",data:=.seq #[.none,.none,.none] }):=fun b o e=>Heap.get?_push_of_some _ e
 have rnew:Reads (s4.heap.push { cls:=.type "list",data:=.seq #[.none,.none,.none] }) (.ref s4.heap.objs.size) (.list (PV.toDs [.none,.none,.none])) [s4.heap.objs.size] :=
  .list (Heap.get?_push_size _ rfl) rfl rfl ((Ims.cons .none (.cons .none (.cons .none .nil))).reads rfl)
 have rdue':Reads (s4.heap.push { cls:=.type "list",data:=.seq #[.none,.none,.none] }) (.ref a) (.list (PV.toDs [.none,.none,.none])) [a] :=
  .list (kp _ _ hol4) (hol4c.trans holc) (hol4d.trans hold) ((hims.mono (tk4.trans (TK.of kp))).reads rfl)
 refine SeqAt.compareEq_reads (s:={ s4 with heap:=s4.heap.push { cls:=.type "list",data:=.seq #[.none,.none,.none] } }) rdue' rnew (by decide) (by decide) (by have:=F.u60;exact Nat.lt_of_le_of_lt (Nat.add_le_add_left (by decide:_≤60) _) this) ?_
 refine ⟨?_,?_,?_⟩
 ·rfl
 ·obtain ⟨h1,t1,e1⟩:=I'.same
  obtain ⟨h2,t2,e2⟩:=x4.same
  exact ⟨_,_,by rw [e2];rw [e1]⟩
 ·exact fun b o e=>kp b o (x4.base b o (hH b o e))
theorem call_noted (F:f.Ok sc (d+1)) (I:Inv f ρ σ s) {x g:Str}{px gp cp:Pos}{tx:PV}{nx:Bool}{Qf:RV->Prop} (hx:ρ x=some ⟨.val tx,nx⟩) (hg:sc.names.lookup g=some .globalImplicit) (hgf:IsFn f.c g) (hf:Fn f.c d g [.val tx] Qf X) {Q:Value->Shared->Prop}{E:Value->Shared->Prop}
  (kE:∀ e s' s'',X->Inv f ρ σ s'->ExcAt f.c [] f.frs s' e (some .none) s''->E (.ref e) s'') (k:∀ v r s'',Inv f ρ σ s''->r.sl.ok f.c s''.heap v->(∀ y,SlotFits f ρ y r)->Qf r->Q v s'')
  (hd1:(x == ("__debug__":Str))=false) (hc1:(x == ("__classdict__":Str))=false) (hd2:(g == ("__debug__":Str))=false) (he:starEach [.Name x px] f.env=(false,eval (.Name x px) f.env) :: starEach [] f.env) :
  wpAny (model f.c.prog f.c.w) f.A (eval (.Call (.Name g gp) [.Name x px] [] cp) f.env) Q E s:=by
 obtain ⟨ga,o,fd,h1,h2,h3⟩:=hgf.name
 refine wpAny_Call_Name_kw (wp_GName F I hg (.inl h1) ?_ hd2)
 have hb:backTo cp (starEach [.Name x px] f.env)=(false,eval (.Name x px) f.env) :: backTo cp (starEach [] f.env):=by refine he▸?_;rfl
 refine hb▸?_
 refine callWith_function_kw (o:=o) (fd:=fd) (evalArgs_kw rfl ?_)
 refine hb▸?_
 have hE:EL f ρ σ [.Name x px] (fun rs σ'=>rs.map (·.sl)=[.val tx]∧σ'=σ) False:=EL_cons F (EV_Name F hx (EL_nil F ⟨rfl,rfl⟩) hd1 hc1) he
 refine wpAny_mono (hE s cp I) (fun vs s' hq_=>?_) fun _ _ x=>x.1.elim
 obtain ⟨rs,σ',ex,z,oks,q,e0⟩:=hq_
 subst e0
 have I':=I.ext F ex z
 have hbase:Kp f.c.base s'.heap:=I'.kb F
 refine wpAny_evalAll_nil ⟨⟨hbase _ _ h2,h3⟩,?_⟩
 have E:CallEnv f.c f.A f.frs d s':=⟨F.cx,F.handled,F.frames,by have:=F.room;lia,by have:=F.units;lia,hbase,I'.ff⟩
 have hargs:=oks.args
 rw [q] at hargs
 refine wpAny_mono (hf f.A f.frs s' ga vs h1 E hargs) (fun v s'' hq_=>?_) fun x s'' ⟨hx,e',e1,e2⟩=>by subst e1;exact kE e' s' s'' hx I' e2
 obtain ⟨r,x1,x2,x3,x4,x5⟩:=hq_
 have offz:∀ a∈r.sl.fp,a∉f.Z:=fun a ha hz=>by
  obtain ⟨o,ho⟩:=F.zlive σ' s'.heap a hz z
  exact nob (x3.2 x4 a ha) ho
 obtain ⟨h',tk,e⟩:=x1
 have ex2:Ext f s' s'':=⟨⟨h',tk,e⟩,fun b o _ e=>x2 b o e⟩
 have I'':=I'.ext F ex2 (F.zsame σ' _ _ (fun b o _ e=>x2 b o e) z)
 exact k v r s'' I'' x3.1 (fun _=>rv_fits F ex2 I' I'' x3 offz (.inl x4)) x5
theorem LX_try (F:f.Ok sc (d+1)) (K:Rc f.c) (hH:Kp f.H.heap f.c.base) {y x z g:Str}{py gp px cp ap np zp lp p1 p2 p3 ep rp hp pos:Pos}{k1 k2 k3:Nat}{rest:List Stmt}{tx:PV}{nx nz:Bool}{a:Addr}{ys:List PV}
  (hx:ρ x=some ⟨.val tx,nx⟩) (hz:ρ z=some ⟨.lst a ys,nz⟩) (hzl:sc.names.lookup z=some .local) (hy:Stores f sc y) (hg:sc.names.lookup g=some .globalImplicit) (hgf:IsFn f.c g) (hcas:sc.names.lookup ("CasFail":Str)=some .globalImplicit)
  (hf:Fn f.c d g [.val tx] (fun r=>LX f (set ρ y r) σ rest) X) (hX:X->ys=[.none,.none,.none])
  (hd1:(x == ("__debug__":Str))=false:=by decide) (hc1:(x == ("__classdict__":Str))=false:=by decide) (hd2:(g == ("__debug__":Str))=false:=by decide) (hd3:(z == ("__debug__":Str))=false:=by decide)
  (hs:swapsWith (.Call (.Name g gp) [.Name x px] [] cp) (some (.Name y py)) ap.line f.env=pure false:=by rfl) (he:starEach [.Name x px] f.env=(false,eval (.Name x px) f.env) :: starEach [] f.env:=by rfl) :
  LX f ρ σ (.Try [.Assign [.Name y py] (.Call (.Name g gp) [.Name x px] [] cp) ap] [.ExceptHandler (some (.Name "CasFail" np)) none [.Return (some (.Compare (.Name z zp) [.Eq] [.List [.Constant .none k1 p1,.Constant .none k2 p2,.Constant .none k3 p3] lp] ep)) rp] hp] [] [] pos :: rest):=fun s I=>by
 refine wpAny_execs_cons (wpAny_mono (Q:=fun fl s'=>(fl=.next∧wpAny (model f.c.prog f.c.w) f.A (execs rest f.env) (LP f.H) (fun _ _=>False) s')∨(LP f.H fl s')) ?_ (fun fl s' q=>?_) fun _ _ x=>x)
 rotate_left
 ·rcases q with ⟨rfl,q⟩ | q
  ·exact q
  ·obtain ⟨rfl,q⟩:=q;exact ⟨rfl,q⟩
 have name:∀ (A:Around) (s':Shared) (Qc:Value->Shared->Prop) (E:Value->Shared->Prop),(Kp f.c.base s'.heap)->Qc (.ref f.c.C) s'->wpAny (model f.c.prog f.c.w) A (eval (.Name "CasFail" np) f.env) Qc E s':=fun A s' Qc E hb h=>by
  have hkind:f.env.scope.kind=.function:=by refine F.scope▸?_;exact F.kind
  have hx':f.env.kindOf "CasFail"=some .globalImplicit:=by unfold Env.kindOf;refine F.scope▸?_;exact hcas
  exact Name_function_global hkind hx' (loadGlobal_global (F.glob▸F.cx.g.keeps hb) K.name h)
 refine wpAny_Try_except ?_
 refine wpAny_mono (Q:=fun fl s'=>fl=.next∧wpAny (model f.c.prog f.c.w) f.A (execs rest f.env) (LP f.H) (fun _ _=>False) s') (E:=fun v s''=>∃ e s' σ',v=.ref e∧X∧Inv f ρ σ' s'∧ExcAt f.c [] f.frs s' e (some .none) s'') ?_ (fun fl s' ⟨h1,h2⟩=>?_) (fun v s'' ⟨e,s',σ',hv,hxx,I',hex⟩=>?_)
 ·refine wpAny_execs_cons (wpAny_mono (Q:=fun fl s'=>fl=.next∧wpAny (model f.c.prog f.c.w) f.A (execs rest f.env) (LP f.H) (fun _ _=>False) s') ?_ (fun fl s' ⟨h1,h2⟩=>?_) fun _ _ x=>x)
  ·refine wpAny_Assign_Name ?_ hs
   exact call_noted F I hx hg hgf hf (fun e s' s'' hxx I' q=>⟨e,s',σ,rfl,hxx,I',q⟩) (fun v r s'' I'' ok fits q=>I''.store F hy ok (fits y) fun s3 I3=>⟨rfl,q s3 I3⟩) hd1 hc1 hd2 he
  ·subst h1
   exact wpAny_execs_nil ⟨rfl,h2⟩
 ·subst h1
  exact wpAny_execs_nil (.inl ⟨rfl,h2⟩)
 subst hv
 have hys:=hX hxx
 subst hys
 refine note_at F hex fun L s2 x2=>setFlight_exc x2 fun s3 x3=>?_
 refine wpAny_handleBy_cons (codeAny_handlers_test (name _ _ _ _ x3.base ?_)) (by intro q;cases q)
 obtain ⟨oe,vs,T,oT,ts,he,hc,hd,_⟩:=x3.fl
 have hC3:=x3.base _ _ K.hC
 have step:∀ (M:Model) (A:Around) (E:Value->Shared->Prop) (Q:Bool->Shared->Prop),Q true s3->wpAny M A (excMatches (.ref e) (.ref f.c.C)) Q E s3:=fun M A E Q hq=>by
  obtain ⟨hh,g,dr,tk,os⟩:=s3
  exact wpAny_excMatches_sub_self hC3 he hc (by decide) hq
 refine step _ _ _ _ ?_
 refine codeAny_handlers_suite (setFlight_exc x3 fun s4 x4=>?_)
 refine wpAny_execs_cons (wpAny_mono (Q:=fun fl s'=>LP f.H fl s') (due_nones F hH I' x4 hz hzl hd3) (fun fl s' q=>?_) fun _ _ x=>x)
 ·obtain ⟨rfl,q⟩:=q;exact .inr ⟨rfl,q⟩
end
end
section
section
variable {f:Fx}{sc:Scope}{d:Nat}{ρ:Ab}{σ:Box}{s:Shared}{X:Prop}{Q:RV->Box->Prop}
theorem LX_forget {ρ':Ab}{sts:List Stmt} (hρ:∀ x r,ρ' x=some r->∃ r',ρ x=some r'∧r.sl=r'.sl∧r.new=false) (h:LX f ρ' σ sts):LX f ρ σ sts:=fun s I=>by
 refine h s ⟨I.same,I.keep,I.z,I.ff,?_,I.cells,I.pin,I.tup,fun y q a hy ha=>?_,fun y q a hy hq ha=>?_⟩
 ·obtain ⟨m,hm,hv⟩:=I.vars
  refine ⟨m,hm,fun y q hy=>?_⟩
  obtain ⟨r',h1,h2,_⟩:=hρ y q hy
  obtain ⟨v,a,ok⟩:=hv y r' h1;exact ⟨v,a,h2▸ok⟩
 ·obtain ⟨r',h1,h2,_⟩:=hρ y q hy
  exact I.off y r' a h1 (h2▸ha)
 ·obtain ⟨r',_,_,h3⟩:=hρ y q hy
  cases h3.symm.trans hq
theorem LX_drop {T:Heap}{K:List (Addr×Obj)} (hT:TK f.T T) {sts:List Stmt} (h:LX f ρ σ sts):LX (f.pin T K) ρ σ sts:=fun s I=>h s (I.unpin hT)
theorem EV_toTabs {e:Expr} (h:EV f ρ σ e (fun r σ'=>∃ a,r=⟨.lst a [],true⟩∧Q ⟨.tabs a [],true⟩ σ') X):EV f ρ σ e Q X:=fun s I =>
 wpAny_mono (h s I) (fun v s' ⟨r,σ',e,z,ok,off,a,hr,q⟩=>by
  subst hr
  exact ⟨⟨.tabs a [],true⟩,σ',e,z,⟨⟨ok.1.1,ok.1.2,fun t ht=>(List.not_mem_nil ht).elim⟩,ok.2⟩,off,q⟩) fun _ _ x=>x
structure InL (f:Fx) (c:Cx) (scope:Scope) (d:Nat):Prop extends In f c scope d where
 hH:Kp f.H.heap f.c.base
 zok:f.zok=fun _ _=>True
theorem enterLaw {c:Cx}{d:Nat}{fn x:Str}{params:Arguments}{body:List Stmt}{scope:Scope}{a:Slot} (D:FnDef c fn params body scope) {A:Around}{frs:List Env}{s:Shared}{fa:Addr}{v:Value} (hs:Kp s.heap c.base) (hm:c.mg fn=some (.ref fa)) (E:CallEnv c A frs (d+1) s) (ha:a.ok c s.heap v)
  (h:∀ f,InL f c scope d->LX f (par1 x a) ([],0) body)
  (hbind:∀ v pm code doc,bindArgs (docDef fn params body scope pm code doc) ⟨[v],[]⟩=pure [(x,v)]:=by intro _ _ _ _;rfl)
  (hx:scope.names.lookup x=some .local∨scope.names.lookup x=some .cell:=by first | exact .inl rfl | exact .inr rfl)
  (hk:scope.kind=.function:=by rfl) (hco:scope.isCoroutine=false:=by rfl) (hgen:scope.isGenerator=false:=by rfl) (hnd:((cellsFrom 0 scope.names []).map (·.1)).Nodup:=by decide +kernel) :
  wpAny (model c.prog c.w) A (call (.ref fa) [v]) (fun r s'=>LP s (.ret r) s') (fun _ _=>False) s:=by
 obtain ⟨a',o,pm,code,doc,h1,h2,h3,h4⟩:=D
 cases h1.symm.trans hm
 have hroom:A.depth < recursionLimit:=by have:=E.room;lia
 refine wpAny_call ?_
 refine codeAny_call_function hroom (E.base _ _ h2) h3 hco hgen rfl (h4.keeps E.base) ?_
 refine wp_eq (hbind v pm code doc) ?_
 refine wpAny_pure ?_
 have hkind:([(x,v)].all fun y=>scope.names.lookup y.1 == some .local || scope.names.lookup y.1 == some .cell)=true:=by rcases hx with hx | hx <;> simp [hx]
 refine wpAny_newFunctionEnv_cells hk (kindsX hkind _) fun env he s' x'=>?_
 have he':env=newEnv scope s.heap.objs.size mainGlobals (cellsFrom (s.heap.objs.size+1) scope.names []) (fn ++ ".<locals>.") (some fa) code none builtinsNs:=he
 have hsc:env.scope=scope:=by refine he'▸?_;rfl
 have hfr:env.frame=some env.locals:=by refine he'▸?_;rfl
 have hcl:env.cells=cellsFrom (s.heap.objs.size+1) scope.names []:=by refine he'▸?_;rfl
 refine ⟨(E.cx.nolimit.keeps E.base).keeps x'.toInCall.keep,codeAny_func ?_⟩
 have ok:=frame_ok E he' hk x'
 have hnd':(env.cells.map (·.1)).Nodup:=by refine hcl▸?_;exact cellsFrom_names scope.names 0 (s.heap.objs.size+1) [] [] rfl▸hnd
 have cells:∀ y,scope.names.lookup y=some .cell->∃ a,env.cells.lookup y=some a:=fun y hy=>by
  refine hcl▸?_;exact Option.isSome_iff_exists.mp (cellsFrom_some _ _ _ (.inl hy))
 have kof:∀ y,env.kindOf y=scope.names.lookup y:=fun y=>by unfold Env.kindOf;exact hsc▸rfl
 have I:=frame_inv (A:=A) (ρ:=par1 x a) E.ff E.base hfr hsc hk hnd' x' (fun y sl hy=>by
  unfold par1 at hy
  by_cases q:y=x
  ·subst q
   cases (if_pos rfl).symm.trans hy
   refine ⟨rfl,v,?_,ha⟩
   rcases hx with hx | hx
   ·exact .inl ⟨(kof _).trans hx,by simp [bindL,(kof y).trans hx]⟩
   ·exact .inr ⟨(kof _).trans hx,Option.isSome_iff_exists.mpr (cells y hx),by simp [bindC,(kof y).trans hx]⟩
  ·exact nob (if_neg q) hy)
 exact wpAny_mono (h _ ⟨⟨ok,rfl,rfl,cells,rfl⟩,hs,rfl⟩ s' I) (fun fl s'' q=>by
  obtain ⟨rfl,q⟩:=q
  exact ⟨rfl,q⟩) fun e s'' q=>q.elim
end
end
section
theorem Raw.step {n:Nat}{t:T} (h:Raw n t):Raw (n+1) t:=by
 induction h with
 | sym h=>exact .sym h
 | num a b c d=>exact .num a b c d
 | pow _ a b ih=>exact .pow ih a b
 | sum _ a b ih=>exact .sum ih a b
 | prod _ a b ih=>exact .prod ih a b
noncomputable def qv (q p1 p2 p3:Int):Str->Rat:=fun n=>if n="x" then Rat.divInt p1 q else if n="y" then Rat.divInt p2 q else Rat.divInt p3 q
noncomputable def RowB (q p1 p2 p3:Int):Prop:=(1≤q∧q≤3)∧(-4≤p1∧p1≤4)∧(-4≤p2∧p2≤4)∧(-4≤p3∧p3≤4)
noncomputable def VOk (v:Str->Rat):Prop:=∃ q p1 p2 p3:Int,RowB q p1 p2 p3∧v=qv q p1 p2 p3
noncomputable def rowE (q p1 p2 p3:Int):List (Str×PV):=[(("x":Str),.tup [.int p1,.int q]),(("y":Str),.tup [.int p2,.int q]),(("z":Str),.tup [.int p3,.int q])]
noncomputable def IsRow (t:Addr×List (Str×PV)):Prop:=(t.1 == sysModules)=false∧∃ q p1 p2 p3:Int,RowB q p1 p2 p3∧t.2=rowE q p1 p2 p3
theorem LX_has {f:Fx}{ρ:Ab}{σ:Box}{sts:List Stmt}{xs:List (Str×RV)} (H:Has ρ xs) (k:LX f (sets ρ xs) σ sts):LX f ρ σ sts:=H.eq▸k
noncomputable def xyz:List Str:=["x","y","z"]
noncomputable def rowL (q:Int) (ps:List Int):List PV:=(xyz.zip ps).map fun x=>pairS (x.1,.tup [.int x.2,.int q])
theorem rowL_snoc {q p:Int}{nm:Str}:∀ {ps:List Int}{j:Nat},ps.length=j->xyz[j]?=some nm->rowL q (ps ++ [p])=rowL q ps ++ [pairS (nm,.tup [.int p,.int q])]
 | [],_,rfl,h=>by cases Option.some.inj h;rfl
 | [_],_,rfl,h=>by cases Option.some.inj h;rfl
 | [_,_],_,rfl,h=>by cases Option.some.inj h;rfl
 | _ :: _ :: _ :: _,_,rfl,h=>nomatch h
section
variable {c:Cx}{f:Fx}{d:Nat}{B L:Addr}
noncomputable def wL (B a:Addr) (t:T) (u:List (Addr×List (Str×PV))×Bool):List (Str×RV):=[("rows",⟨.tabs a u.1,true⟩),("box",⟨.ref (.ref B),false⟩),("term",⟨.val t.enc,u.2⟩)]
theorem row_one (P:Pg f.c) (F:f.Ok (dfn 71).scope (d+2)) (Z:InBox f B L) (cb:∀ x∈(["box","turn"]:List Str),∃ a,f.env.cells.lookup x=some a) {ρ:Ab}{σ:Box}{t:T}{nt:Bool}{a:Addr}{ds:List (Addr×List (Str×PV))}{i:Nat} (hσ:Bx σ) (hi:i < 3) (hl:ds.length≤1000000) {R:RV->Box->Prop}{N:Ab->Box->Prop}
  (k:∀ D es σ',Bx σ'->IsRow (D,es)->N (set (set (sets ρ (wL B a t (ds,nt))) "turn" (.im (.int i))) "rows" ⟨.tabs a (ds ++ [(D,es)]),true⟩) σ'):XL f (set (sets ρ (wL B a t (ds,nt))) "turn" (.im (.int i))) σ (forB (hdS (tlS (tlS (tlS (dfn 71).body))))) N R False:=by
 refine XL_step (XS_AppendTab F rfl hl (EV_DictStr F rfl ?_))
 refine EV_Comp F (CScope.of (by decide +kernel)) (fun x hx e=>?_) (fun g=>.name (.inl (by decide +kernel))) (by decide +kernel) (ES.T F (ES_val F (EV_v F P ?_)))
 ·exact cb _ (onlyFrees ["box","turn"] (by decide +kernel) x hx e)
 refine ⟨by decide,fun y _=>⟨[y],rfl,rfl⟩,fun j ys σ=>Bx σ∧∃ ps:List Int,ps.length=j∧(∀ p∈ps,-4≤p∧p≤4)∧ys=rowL (1+i) ps,⟨hσ,[],rfl,nofun,rfl⟩,fun g hg G j y ys zs σ hy hzs hJ _=>?_,fun ys σ' hJ a1=>?_⟩
 ·obtain ⟨g1,ps,g2,g3,rfl⟩:=hJ
  subst hzs
  have hy:(xyz.map PV.str)[j]?=some y:=hy
  rw [List.getElem?_map,Option.map_eq_some_iff] at hy
  obtain ⟨nm,hnm,rfl⟩:=hy
  exact EV_v G (hg.c▸P) ⟨_,_,hg.z.trans Z.z,hg.zok.trans Z.zok,fn_takeE (hg.c▸P) (by decide) g1 fun p τ l1 l2 τ1=>⟨_,rfl,τ1,ps ++ [p - 4],by refine List.length_append▸?_;refine g2▸?_;rfl,fun p' hp=>(List.mem_append.mp hp).elim (g3 p') fun h=>List.mem_singleton.mp h▸⟨Int.sub_le_sub_right l1 4,show p - 4≤8 - 4 from Int.sub_le_sub_right (Int.le_of_lt_add_one l2) 4⟩,(rowL_snoc g2 hnm).symm⟩⟩
 ·obtain ⟨g1,ps,g2,g3,rfl⟩:=hJ
  match ps,g2 with
  | [p1,p2,p3],_ =>
   have b1:=g3 p1 (.head _)
   have b2:=g3 p2 (.tail _ (.head _))
   have b3:=g3 p3 (.tail _ (.tail _ (.head _)))
   have bi:(1:Int)≤1+i∧1+(i:Int)≤3:=⟨Int.le_add_of_nonneg_right (Int.natCast_nonneg i),Int.add_le_add_left (Int.ofNat_le.mpr (Nat.le_of_lt_succ hi)) 1⟩
   exact ⟨a1,rowE (1+i) p1 p2 p3,rfl,(by decide +kernel:(xyz).Nodup),(by decide:3≤900000),fun D hD=>⟨D,_,rfl,XL_nil (k D _ σ' g1 ⟨hD,_,p1,p2,p3,⟨bi,b1,b2,b3⟩,rfl⟩)⟩⟩
theorem law_rows (P:Pg f.c) (F:f.Ok (dfn 71).scope (d+2)) (Z:InBox f B L) (own:f.own=true) (cells:∀ x,(dfn 71).scope.names.lookup x=some .cell->∃ a,f.env.cells.lookup x=some a)
  {ρ:Ab}{σ:Box}{t:T}{nt:Bool} (hσ:Bx σ)
  (k:∀ ρ σ a ds nt,ds.length=3->(∀ t∈ds,IsRow t)->LX f (sets ρ [("rows",⟨.tabs a ds,true⟩),("term",⟨.val t.enc,nt⟩)]) σ ((dfn 71).body.drop 4)):LX f (sets ρ [("box",⟨.ref (.ref B),false⟩),("term",⟨.val t.enc,nt⟩)]) σ ((dfn 71).body.drop 2):=by
 have cb:∀ x∈(["box","turn"]:List Str),∃ a,f.env.cells.lookup x=some a:=fun x hx=>(List.mem_cons.mp hx).elim (fun e=>e▸cells _ rfl) fun h=>List.mem_singleton.mp h▸cells _ rfl
 refine LX_cons (XS_Assign F (.inl rfl) (EV_toTabs (EV_List F (EL_nil F ⟨[],rfl,by decide,fun a=>⟨a,rfl,.inl rfl,?_⟩⟩))))
 refine LX_cons (XS_For F (.inr ⟨own,rfl,cells _ rfl⟩) (ES_Range F rfl (EV_int F ⟨3,rfl,by decide,?_⟩)))
 refine ⟨fun i ρ σ=>Bx σ∧∃ u,Has ρ (wL B a t u)∧u.1.length=i∧∀ t∈u.1,IsRow t,⟨hσ,([],nt),⟨rfl,rfl,rfl,trivial⟩,rfl,nofun⟩,fun T K F2 i y ρ σ hy hJ=>?_,fun ρ σ hJ=>?_⟩
 ·obtain ⟨h1,⟨ds,nt⟩,H,h5,h6⟩:=hJ
  obtain ⟨hi,rfl⟩:=ups_get hy
  have h5:ds.length=i:=h5
  refine H.eq▸?_
  refine row_one (f:=f.pin T K) P F2 ⟨Z.z,Z.zok⟩ cb h1 hi (by refine h5▸?_;exact Nat.le_trans (Nat.le_of_lt hi) (by decide)) fun D es σ' b r=>⟨b,(ds ++ [(D,es)],nt),⟨rfl,rfl,rfl,trivial⟩,?_,fun t ht=>(List.mem_append.mp ht).elim (h6 t) fun h=>List.mem_singleton.mp h▸r⟩
  exact List.length_append.trans (congrArg (·+1) h5)
 ·obtain ⟨_,⟨ds,nt⟩,H,h5,h6⟩:=hJ
  exact LX_has (xs:=[("rows",⟨.tabs a ds,true⟩),("term",⟨.val t.enc,nt⟩)]) ⟨H.1,H.2.2.1,trivial⟩ (k ρ σ a ds nt h5 h6)
end
end
section
noncomputable def only (xs:List (Str×Slot)):Ab:=fun x=>(xs.lookup x).map fun s=>⟨s,false⟩
theorem only_old {xs:List (Str×Slot)}{y:Str}{r:RV} (h:only xs y=some r):r.new=false:=by
 obtain ⟨s,_,rfl⟩:=Option.map_eq_some_iff.mp h
 rfl
noncomputable def Kn (ρ:Ab):List (Str×Slot)->Prop
 | []=>True
 | (x,s) :: xs=>(∃ nw,ρ x=some ⟨s,nw⟩)∧Kn ρ xs
theorem Kn.of {ρ:Ab}{xs:List (Str×Slot)} (h:Kn ρ xs) (x:Str) (r:RV) (e:only xs x=some r):∃ r',ρ x=some r'∧r.sl=r'.sl∧r.new=false:=by
 induction xs with
 | nil=>exact non e
 | cons p xs ih =>
  unfold only at e ih
  rw [List.lookup_cons] at e
  cases q:x == p.1 with
  | true =>
   replace e:=q▸e
   cases Option.some.inj e
   obtain ⟨nw,k⟩:=h.1
   exact ⟨⟨p.2,nw⟩,eq_of_beq q▸k,rfl,rfl⟩
  | false =>
   replace e:=q▸e
   exact ih h.2 e
theorem LX_only {f:Fx}{ρ:Ab}{σ:Box}{sts:List Stmt}{xs:List (Str×Slot)} (h:Kn ρ xs) (k:LX f (only xs) σ sts):LX f ρ σ sts:=LX_forget h.of k
theorem set_old {ρ:Ab}{x y:Str}{v:PV}{r:RV} (h:∀ y r,ρ y=some r->r.new=false) (hy:Mine.set ρ x (.im v) y=some r):r.new=false:=by
 unfold Mine.set at hy
 split at hy
 ·cases Option.some.inj hy;rfl
 ·exact h _ _ hy
theorem ratio_row {p q:Int} (hq:1≤q):optP (ratioO p q)=ratP (Rat.divInt p q):=by
 refine (ratioO_ne (Int.ne_of_gt hq))▸?_;rfl
noncomputable def IsVal (t:Addr×List (Str×PV)):Prop:=∃ v,VOk v∧t.2=tabX v
section
variable {c:Cx}{f:Fx}{d:Nat}
theorem law_vals (P:Pg f.c) (F:f.Ok (dfn 71).scope (d+2)) {ρ:Ab}{σ:Box}{t:T}{nt nr:Bool}{a:Addr}{ds:List (Addr×List (Str×PV))} (h3:ds.length=3) (hds:∀ t∈ds,IsRow t)
  (k:∀ σ' a ts,ts.length=3->(∀ t∈ts,IsVal t)->LX f (only [("term",.val t.enc),("rows",.tabs a ts)]) σ' ((dfn 71).body.drop 5)):LX f (sets ρ [("rows",⟨.tabs a ds,nr⟩),("term",⟨.val t.enc,nt⟩)]) σ ((dfn 71).body.drop 4):=by
 refine LX_only (xs:=[("term",.val t.enc),("rows",.tabs a ds)]) ⟨⟨_,rfl⟩,⟨_,rfl⟩,trivial⟩ (LX_pins F (x:="rows") (a:=a) (ds:=ds) (nw:=false) rfl (fun _ y r _ hy hr=>nomatch (only_old hy).symm.trans hr) fun T K F1 hk hT=>?_)
 refine LX_cons (XS_AssignCompC F1 (CScopeC.of (by decide +kernel) (by decide +kernel)) rfl (fun g ho hc=>.name (.inr ⟨ho,by decide +kernel,hc "row" rfl⟩)) (ES.T F1 (ES_Name F1 (nw:=false) rfl (fun h=>nomatch h) ?_)))
 refine ⟨by rw [List.length_map];refine (h3 ..)▸?_;decide,fun y _=>⟨[y],rfl,rfl⟩,fun i ts σ=>ts.length=i∧∀ t∈ts,IsVal t,⟨rfl,fun t h=>(List.not_mem_nil h).elim⟩,fun g Sb G cg i y ts zs σ hy hzs hJ hl=>?_,fun ts σ' hJ a1=>?_⟩
 ·subst hzs
  rw [List.getElem?_map,Option.map_eq_some_iff] at hy
  obtain ⟨⟨D,es⟩,hD,rfl⟩:=hy
  have hm:=List.mem_of_getElem? hD
  obtain ⟨hsys,q,p1,p2,p3,hb,rfl⟩:=hds _ hm
  refine EV_retab (x:="row") (nw:=false) (knows_sub F1 G Sb (hk _ hm)) rfl (fun y r hy hr=>nomatch (set_old (ρ:=fun _=>none) (fun _ _ h=>by exact non h) hy).symm.trans hr) ?_
  refine EV_DictStr G rfl (EV_Comp G (CScope.of (by decide +kernel)) (fun x hx e=>?_) (fun g=>.name (.inl (by decide +kernel))) (by decide +kernel) (ES.T G (ES_Keys G (nw:=false) rfl (fun h=>nomatch h) hsys (fun e he=>?_) ?_)))
  ·exact (onlyFree "row" (by decide +kernel) x hx e).symm▸cg "row" rfl
  ·have:∀ x∈xyz,PyData.strOk x=true:=by decide +kernel
   exact this _ (List.mem_map.mpr ⟨e,he,rfl⟩:e.1∈(rowE q p1 p2 p3).map (·.1))
  ·have fr:∀ {c:Cx},Pg c->∀ p:Int,Fn c 1 "_law_ratio" [.val (.int p),.val (.int q)] (fun r=>r=⟨.val (ratP (Rat.divInt p q)),true⟩) False:=fun P p=>by
    have k:=fn_ratio P (p:=p) (q:=q) (Sm.of (k:=40) (by have:=hb.1;omega) (by decide))
    rwa [ratio_row hb.1.1] at k
   exact comp_map (ts:=xyz) (enc:=PV.str) (fun nm=>pairS (nm,ratP (qv q p1 p2 p3 nm))) (Sb.c▸P) (by decide) (fun g2 hc2 G2 P2 nm hnm=>by
    rcases List.mem_cons.mp hnm with rfl | h
    ·exact EV_v G2 P2 ((fr P2 p1).is ⟨_,rfl,rfl,rfl⟩)
    rcases List.mem_cons.mp h with rfl | h
    ·exact EV_v G2 P2 ((fr P2 p2).is ⟨_,rfl,rfl,rfl⟩)
    obtain rfl:=List.mem_singleton.mp h
    exact EV_v G2 P2 ((fr P2 p3).is ⟨_,rfl,rfl,rfl⟩)) fun a2=>⟨a2,tabX (qv q p1 p2 p3),rfl,(by decide +kernel:xyz.Nodup),(by decide:3≤900000),fun E hE=>⟨E,_,rfl,List.length_append.trans (congrArg (·+1) hJ.1),fun t ht=>(List.mem_append.mp ht).elim (hJ.2 t) fun h=>List.mem_singleton.mp h▸⟨_,⟨q,p1,p2,p3,hb,rfl⟩,rfl⟩⟩⟩
 ·rw [List.length_map,h3] at hJ
  refine LX_drop hT (LX_only ?_ (k σ' a1 ts hJ.1 hJ.2))
  exact ⟨⟨_,rfl⟩,⟨_,rfl⟩,trivial⟩
end
end
section
structure GoodU (c:Cx) (n:Nat) (t u:T):Prop where
 worth:∀ v,VOk v->∀ a,WorthFn c n v a u
 keeps:∀ v,VOk v->∀ x,ev v t=some x->ev v u=some x
 twice:Fn c n "simplify" [.val u.enc] (fun r=>r=⟨.val u.enc,true⟩) False
 back:Fn c n "simplify" [.val (turned t).enc] (fun r=>r=⟨.val u.enc,true⟩) False
 formed:FormFn c n u
 dp:u.enc.depth≤50
structure LawOk (c:Cx) (n:Nat) (t:T):Prop where
 worth:∀ v,VOk v->∀ a,WorthFn c n v a t
 turned:TurnFn c n t
 simp:SimpFn c n t
 bad:Fails t->∀ v,VOk v->ev v t=none
 good:∀ u,Simp t u->GoodU c n t u
noncomputable def dueV (t:T) (vs:List (Str->Rat)):List PV:=vs.map fun v=>optP (ev v t)
structure RowsV (ds:List (Addr×List (Str×PV))) (vs:List (Str->Rat)):Prop where
 len:vs.length=ds.length
 ok:∀ v∈vs,VOk v
 spot:∀ (i:Nat) D es,ds[i]?=some (D,es)->∃ v,vs[i]?=some v∧es=tabX v
theorem isval_list (ds:List (Addr×List (Str×PV))) (h:∀ t∈ds,IsVal t):∃ vs:List (Str->Rat),RowsV ds vs:=by
 induction ds with
 | nil=>exact ⟨[],rfl,fun v hv=>(List.not_mem_nil hv).elim,fun i D es h=>by exact non h⟩
 | cons d ds ih =>
  obtain ⟨vs,k⟩:=ih fun t ht=>h t (.tail _ ht)
  obtain ⟨v,hv,he⟩:=h d (.head _)
  refine ⟨v :: vs,congrArg (·+1) k.len,fun w hw=>(List.mem_cons.mp hw).elim (fun e=>e▸hv) (k.ok w),fun i D es hi=>?_⟩
  cases i with
  | zero=>cases Option.some.inj hi;exact ⟨v,rfl,he⟩
  | succ i=>exact k.spot i D es hi
theorem optP_nb (o:Option Rat):(optP o).nb=true:=by cases o <;> rfl
theorem optP_depth (o:Option Rat):(optP o).depth≤50:=by cases o <;> exact Nat.le_of_ble_eq_true rfl
theorem compAb_old {scope:Scope}{ρ:Ab} (y:Str) (r:RV) (h:compAb scope ρ y=some r):r.new=false:=by
 unfold compAb at h
 split at h
 ·obtain ⟨r0,_,rfl⟩:=Option.map_eq_some_iff.mp h;rfl
 ·exact non h
noncomputable def NF (ρ:Ab):Prop:=∀ y r,ρ y=some r->r.new=true->r.sl.fp=[]
theorem NF.set {ρ:Ab}{x:Str}{r:RV} (h:NF ρ) (hr:r.new=true->r.sl.fp=[]):NF (set ρ x r):=fun y q hy hq=>by
 unfold Mine.set at hy
 split at hy
 ·cases Option.some.inj hy;exact hr hq
 ·exact h y q hy hq
theorem NF.only (xs:List (Str×Slot)):NF (only xs):=fun y r hy hr=>by cases (only_old hy).symm.trans hr
section
variable {f:Fx}{n:Nat}{t u:T}{a b:Addr}{ds:List (Addr×List (Str×PV))}{vs:List (Str->Rat)}{σ:Box}
theorem law_due (P:Pg f.c) (F:f.Ok (dfn 71).scope (n+1)) (cells:∀ x,(dfn 71).scope.names.lookup x=some .cell->∃ a,f.env.cells.lookup x=some a) (hw:LawOk f.c n t) (h3:ds.length=3) (hds:∀ t∈ds,IsVal t)
  (k:∀ σ' vs b,RowsV ds vs->LX f (only [("term",.val t.enc),("rows",.tabs a ds),("due",.lst b (dueV t vs))]) σ' ((dfn 71).body.drop 6)):LX f (only [("term",.val t.enc),("rows",.tabs a ds)]) σ ((dfn 71).body.drop 5):=by
 obtain ⟨vs,hv⟩:=isval_list ds hds
 refine LX_pins F (x:="rows") (a:=a) (ds:=ds) (nw:=false) rfl (fun _ y r _ hy hr=>by cases (only_old hy).symm.trans hr) fun T K F1 hk hT=>?_
 refine LX_cons (XS_AssignComp F1 (CScope.of (by decide +kernel)) (fun x hx e=>?_) rfl (fun g=>.name (.inl (by decide +kernel))) (by decide +kernel) (ES.T F1 (ES_Name F1 (nw:=false) rfl (fun h=>nomatch h) ?_)) rfl rfl)
 ·exact (onlyFree "term" (by decide +kernel) x hx e).symm▸cells "term" rfl
 refine ⟨by rw [List.length_map];rw [h3];decide,fun y _=>⟨[y],rfl,rfl⟩,fun i ys σ=>ys=dueV t (vs.take i),rfl,fun g Sb G i y ys zs σ hy hzs hJ _=>?_,fun ys σ' hJ a1=>?_⟩
 ·subst hzs
  rw [List.getElem?_map,Option.map_eq_some_iff] at hy
  obtain ⟨⟨D,es⟩,hD,rfl⟩:=hy
  obtain ⟨v,hvi,rfl⟩:=hv.spot i D es hD
  refine EV_retab (x:="row") (nw:=false) (knows_sub F1 G Sb (hk _ (List.mem_of_getElem? hD))) rfl (fun y r hy hr=>?_) (EV_v G (Sb.c▸P) (Fn.is (Sb.c▸hw.worth v (hv.ok v (List.mem_of_getElem? hvi)) D:WorthFn g.c n v D t) ⟨_,rfl,?_⟩))
  ·cases (set_old compAb_old hy).symm.trans hr
  ·show ys ++ [optP (ev v t)]=dueV t (vs.take (i+1))
   refine hJ▸?_;refine List.take_add_one▸?_;refine hvi▸?_
   exact (List.map_append (f:=fun v=>optP (ev v t)) (l₂:=[v])).symm
 ·rw [List.length_map,← hv.len,List.take_length] at hJ
  subst hJ
  refine LX_unpin F1 hT (x:="rows") (nw:=false) rfl hk (LX_only ?_ (k σ' vs a1 hv))
  exact ⟨⟨_,rfl⟩,⟨_,rfl⟩,⟨_,rfl⟩,trivial⟩
theorem law_ret (P:Pg f.c) (F:f.Ok (dfn 71).scope (n+1)) (hZ:f.Z=[]) {ρ:Ab}{nt nm:Bool} (hw:LawOk f.c n t) (gu:GoodU f.c n t u):LX f (sets ρ [("term",⟨.val t.enc,nt⟩),("made",⟨.val u.enc,nm⟩)]) σ ((dfn 71).body.drop 8) :=
 LX_end (fun a ha=>by replace ha:=hZ▸ha;cases ha) (XL_v F P (gu.twice.is (q_vv u.enc_nb u.enc_nb (.inl gu.dp) (bT rfl (Fn.is hw.turned (gu.back.is (q_vv u.enc_nb u.enc_nb (.inl gu.dp) (bT rfl (Fn.is gu.formed rfl)))))))))
noncomputable def oI (t u:T) (b D:Addr) (vs:List (Str->Rat)) (v:Str->Rat) (i:Nat) (w:Bool×Bool×Bool):List (Str×RV):=[("term",⟨.val t.enc,w.1⟩),("made",⟨.val u.enc,w.2.1⟩),("due",⟨.lst b (dueV t vs),w.2.2⟩),("at",.im (.int i)),("row",⟨.tab D (tabX v),false⟩)]
theorem law_body (P:Pg f.c) (F:f.Ok (dfn 71).scope (n+1)) {v:Str->Rat}{D:Addr}{i:Nat} (worth:WorthFn f.c n v D u) (keeps:∀ x,ev v t=some x->ev v u=some x) (hv:vs[i]?=some v) (hi:i < 3) {ρ:Ab}{w:Bool×Bool×Bool}{R:RV->Box->Prop}{N:Ab->Box->Prop}
  (h:∀ r,r.sl.fp=[]->N (set (sets ρ (oI t u b D vs v i w)) "told" r) σ):XL f (sets ρ (oI t u b D vs v i w)) σ (forB (hdS ((dfn 71).body.drop 7))) N R False:=by
 have due:(dueV t vs)[((i:Int)).toNat]?=some (optP (ev v t)):=by
  show (vs.map _)[i]?=_
  refine (List.getElem?_map)▸?_;refine hv▸?_;rfl
 have hi:=lt63 hi (by decide)
 unfold WorthFn at worth
 cases hx:ev v t with
 | none =>
  replace due:=hx▸due
  exact XL_v F P (worth.is (s_lst due (q_isnot (h _ rfl)) (Int.natCast_nonneg i) hi))
 | some x =>
  replace due:=hx▸due
  replace worth:=(keeps x hx)▸worth
  exact XL_v F P (worth.is (s_lst due (q_isnot (both_t rfl (s_lst due (q_vvn (optP_nb _) (optP_nb _) (.inl (optP_depth _)) (bT rfl (h _ rfl))) (Int.natCast_nonneg i) hi))) (Int.natCast_nonneg i) hi))
theorem law_for (P:Pg f.c) (F:f.Ok (dfn 71).scope (n+1)) (hZ:f.Z=[]) (hw:LawOk f.c n t) (gu:GoodU f.c n t u) (h3:ds.length=3) (hv:RowsV ds vs):LX f (only [("term",.val t.enc),("rows",.tabs a ds),("due",.lst b (dueV t vs)),("made",.val u.enc)]) σ ((dfn 71).body.drop 7):=by
 refine LX_pins F (x:="rows") (a:=a) (ds:=ds) (nw:=false) rfl (fun _ y r _ hy hr=>by cases (only_old hy).symm.trans hr) fun T K F1 hk hT=>?_
 refine LX_cons (XS_ForT F1 (names:=["at","row"]) (fun g hg=>.pair (hg▸.inl rfl) (hg▸.inl rfl)) (EST_enumerate F1 rfl rfl (x:="rows") (nw:=false) rfl (fun _=>rfl) ?_))
 refine ⟨fun y hy=>?_,fun i ρ σ=>NF ρ∧Kn ρ [("term",.val t.enc),("made",.val u.enc),("due",.lst b (dueV t vs))],⟨(NF.only _).set (fun h=>by cases h),⟨_,rfl⟩,⟨_,rfl⟩,⟨_,rfl⟩,trivial⟩,fun T2 K2 F2 i y zs ρ σ hy hzs hJ=>?_,fun ρ σ hJ=>?_⟩
 ·obtain ⟨i,hi⟩:=List.mem_iff_getElem?.mp hy
  obtain ⟨v,_,rfl⟩:=enumP_get hi
  exact ⟨_,⟨_,_,rfl,rfl⟩⟩
 ·obtain ⟨hn,⟨nt,h2⟩,⟨nm,h3'⟩,⟨nd,h4⟩,_⟩:=hJ
  obtain ⟨v0,hv0,rfl⟩:=enumP_get hy
  obtain ⟨a0,b0,e1,rfl⟩:=hzs
  cases e1
  rw [List.getElem?_map,Option.map_eq_some_iff] at hv0
  obtain ⟨⟨D,es⟩,hD,rfl⟩:=hv0
  obtain ⟨v,hvi,rfl⟩:=hv.spot i D es hD
  have hvok:=hv.ok v (List.mem_of_getElem? hvi)
  have n1:NF (setAll ρ ["at","row"] ([PV.int i,PV.ref D].map RV.im)):=(hn.set (r:=.im (.int i)) fun h=>by cases h).set (r:=.im (.ref D)) fun h=>by cases h
  have n2:NF (set (setAll ρ ["at","row"] ([PV.int i,PV.ref D].map RV.im)) "row" ⟨.tab D (tabX v),false⟩):=n1.set fun h=>by cases h
  refine XL_retab (x:="row") (nw:=false) (D:=D) (es:=tabX v) (knows_pin F2 (hk _ (List.mem_of_getElem? hD))) rfl (fun y r hy hr=>by refine (n1 y r hy hr)▸?_;exact List.not_mem_nil) ?_
  have H:Has (set (setAll ρ ["at","row"] ([PV.int i,PV.ref D].map RV.im)) "row" ⟨.tab D (tabX v),false⟩) (oI t u b D vs v i (nt,nm,nd)):=⟨h2,h3',h4,rfl,rfl,trivial⟩
  refine XL_has H (law_body (f:=(f.pin T K).pin T2 K2) P F2 (gu.worth v hvok D) (gu.keeps v hvok) hvi (by refine h3▸?_;exact (List.getElem?_eq_some_iff.mp hD).1) fun r hr=>⟨(H.eq▸n2:NF (sets _ _)).set fun _=>hr,⟨_,rfl⟩,⟨_,rfl⟩,⟨_,rfl⟩,trivial⟩)
 ·obtain ⟨_,⟨nt,h2⟩,⟨nm,h3⟩,_⟩:=hJ
  exact LX_has (xs:=[("term",⟨.val t.enc,nt⟩),("made",⟨.val u.enc,nm⟩)]) ⟨h2,h3,trivial⟩ (law_ret (f:=f.pin T K) P F1 hZ hw gu)
theorem law_try (P:Pg f.c) (K:Rc f.c) (F:f.Ok (dfn 71).scope (n+1)) (hZ:f.Z=[]) (hH:Kp f.H.heap f.c.base) (hw:LawOk f.c n t) (h3:ds.length=3) (hv:RowsV ds vs):LX f (only [("term",.val t.enc),("rows",.tabs a ds),("due",.lst b (dueV t vs))]) σ ((dfn 71).body.drop 6):=by
 refine LX_try F K hH (tx:=t.enc) (nx:=false) (nz:=false) (a:=b) (ys:=dueV t vs) (X:=Fails t) rfl rfl rfl (.inl rfl) rfl (Pg.isFn P 61 (by decide +kernel)) rfl (hw.simp _ _ (fun u hs=>LX_only ?_ (law_for (a:=a) (b:=b) P F hZ hw (hw.good u hs) h3 hv)) id) fun hf=>?_
 ·exact ⟨⟨_,rfl⟩,⟨_,rfl⟩,⟨_,rfl⟩,⟨_,rfl⟩,trivial⟩
 ·have e:dueV t vs=vs.map fun _=>PV.none:=List.map_congr_left fun v h=>by refine (hw.bad hf v (hv.ok v h))▸?_;rfl
  refine e▸?_;refine List.map_const'▸?_;refine hv.len▸?_;refine h3▸?_;rfl
end
theorem law_walk {c:Cx}{n:Nat} (hn:20≤n) (P:Pg c) (K:Rc c) (hw:∀ t,Raw 3 t->LawOk c n t) {A:Around}{frs:List Env}{s:Shared}{fa a:Addr}{ks:List Int} (hs:Kp s.heap c.base)
  (hm:c.mg "law"=some (.ref fa)) (E:CallEnv c A frs (n+2) s) (ha:ListAt s.heap a (ks.map PV.int)) (hk:ks.length≤1000):wpAny (model c.prog c.w) A (call (.ref fa) [.ref a]) (fun r s'=>LP s (.ret r) s') (fun _ _=>False) s:=by
 obtain ⟨m,rfl⟩:=Nat.exists_eq_add_of_le' (Nat.le_trans (by decide:1≤20) hn)
 refine enterLaw (x:="script") (a:=.lst a (ks.map PV.int)) (P.at "law" 71) hs hm E ⟨rfl,ha⟩ fun f i=>?_
 obtain ⟨⟨F,rfl,own,cells,hZ⟩,hH,hzok⟩:=i
 have lk:(ks.map PV.int).length≤1000000:=by rw [List.length_map];exact Nat.le_trans hk (by decide)
 refine LX_boxed F hZ (.inr ⟨own,rfl,cells "box" rfl⟩) (EV_v F P ((fn_law_box P hk).mono (Nat.le_add_left ..) (fun r _ ⟨B,L,τ,hτ,hr⟩=>⟨B,L,τ,hr,fun F2=>?_⟩) id)) (swaps_false F rfl)
 have hB:∀ a∈[B,L],f.H.heap.get? a=none:=fun a ha=>by
  cases q:f.H.heap.get? a with
  | none=>rfl
  | some o=>have:=hH a o q;exact nob (F2.zbase a ha) this
 have rest:∀ ρ σ t nt,Raw 3 t->Bx σ->LX (f.bx B L) (sets ρ [("box",⟨.ref (.ref B),false⟩),("term",⟨.val t.enc,nt⟩)]) σ ((dfn 71).body.drop 2):=fun ρ σ t nt ht hσ =>
  law_rows (f:=f.bx B L) P F2 ⟨rfl,rfl⟩ own cells hσ fun ρ σ' a ds nt h5 h6=>LX_unbox (σ:=([],0)) hZ hzok hB (law_vals P F h5 h6 fun σ' a ts h7 h8 =>
   law_due P F cells (hw t ht) h7 h8 fun σ' vs b hv=>law_try P K F hZ hH (hw t ht) h7 hv)
 refine LX_cons (XS.cut (N':=fun ρ' σ'=>∃ t nt,Raw 3 t∧Bx σ'∧Has ρ' [("box",⟨.ref (.ref B),false⟩),("term",⟨.val t.enc,nt⟩)]) ?_ fun ρ' σ' hq_=>by obtain ⟨t,nt,h1,h2,H⟩:=hq_;exact LX_has H (rest ρ' σ' t nt h1 h2))
 have F3:(f.bx B L).Ok (dfn 71).scope (m+1+1):=F2
 refine XS_Assign F3 (.inr ⟨own,rfl,cells "term" rfl⟩) (EV_v F3 P ⟨_,_,rfl,rfl,t_lenL lk (dec_both (fun _=>?_) fun _=>?_)⟩) (swaps_false F3 rfl)
 ·exact (fn_term P 3 τ hτ _ fun t τ hr hb=>⟨.inl rfl,t,true,hr,hb,rfl,rfl,trivial⟩).mono (Nat.le_trans (Nat.le_of_ble_eq_true rfl) hn) fun _ _ _ h=>h
 ·exact (fn_term P 2 τ hτ _ fun t τ hr hb=>⟨.inl rfl,t,true,hr.step,hb,rfl,rfl,trivial⟩).mono (Nat.le_trans (Nat.le_of_ble_eq_true rfl) hn) fun _ _ _ h=>h
end
section
theorem nm_rest (a:Rat):(T.nm a).rest=ONE:=rfl
noncomputable def Gs (es l:List (T×Rat)):List (T×Rat):=l.foldl (fun es x=>putT es x.1 ((lookT es x.1).getD 0+x.2)) es
noncomputable abbrev G (l:List (T×Rat)):List (T×Rat):=Gs [] l
theorem look_nil {k:T}:lookT [] k=none:=rfl
open Classical in
theorem look_put' (es:List (T×Rat)) (t k:T) (r:Rat):lookT (putT es t r) k=if k=t then some r else lookT es k:=by
 by_cases h:k=t
 ·refine (if_pos h)▸?_;refine h.symm▸?_;exact look_put es t r
 ·refine (if_neg h)▸?_
  unfold putT
  split
  ·unfold lookT
   refine (List.find?_map)▸?_
   have:es.find? ((fun x=>decide (x.1=k)) ∘ fun x=>if x.1=t then (x.1,r) else x)=es.find? fun x=>decide (x.1=k):=by
    congr 1
    funext x
    show decide ((if x.1=t then (x.1,r) else x).1=k)=_
    split <;> rfl
   refine this.symm▸?_
   cases q:es.find? fun x=>decide (x.1=k) with
   | none=>rfl
   | some x =>
    have hk:x.1=k:=by simpa using List.find?_some q
    show some (if x.1=t then (x.1,r) else x).2=some x.2
    rw [if_neg (by rw [hk];exact h)]
  ·unfold lookT
   refine (List.find?_append)▸?_
   have:List.find? (fun x=>decide (x.1=k)) [(t,r)]=none:=by simp [Ne.symm h]
   refine this▸?_;exact Option.or_none▸rfl
open Classical in
theorem look_mem {es:List (T×Rat)} (h:(es.map (·.1)).Nodup) {t:T}{r:Rat}:lookT es t=some r↔(t,r)∈es:=by
 unfold lookT
 induction es with
 | nil=>simp
 | cons x es ih =>
  rw [List.map_cons,List.nodup_cons] at h
  refine (List.find?_cons)▸?_
  by_cases hx:x.1=t
  ·subst hx
   simp only [decide_true,Option.map_some,Option.some.injEq,List.mem_cons]
   constructor
   ·rintro rfl;exact .inl rfl
   ·rintro (e | e)
    ·exact e▸rfl
    ·exact absurd (List.mem_map.mpr ⟨_,e,rfl⟩) h.1
  ·simp only [hx,decide_false,List.mem_cons]
   rw [ih h.2]
   constructor
   ·exact .inr
   ·rintro (e | e)
    ·exact absurd (by exact e▸rfl) hx
    ·exact e
open Classical in
noncomputable def sumOf (l:List (T×Rat)) (k:T):Rat:=l.foldr (fun x s=>if x.1=k then x.2+s else s) 0
theorem keys_iff {es:List (T×Rat)}{k:T}:k∈es.map (·.1)↔∃ r,lookT es k=some r:=by
 cases h:lookT es k with
 | none=>simpa using lookT_none.mp h
 | some r =>
  constructor
  ·exact fun _=>⟨r,rfl⟩
  ·intro _
   apply Classical.byContradiction
   intro hn
   exact nob (lookT_none.mpr hn) h
theorem Gs_nodup:∀ (l es:List (T×Rat)),(es.map (·.1)).Nodup->((Gs es l).map (·.1)).Nodup
 | [],es,h=>h
 | x :: l,es,h=>Gs_nodup l _ (putT_keys _ _ h)
open Classical in
theorem Gs_look:∀ (l es:List (T×Rat)) (k:T),lookT (Gs es l) k=if k∈es.map (·.1)∨k∈l.map (·.1) then some ((lookT es k).getD 0+sumOf l k) else none
 | [],es,k=>by
  show lookT es k=_
  cases h:lookT es k with
  | none =>
   have:=lookT_none.mp h
   rw [if_neg]
   rintro (q | q)
   ·exact this q
   ·cases q
  | some r =>
   rw [if_pos (.inl (keys_iff.mpr ⟨r,h⟩))]
   show some r=some (r+0)
   rw [Rat.add_zero]
 | x :: l,es,k=>by
  show lookT (Gs (putT es x.1 _) l) k=_
  rw [Gs_look l]
  by_cases hx:k=x.1
  ·subst hx
   rw [look_put'];rw [if_pos rfl];rw [if_pos (.inl (keys_iff.mpr ⟨_,by rw [look_put'];rw [if_pos rfl]⟩))];rw [if_pos (.inr (List.mem_map.mpr ⟨x,.head _,rfl⟩))]
   unfold sumOf
   rw [List.foldr_cons];rw [if_pos rfl]
   simp only [Option.getD_some]
   rw [Rat.add_assoc]
  ·have h1:k∈(putT es x.1 ((lookT es x.1).getD 0+x.2)).map (·.1)↔k∈es.map (·.1):=by
    rw [keys_iff];rw [keys_iff];rw [look_put'];rw [if_neg hx]
   have h2:k∈(x :: l).map (·.1)↔k∈l.map (·.1):=by
    rw [List.map_cons];rw [List.mem_cons]
    exact ⟨fun h=>h.resolve_left hx,.inr⟩
   have h3:sumOf (x :: l) k=sumOf l k:=by
    unfold sumOf
    rw [List.foldr_cons];rw [if_neg (Ne.symm hx)]
   rw [look_put'];rw [if_neg hx];rw [h3]
   simp only [h1,h2]
theorem G_nodup (l:List (T×Rat)):((G l).map (·.1)).Nodup:=Gs_nodup l [] List.nodup_nil
theorem nodup_of_keys {es:List (T×Rat)} (h:(es.map (·.1)).Nodup):es.Nodup:=by
 induction es with
 | nil=>exact List.nodup_nil
 | cons x es ih =>
  rw [List.map_cons,List.nodup_cons] at h
  exact List.nodup_cons.mpr ⟨fun hm=>h.1 (List.mem_map.mpr ⟨x,hm,rfl⟩),ih h.2⟩
set_option tactic.hygienic true in
theorem G_mem {l:List (T×Rat)}{k:T}{c:Rat}:(k,c)∈G l↔k∈l.map (·.1)∧c=sumOf l k:=by
 rw [← look_mem (G_nodup l)];rw [Gs_look]
 constructor
 ·intro h
  split at h
  ·rename_i q
   have:=Option.some.inj h
   exact ⟨q.resolve_left (fun h=>(List.not_mem_nil h).elim),by refine this▸?_;refine look_nil▸?_;show (0:Rat)+_=_;exact (Rat.zero_add ..)▸rfl⟩
  ·exact non h
 ·rintro ⟨h1,rfl⟩
  rw [if_pos (.inr h1)];refine look_nil▸?_
  show some (0+_)=_
  exact (Rat.zero_add ..)▸rfl
theorem sumOf_perm {l l':List (T×Rat)} (p:l.Perm l') (k:T):sumOf l k=sumOf l' k:=by
 unfold sumOf
 induction p with
 | nil=>rfl
 | cons x _ ih=>rw [List.foldr_cons];rw [List.foldr_cons];rw [ih]
 | swap x y l =>
  simp only [List.foldr_cons]
  split <;> split <;> first | rfl | (rw [← Rat.add_assoc,← Rat.add_assoc,Rat.add_comm y.2 x.2])
 | trans _ _ i1 i2=>rw [i1];rw [i2]
theorem G_perm {l l':List (T×Rat)} (p:l.Perm l'):(G l).Perm (G l'):=by
 rw [List.perm_ext_iff_of_nodup (nodup_of_keys (G_nodup l)) (nodup_of_keys (G_nodup l'))]
 rintro ⟨k,c⟩
 rw [G_mem];rw [G_mem];rw [sumOf_perm p];rw [(p.map (·.1)).mem_iff]
theorem sumOf_none {l:List (T×Rat)}{k:T} (h:k∉l.map (·.1)):sumOf l k=0:=by
 unfold sumOf
 induction l with
 | nil=>rfl
 | cons x l ih =>
  rw [List.map_cons,List.mem_cons,not_or] at h
  rw [List.foldr_cons];rw [if_neg (Ne.symm h.1)]
  exact ih h.2
open Classical in
theorem sumOf_nodup {l:List (T×Rat)} (h:(l.map (·.1)).Nodup) {k:T}{c:Rat} (hm:(k,c)∈l):sumOf l k=c:=by
 induction l with
 | nil=>cases hm
 | cons x l ih =>
  rw [List.map_cons,List.nodup_cons] at h
  have ex:sumOf (x :: l) k=if x.1=k then x.2+sumOf l k else sumOf l k:=rfl
  refine ex▸?_
  rcases List.mem_cons.mp hm with e | hm
  ·subst e
   refine (if_pos rfl)▸?_;refine (sumOf_none h.1)▸?_;exact (Rat.add_zero ..)▸rfl
  ·rw [if_neg];rw [ih h.2 hm]
   rintro rfl
   exact h.1 (List.mem_map.mpr ⟨_,hm,rfl⟩)
theorem G_id {l:List (T×Rat)} (h:(l.map (·.1)).Nodup):(G l).Perm l:=by
 rw [List.perm_ext_iff_of_nodup (nodup_of_keys (G_nodup l)) (nodup_of_keys h)]
 rintro ⟨k,c⟩
 rw [G_mem]
 constructor
 ·rintro ⟨h1,rfl⟩
  obtain ⟨⟨k',c'⟩,hm,rfl⟩:=List.mem_map.mp h1
  refine (sumOf_nodup h hm).symm▸?_;exact hm
 ·intro hm
  exact ⟨List.mem_map.mpr ⟨_,hm,rfl⟩,(sumOf_nodup h hm).symm⟩
structure Mon (α:Type) where
 op:α->α->α
 e:α
 R:α->α->Prop
 comm:∀ a b,op a b=op b a
 assoc:∀ a b c,op (op a b) c=op a (op b c)
 unit:∀ a,op e a=a
 refl:∀ a,R a a
 trans:∀ a b c,R a b->R b c->R a c
 mono:∀ a b c,R a b->R (op a c) (op b c)
variable {α:Type}
noncomputable def Mon.fold (M:Mon α) (φ:T->Rat->α) (l:List (T×Rat)):α:=l.foldr (fun x s=>M.op (φ x.1 x.2) s) M.e
theorem Mon.fold_cons (M:Mon α) (φ:T->Rat->α) (x:T×Rat) (l:List (T×Rat)):M.fold φ (x :: l)=M.op (φ x.1 x.2) (M.fold φ l):=rfl
theorem Mon.fold_append (M:Mon α) (φ:T->Rat->α) (l l':List (T×Rat)):M.fold φ (l ++ l')=M.op (M.fold φ l) (M.fold φ l'):=by
 induction l with
 | nil=>exact (M.unit _).symm
 | cons x l ih=>rw [List.cons_append];rw [M.fold_cons];rw [M.fold_cons];rw [ih];rw [M.assoc]
theorem Mon.fold_perm (M:Mon α) (φ:T->Rat->α) {l l':List (T×Rat)} (p:l.Perm l'):M.fold φ l=M.fold φ l':=by
 induction p with
 | nil=>rfl
 | cons x _ ih=>refine (M.fold_cons ..)▸?_;rw [M.fold_cons];exact ih▸rfl
 | swap x y l=>simp only [M.fold_cons];refine (M.assoc ..)▸?_;refine (M.assoc ..)▸?_;exact (M.comm (φ y.1 y.2) ..)▸rfl
 | trans _ _ i1 i2=>refine i1▸?_;exact i2▸rfl
open Classical in
theorem Mon.fold_put (M:Mon α) (φ:T->Rat->α) {es:List (T×Rat)} (hk:(es.map (·.1)).Nodup) {t:T}{c:Rat} (h0:φ t (0+c)=φ t c) (hadd:∀ a,(t,a)∈es->M.R (φ t (a+c)) (M.op (φ t a) (φ t c))) :
  M.R (M.fold φ (putT es t ((lookT es t).getD 0+c))) (M.op (M.fold φ es) (φ t c)):=by
 unfold putT
 cases q:lookT es t with
 | none =>
  simp only [Option.isSome_none,Bool.false_eq_true,if_false,Option.getD_none]
  rw [M.fold_append];rw [M.fold_cons]
  show M.R (M.op _ (M.op (φ t (0+c)) M.e)) _
  rw [h0];rw [M.comm (φ t c) M.e];rw [M.unit]
  exact M.refl _
 | some v =>
  simp only [Option.isSome_some,if_true,Option.getD_some]
  have hm:=(look_mem hk).mp q
  clear q
  induction es with
  | nil=>cases hm
  | cons x es ih =>
   rw [List.map_cons,List.nodup_cons] at hk
   rw [List.map_cons];rw [M.fold_cons];rw [M.fold_cons]
   rcases List.mem_cons.mp hm with e | hm
   ·subst e
    have:es.map (fun x=>if x.1=t then (x.1,v+c) else x)=es:=by
     rw [List.map_congr_left (g:=id)];rw [List.map_id]
     intro y hy
     rw [if_neg];rfl
     intro e
     exact hk.1 (List.mem_map.mpr ⟨y,hy,e⟩)
    rw [this]
    rw [if_pos rfl];rw [M.assoc];rw [M.comm (M.fold φ es)];rw [← M.assoc]
    exact M.mono _ _ _ (hadd v (.head _))
   ·have hx:x.1≠t:=fun e=>hk.1 (e▸List.mem_map.mpr ⟨_,hm,rfl⟩)
    rw [if_neg hx];rw [M.assoc];rw [M.comm (φ x.1 x.2)];rw [M.comm (φ x.1 x.2)]
    exact M.mono _ _ _ (ih hk.2 (fun a ha=>hadd a (.tail _ ha)) hm)
set_option tactic.hygienic true in
theorem Mon.fold_Gs (M:Mon α) (φ:T->Rat->α) (Pk:T->Rat->Prop) (hP:∀ k a c,Pk k a->Pk k c->Pk k (a+c)) (hadd:∀ k a c,Pk k a->Pk k c->M.R (φ k (a+c)) (M.op (φ k a) (φ k c))) :
  ∀ (l es:List (T×Rat)),(es.map (·.1)).Nodup->(∀ x∈es,Pk x.1 x.2)->(∀ x∈l,Pk x.1 x.2)->M.R (M.fold φ (Gs es l)) (M.op (M.fold φ es) (M.fold φ l))∧∀ x∈Gs es l,Pk x.1 x.2
 | [],es,hk,h1,h2=>by
  refine ⟨?_,h1⟩
  show M.R (M.fold φ es) (M.op (M.fold φ es) M.e)
  refine (M.comm ..)▸?_;refine (M.unit ..)▸?_;exact M.refl _
 | x :: l,es,hk,h1,h2=>by
  have p1:∀ y∈putT es x.1 ((lookT es x.1).getD 0+x.2),Pk y.1 y.2:=fun y hy=>by
   have hk':=putT_keys x.1 ((lookT es x.1).getD 0+x.2) hk
   have:=(look_mem hk').mpr (show (y.1,y.2)∈_ from hy)
   rw [look_put'] at this
   split at this
   ·rename_i e
    have e2:=Option.some.inj this
    refine e2▸?_;refine e.symm▸?_
    cases q:lookT es x.1 with
    | none=>show Pk x.1 (0+x.2);refine (Rat.zero_add ..)▸?_;exact h2 x (.head _)
    | some v=>exact hP _ _ _ (h1 (x.1,v) ((look_mem hk).mp q)) (h2 x (.head _))
   ·exact h1 (y.1,y.2) ((look_mem hk).mp this)
  obtain ⟨i1,i2⟩:=Mon.fold_Gs M φ Pk hP hadd l _ (putT_keys _ _ hk) p1 fun y hy=>h2 y (.tail _ hy)
  refine ⟨M.trans _ _ _ i1 ?_,i2⟩
  refine (M.fold_cons ..)▸?_;refine (M.assoc ..)▸?_
  refine M.mono _ _ _ (M.fold_put φ hk (by exact (Rat.zero_add ..)▸rfl) fun a ha=>hadd _ _ _ (h1 _ ha) (h2 x (.head _)))
theorem Mon.fold_G (M:Mon α) (φ:T->Rat->α) (Pk:T->Rat->Prop) (hP:∀ k a c,Pk k a->Pk k c->Pk k (a+c)) (hadd:∀ k a c,Pk k a->Pk k c->M.R (φ k (a+c)) (M.op (φ k a) (φ k c))) (l:List (T×Rat)) (h:∀ x∈l,Pk x.1 x.2) :
  M.R (M.fold φ (G l)) (M.fold φ l)∧∀ x∈G l,Pk x.1 x.2:=by
 obtain ⟨h1,h2⟩:=Mon.fold_Gs M φ Pk hP hadd l [] List.nodup_nil (fun x hx=>(List.not_mem_nil hx).elim) h
 refine ⟨?_,h2⟩
 have:M.op (M.fold φ []) (M.fold φ l)=M.fold φ l:=M.unit _
 rwa [this] at h1
theorem count_G (ps:List T):count ps=G (ps.map fun p=>(p.rest,p.cf)):=by
 unfold count G Gs
 refine List.foldl_map.symm▸?_;rfl
theorem countE_G (ps:List T):countE ps=G ((ps.filter fun p=>!p.isNum).map fun p=>(p.base,p.exp.val)):=by
 unfold countE G Gs
 refine List.foldl_map.symm▸?_;refine List.foldl_filter.symm▸?_
 congr 1
 funext es p
 unfold addE
 cases p.isNum <;> rfl
end
section
noncomputable def Fc (f:T):Prop:=Atom f∨∃ b j,f=.pow b (T.nm j)∧Atom b∧j.den=1∧j≠0∧j≠1
noncomputable def hdP (q:Rat):List T:=if q=1 then [] else [T.nm q]
noncomputable abbrev Le (a b:T):Prop:=T.le a b=true
inductive Nf:T->Prop
 | num (r:Rat):Nf (T.nm r)
 | sym (x:Str):Nf (.sym x)
 | pow {b:T}{j:Rat}:Atom b->Nf b->j.den=1->j≠0->j≠1->Nf (.pow b (T.nm j))
 | sum {us:List T}{q:Rat}:(∀ u∈us,Nf u)->(∀ u∈us,u.isNum=false∧u.isSum=false)->(us.map T.rest).Nodup->us.Pairwise Le->2≤(us ++ tailS q).length->Nf (.sum (us ++ tailS q))
 | prod {us:List T}{q:Rat}:q≠0->(∀ u∈us,Nf u)->(∀ u∈us,Fc u)->(us.map T.base).Nodup->us.Pairwise Le->2≤(hdP q ++ us).length->Nf (.prod (hdP q ++ us))
theorem Fc.facts {f:T} (h:Fc f):f.isNum=false∧f.isProd=false∧Atom f.base∧(∃ j:Rat,f.exp=T.nm j∧j.den=1∧j≠0):=by
 rcases h with h | ⟨b,j,rfl,hb,hj,h0,h1⟩
 ·refine ⟨h.num,h.prod,?_,1,?_,rfl,by decide⟩
  ·cases f with
   | pow b e=>exact absurd rfl (h.pow b e)
   | _=>exact h
  ·cases f with
   | pow b e=>exact absurd rfl (h.pow b e)
   | _=>rfl
 ·exact ⟨rfl,rfl,hb,j,rfl,hj,h0⟩
theorem Fc.bare {f:T} (h:Fc f):f.bare=[f]∧f.front=1∧f.rest=f∧f.cf=1∧f.facs=[f]:=by
 rcases h with h | ⟨b,j,rfl,_⟩
 ·have h1:=h.num
  have h2:=h.prod
  cases f with
  | num p q=>cases h1
  | prod ts=>cases h2
  | _=>exact ⟨rfl,rfl,rfl,rfl,rfl⟩
 ·exact ⟨rfl,rfl,rfl,rfl,rfl⟩
set_option tactic.hygienic true in
theorem powT_Fc {b:T}{e:Rat} (hb:Atom b) (he:e.den=1) (h0:e≠0):Fc (powT b e)∧(powT b e).base=b∧(powT b e).exp.val=e:=by
 have one:(T.num 1 1).val=1:=by decide +kernel
 have hbase:b.base=b∧b.exp=.num 1 1:=by
  cases b with
  | pow b e=>exact absurd rfl (hb.pow b e)
  | _=>exact ⟨rfl,rfl⟩
 unfold powT
 refine (if_neg h0)▸?_
 split
 ·rename_i h1
  exact ⟨.inl hb,hbase.1,by refine hbase.2▸?_;refine one▸?_;exact h1▸rfl⟩
 ·rename_i h1
  exact ⟨.inr ⟨b,e,rfl,hb,he,h0,h1⟩,rfl,T.val_nm e⟩
theorem Fc.pow_eq {f:T} (h:Fc f):powT f.base f.exp.val=f:=by
 have one:(T.num 1 1).val=1:=by decide +kernel
 rcases h with h | ⟨b,j,rfl,_,_,h0,h1⟩
 ·have:f.base=f∧f.exp=.num 1 1:=by
   cases f with
   | pow b e=>exact absurd rfl (h.pow b e)
   | _=>exact ⟨rfl,rfl⟩
  refine this.1.symm▸?_;refine this.2.symm▸?_;refine one.symm▸?_
  unfold powT
  rw [if_neg (by decide)];exact (if_pos rfl).symm▸rfl
 ·show powT b (T.nm j).val=_
  rw [T.val_nm]
  unfold powT
  refine (if_neg h0).symm▸?_;exact (if_neg h1).symm▸rfl
theorem Nf.base {f:T} (h:Nf f) (hf:Fc f):Nf f.base:=by
 rcases hf with hf | ⟨b,j,rfl,_⟩
 ·have:f.base=f:=by
   cases f with
   | pow b e=>exact absurd rfl (hf.pow b e)
   | _=>rfl
  refine this.symm▸?_;exact h
 ·generalize e:T.pow b (T.nm j)=t at h
  cases h with
  | pow hb hn =>
   injection e with e1 e2
  | _=>cases e
set_option tactic.hygienic true in
theorem powT_NF {b:T}{e:Rat} (hb:Atom b) (hn:Nf b) (he:e.den=1) (h0:e≠0):Nf (powT b e):=by
 unfold powT
 rw [if_neg h0]
 split
 ·exact hn
 ·rename_i h1;exact .pow hb hn he h0 h1
structure Rep (us:List T):Prop where
 ne:us≠[]
 nf:∀ u∈us,Nf u
 fc:∀ u∈us,Fc u
 nd:(us.map T.base).Nodup
 so:us.Pairwise Le
theorem closeP_many {us:List T} (h:2≤us.length) {q:Rat} (h0:q≠0):closeP us q=.prod (hdP q ++ us):=by
 match us,h with
 | a :: b :: us,_ =>
  show withN q (.prod (a :: b :: us))=_
  unfold withN hdP
  rw [if_neg (by rintro (h | h);exact h0 h;cases h)]
  split <;> rfl
theorem Fc.ne_one {f:T} (h:Fc f):f≠ONE:=by
 rintro rfl
 have:=h.facts.1
 cases this
theorem closeP_one {x:T} (hx:Fc x) {q:Rat} (h0:q≠0):closeP [x] q=if q=1 then x else .prod [T.nm q,x]:=by
 show withN q x=_
 unfold withN
 rw [if_neg (by rintro (h | h);exact h0 h;exact hx.ne_one h)];rw [hx.bare.2.2.2.2]
theorem rep_cases {us:List T} (R:Rep us) {q:Rat} (h0:q≠0):(∃ x,us=[x]∧q=1∧closeP us q=x)∨(closeP us q=.prod (hdP q ++ us)∧2≤(hdP q ++ us).length):=by
 match us,R.ne with
 | [x],_ =>
  refine (closeP_one (R.fc x (.head _)) h0)▸?_
  by_cases h1:q=1
  ·exact .inl ⟨x,rfl,h1,if_pos h1⟩
  ·right
   refine (if_neg h1)▸?_
   unfold hdP
   refine (if_neg h1)▸?_
   exact ⟨rfl,by simp⟩
 | a :: b :: us,_ =>
  right
  exact ⟨closeP_many (by simp) h0,by simp;lia⟩
theorem filter_nonnum {us:List T} (h:∀ u∈us,Fc u):us.filter (fun t=>!t.isNum)=us:=by
 rw [List.filter_eq_self]
 intro a ha
 refine ((h a ha).facts.1)▸?_;rfl
set_option tactic.hygienic true in
theorem rep_bare {us:List T} (R:Rep us) {q:Rat} (h0:q≠0):(closeP us q).bare=us∧(closeP us q).front=q∧(closeP us q).isNum=false:=by
 rcases rep_cases R h0 with ⟨x,rfl,rfl,e⟩ | ⟨e,h2⟩
 ·refine e.symm▸?_
  have hx:=R.fc x (.head _)
  exact ⟨hx.bare.1,hx.bare.2.1,hx.facts.1⟩
 ·refine e▸?_
  refine ⟨?_,?_,rfl⟩
  ·show (hdP q ++ us).filter _=us
   rw [List.filter_append];rw [filter_nonnum R.fc]
   unfold hdP
   split
   ·rfl
   ·rfl
  ·unfold hdP
   split
   ·rename_i h1
    obtain ⟨x,us',rfl⟩:=List.exists_cons_of_ne_nil R.ne
    have:=(R.fc x (.head _)).facts.1
    subst h1
    cases x with
    | num a b=>cases this
    | _=>rfl
   ·exact T.val_nm q
theorem rep_cf {us:List T} (R:Rep us) {q:Rat} (h0:q≠0):(closeP us q).cf=q∧(closeP us q).rest=closeP us 1:=by
 have one:(1:Rat)≠0:=by decide
 rcases rep_cases R h0 with ⟨x,rfl,rfl,e⟩ | ⟨e,h2⟩
 ·refine e.symm▸?_
  have hx:=R.fc x (.head _)
  exact ⟨hx.bare.2.2.2.1,hx.bare.2.2.1⟩
 ·refine e.symm▸?_
  by_cases h1:q=1
  ·have hd:hdP q=[]:=if_pos h1
   rw [hd,List.nil_append] at h2 ⊢
   refine (closeP_many h2 one).symm▸?_;refine (show hdP 1=[] from if_pos rfl).symm▸?_;refine h1.symm▸?_
   match us,h2,R with
   | a :: b :: us,_,R =>
    have:=(R.fc a (.head _)).facts.1
    show (T.prod (a :: b :: us)).cf=1∧(T.prod (a :: b :: us)).rest=.prod (a :: b :: us)
    cases a with
    | num p q=>cases this
    | _=>exact ⟨rfl,rfl⟩
  ·have hd:hdP q=[T.nm q]:=if_neg h1
   refine hd.symm▸?_
   refine ⟨T.val_nm q,?_⟩
   match us,R with
   | [x],R =>
    refine (closeP_one (R.fc x (.head _)) one).symm▸?_;refine (if_pos rfl).symm▸?_;rfl
   | a :: b :: us,R =>
    rw [closeP_many (by simp) one];refine (show hdP 1=[] from if_pos rfl).symm▸?_;rfl
theorem rep_with {us:List T} (R:Rep us) {c:Rat} (h0:c≠0):withN c (closeP us 1)=closeP us c:=by
 have one:(1:Rat)≠0:=by decide
 rcases rep_cases R one with ⟨x,rfl,_,e⟩ | ⟨e,h2⟩
 ·refine e.symm▸?_;rfl
 ·refine e▸?_
  have hd:hdP 1=[]:=if_pos rfl
  rw [hd,List.nil_append] at h2 ⊢
  refine (closeP_many h2 h0)▸?_
  unfold withN hdP
  rw [if_neg (by rintro (h | h);exact h0 h;cases h)]
  split <;> rfl
theorem rep_NF {us:List T} (R:Rep us) {q:Rat} (h0:q≠0):Nf (closeP us q):=by
 rcases rep_cases R h0 with ⟨x,rfl,_,e⟩ | ⟨e,h2⟩
 ·refine e.symm▸?_;exact R.nf x (.head _)
 ·refine e.symm▸?_;exact .prod h0 R.nf R.fc R.nd R.so h2
theorem rep_sum {us:List T} (R:Rep us) {q:Rat} (h0:q≠0) (h:(closeP us q).isSum=true):∃ x,us=[x]∧q=1∧closeP us q=x:=by
 rcases rep_cases R h0 with q | ⟨e,_⟩
 ·exact q
 ·replace h:=e▸h;cases h
theorem rep_ne {us:List T} (R:Rep us) {q:Rat} (h0:q≠0):closeP us q≠ONE:=by
 intro e
 have:=(rep_bare R h0).2.2
 replace this:=e▸this;cases this
theorem Rep.one {x:T} (h:Nf x) (hf:Fc x):Rep [x]:=⟨by simp,fun u hu=>by obtain rfl:=List.mem_singleton.mp hu;exact h,fun u hu=>by obtain rfl:=List.mem_singleton.mp hu;exact hf,by simp,by simp⟩
theorem Nf.rep {u:T} (h:Nf u) (hn:u.isNum=false):∃ us q,Rep us∧q≠0∧u=closeP us q:=by
 have one:(1:Rat)≠0:=by decide
 have easy:Fc u->∃ us q,Rep us∧q≠0∧u=closeP us q:=fun hf=>⟨[u],1,Rep.one h hf,one,by refine (closeP_one hf one)▸?_;exact (if_pos rfl)▸rfl⟩
 cases h with
 | num r=>cases hn
 | sym x=>exact easy (.inl ⟨rfl,rfl,fun _ _ e=>nomatch e⟩)
 | @pow b j hb _ hj h0 h1=>exact easy (.inr ⟨b,j,rfl,hb,hj,h0,h1⟩)
 | sum _ _ _ _ _=>exact easy (.inl ⟨rfl,rfl,fun _ _ e=>nomatch e⟩)
 | @prod us q h0 h1 h2 h3 h4 h5 =>
  have hne:us≠[]:=by
   rintro rfl
   unfold hdP at h5
   split at h5 <;> simp at h5
  have R:Rep us:=⟨hne,h1,h2,h3,h4⟩
  refine ⟨us,q,R,h0,?_⟩
  rcases rep_cases R h0 with ⟨x,rfl,rfl,_⟩ | ⟨e,_⟩
  ·replace h5:=(show hdP 1=[] from if_pos rfl)▸h5
   simp at h5
  ·exact e.symm
theorem map_inj {α β:Type}{f:α->β}:∀ {l l':List α},(∀ a∈l,∀ b∈l',f a=f b->a=b)->l.map f=l'.map f->l=l'
 | [],[],_,_=>rfl
 | [],_ :: _,_,h=>by simp at h
 | _ :: _,[],_,h=>by simp at h
 | a :: l,b :: l',hi,h=>by
  rw [List.map_cons,List.map_cons] at h
  injection h with h1 h2
  refine (hi a (.head _) b (.head _) h1)▸?_;exact (map_inj (fun a ha b hb=>hi a (.tail _ ha) b (.tail _ hb)) h2)▸rfl
theorem sum_mem_NF {us:List T}{q:Rat} (h:∀ u∈us,Nf u):∀ u∈us ++ tailS q,Nf u:=fun u hu=>by
 rcases List.mem_append.mp hu with hu | hu
 ·exact h u hu
 ·unfold tailS at hu
  split at hu
  ·cases hu
  ·obtain rfl:=List.mem_singleton.mp hu;exact .num q
theorem atom_cases {b:T} (hb:Atom b):(∃ x,b=.sym x)∨∃ ts,b=.sum ts:=by
 have h1:=hb.num
 have h2:=hb.prod
 cases b with
 | num p q=>cases h1
 | prod ts=>cases h2
 | pow b e=>exact absurd rfl (hb.pow b e)
 | sym x=>exact .inl ⟨x,rfl⟩
 | sum ts=>exact .inr ⟨ts,rfl⟩
theorem Nf.sum_parts {ts:List T} (h:Nf (.sum ts)):∀ u∈ts,Nf u:=by
 generalize e:T.sum ts=t at h
 cases h with
 | sum h1=>cases e;exact sum_mem_NF h1
 | _=>cases e
theorem bcode_inj {n:Nat} (ih:∀ a b,Nf a->Nf b->a.sz < n->a.code=b.code->a=b) {b b':T} (hb:Atom b) (hb':Atom b') (h:Nf b) (h':Nf b') (hs:b.sz≤n) (e:b.bcode=b'.bcode):b=b':=by
 rcases atom_cases hb with ⟨x,rfl⟩ | ⟨ts,rfl⟩
 ·rcases atom_cases hb' with ⟨y,rfl⟩ | ⟨us,rfl⟩
  ·rw [T.bcode,T.bcode] at e
   cases e;rfl
  ·rw [T.bcode,T.bcode] at e
   simp at e
 ·rcases atom_cases hb' with ⟨y,rfl⟩ | ⟨us,rfl⟩
  ·rw [T.bcode,T.bcode] at e
   simp at e
  ·rw [T.bcode,T.bcode,T.codes_map,T.codes_map] at e
   simp only [O.l.injEq,List.cons.injEq,and_true,true_and] at e
   congr 1
   refine map_inj (fun a ha b hb=>ih a b (h.sum_parts a ha) (h'.sum_parts b hb) ?_) e
   have:=szs_mem a ha
   rw [T.sz] at hs;lia
theorem fcode_inj {n:Nat} (ih:∀ a b,Nf a->Nf b->a.sz < n->a.code=b.code->a=b) {f f':T} (hf:Fc f) (hf':Fc f') (h:Nf f) (h':Nf f') (hs:f.sz≤n) (e:f.fcode=f'.fcode):f=f':=by
 have fe:∀ {f:T},Fc f->f.fcode=.l [f.base.bcode,.q (-f.exp.val)]:=fun {f} hf=>by
  have hb:=hf.facts.2.2.1
  refine T.fcode_eq f hb.num (fun ts e=>?_) hb.pow
  have:=hb.prod
  replace this:=e▸this;cases this
 rw [fe hf,fe hf'] at e
 simp only [O.l.injEq,List.cons.injEq,O.q.injEq,and_true] at e
 have hbs:f.base.sz≤f.sz:=by
  cases f with
  | pow b x=>show b.sz≤(T.pow b x).sz;rw [T.sz];lia
  | _=>exact Nat.le_refl _
 have e1:=bcode_inj ih hf.facts.2.2.1 hf'.facts.2.2.1 (h.base hf) (h'.base hf') (by lia) e.1
 have e2:f.exp.val=f'.exp.val:=by
  have:=congrArg (fun r:Rat=>-r) e.2
  simpa using this
 refine hf.pow_eq▸?_;refine hf'.pow_eq▸?_;refine e1▸?_;exact e2▸rfl
theorem rep_sz {us:List T} (R:Rep us) {q:Rat} (h0:q≠0):∀ u∈us,u.sz≤(closeP us q).sz:=by
 intro u hu
 rcases rep_cases R h0 with ⟨x,rfl,_,e⟩ | ⟨e,_⟩
 ·obtain rfl:=List.mem_singleton.mp hu
  rw [e];exact Nat.le_refl _
 ·rw [e];rw [T.sz]
  have:=szs_mem u (List.mem_append_right (hdP q) hu)
  lia
theorem code_inj:∀ (n:Nat) (a b:T),Nf a->Nf b->a.sz < n->a.code=b.code->a=b
 | 0,a,b,_,_,h,_=>by omega
 | n+1,a,b,ha,hb,hs,e=>by
  cases hna:a.isNum with
  | true =>
   cases hnb:b.isNum with
   | true =>
    cases ha with
    | num r =>
     cases hb with
     | num r' =>
      have h1:(T.nm r).code=.l [.q 1,.q r]:=by rw [T.nm];rw [T.code];rw [Rat.num_divInt_den]
      have h2:(T.nm r').code=.l [.q 1,.q r']:=by rw [T.nm];rw [T.code];rw [Rat.num_divInt_den]
      rw [h1,h2] at e
      simp only [O.l.injEq,List.cons.injEq,O.q.injEq,and_true,true_and] at e
      rw [e]
     | _=>cases hnb
    | _=>cases hna
   | false =>
    rw [T.code_eq b hnb] at e
    cases a with
    | num p q=>rw [T.code] at e;simp at e
    | _=>cases hna
  | false =>
   cases hnb:b.isNum with
   | true =>
    rw [T.code_eq a hna] at e
    cases b with
    | num p q=>rw [T.code] at e;simp at e
    | _=>cases hnb
   | false =>
    obtain ⟨us,q,R,h0,rfl⟩:=ha.rep hna
    obtain ⟨us',q',R',h0',rfl⟩:=hb.rep hnb
    rw [T.code_eq _ hna,T.code_eq _ hnb] at e
    simp only [O.l.injEq,List.cons.injEq,O.q.injEq,and_true,true_and] at e
    obtain ⟨b1,b2,_⟩:=rep_bare R h0
    obtain ⟨b1',b2',_⟩:=rep_bare R' h0'
    rw [b1,b1',b2,b2'] at e
    have:us=us':=map_inj (fun f hf f' hf'=>fcode_inj (n:=n) (code_inj n) (R.fc f hf) (R'.fc f' hf') (R.nf f hf) (R'.nf f' hf') (by have:=rep_sz R h0 f hf;omega)) e.1
    rw [this];rw [e.2]
theorem Nf.code_inj {a b:T} (ha:Nf a) (hb:Nf b) (e:a.code=b.code):a=b:=Mine.code_inj (a.sz+1) a b ha hb (Nat.lt_succ_self _) e
theorem le_antisymm {a b:T} (ha:Nf a) (hb:Nf b) (h:Le a b) (k:Le b a):a=b:=by
 refine ha.code_inj hb ((O.cmp_eq _ _).mp ?_)
 unfold Le T.le at h k
 have sw:=O.cmp_swap a.code b.code
 cases q:O.cmp a.code b.code with
 | eq=>rfl
 | gt=>replace h:=q▸h;cases h
 | lt=>replace sw:=q▸sw;replace k:=sw.symm▸k;cases k
theorem sorted_unique {us us':List T} (h:us.Pairwise Le) (h':us'.Pairwise Le) (p:us.Perm us') (nf:∀ u∈us,Nf u):us=us' :=
 List.Perm.eq_of_pairwise (fun a b ha hb=>le_antisymm (nf a ha) (nf b (p.symm.mem_iff.mp hb))) h h' p
end
section
theorem ne10:(1:Rat)≠0:=by decide
theorem Nf.numEq {u:T} (h:Nf u) (hn:u.isNum=true):∃ r,u=T.nm r:=by
 cases h with
 | num r=>exact ⟨r,rfl⟩
 | _=>cases hn
theorem Nf.sumParts {ts:List T} (h:Nf (.sum ts)):∀ u∈ts,Nf u∧u.isSum=false:=by
 generalize e:T.sum ts=t at h
 cases h with
 | @sum us q h1 h2 =>
  cases e
  intro u hu
  refine ⟨sum_mem_NF h1 u hu,?_⟩
  rcases List.mem_append.mp hu with hu | hu
  ·exact (h2 u hu).2
  ·unfold tailS at hu
   split at hu
   ·cases hu
   ·obtain rfl:=List.mem_singleton.mp hu;rfl
 | _=>cases e
noncomputable abbrev NFs (ps:List T):Prop:=∀ p∈ps,Nf p
theorem flatS_NF {parts:List T} (h:NFs parts):∀ p∈flatS parts,Nf p∧p.isSum=false:=fun p hp=>by
 obtain ⟨t,ht,hp⟩:=List.mem_flatMap.mp hp
 cases t with
 | sum us=>exact (h _ ht).sumParts p hp
 | _=>obtain rfl:=List.mem_singleton.mp hp;exact ⟨h _ ht,rfl⟩
theorem count_key {ps:List T} (h:NFs ps) {k:T}{c:Rat} (hm:(k,c)∈count ps):k=ONE∨∃ us,Rep us∧k=closeP us 1:=by
 rw [count_G,G_mem] at hm
 obtain ⟨x,hx,rfl⟩:=List.mem_map.mp hm.1
 obtain ⟨p,hp,rfl⟩:=List.mem_map.mp hx
 cases hn:p.isNum with
 | true =>
  obtain ⟨r,rfl⟩:=(h p hp).numEq hn
  exact .inl rfl
 | false =>
  obtain ⟨us,q,R,h0,rfl⟩:=(h p hp).rep hn
  exact .inr ⟨us,R,(rep_cf R h0).2⟩
theorem othS_mem {ps:List T}{k:T}{c:Rat}:(k,c)∈othS ps↔(k,c)∈count ps∧k≠ONE∧c≠0:=by
 unfold othS dropT
 simp only [List.mem_filter,decide_eq_true_eq]
 exact ⟨fun ⟨⟨a,b⟩,c⟩=>⟨a,b,c⟩,fun ⟨a,b,c⟩=>⟨⟨a,b⟩,c⟩⟩
theorem foundS_mem {ps:List T} (h:NFs ps) {t:T} (ht:t∈foundS ps):∃ us c,Rep us∧c≠0∧t=closeP us c∧(closeP us 1,c)∈count ps:=by
 obtain ⟨⟨k,c⟩,hx,rfl⟩:=List.mem_map.mp ht
 obtain ⟨h1,h2,h3⟩:=othS_mem.mp hx
 rcases count_key h h1 with rfl | ⟨us,R,rfl⟩
 ·exact absurd rfl h2
 ·exact ⟨us,c,R,h3,rep_with R h3,h1⟩
theorem foundS_NF {ps:List T} (h:NFs ps):∀ t∈foundS ps,Nf t∧t.isNum=false:=fun t ht=>by
 obtain ⟨us,c,R,h0,rfl,_⟩:=foundS_mem h ht
 exact ⟨rep_NF R h0,(rep_bare R h0).2.2⟩
theorem foundS_rest {ps:List T} (h:NFs ps):((foundS ps).map T.rest).Nodup:=by
 have e:(foundS ps).map T.rest=(othS ps).map (·.1):=by
  unfold foundS
  refine List.map_map.symm▸?_
  refine List.map_congr_left fun x hx=>?_
  obtain ⟨k,c⟩:=x
  obtain ⟨h1,h2,h3⟩:=othS_mem.mp hx
  rcases count_key h h1 with rfl | ⟨us,R,rfl⟩
  ·exact absurd rfl h2
  ·show (withN c (closeP us 1)).rest=closeP us 1
   refine (rep_with R h3)▸?_;exact ((rep_cf R h3).2)▸rfl
 refine e▸?_
 unfold othS dropT
 exact ((List.filter_sublist.trans List.filter_sublist).map _).nodup (count_keys ps)
theorem count_perm {ps ps':List T} (p:ps.Perm ps'):(count ps).Perm (count ps'):=by
 rw [count_G];rw [count_G];exact G_perm (p.map _)
theorem foundS_perm {ps ps':List T} (p:ps.Perm ps'):(foundS ps).Perm (foundS ps'):=by
 unfold foundS othS dropT
 exact (((count_perm p).filter _).filter _).map _
theorem look_perm {es es':List (T×Rat)} (h:(es.map (·.1)).Nodup) (p:es.Perm es') (k:T):lookT es k=lookT es' k:=by
 have h':(es'.map (·.1)).Nodup:=(p.map _).nodup_iff.mp h
 cases q:lookT es k with
 | some r=>exact ((look_mem h').mpr (p.mem_iff.mp ((look_mem h).mp q))).symm
 | none =>
  cases q':lookT es' k with
  | none=>rfl
  | some r =>
   cases ((look_mem h).mpr (p.symm.mem_iff.mp ((look_mem h').mp q'))).symm.trans q
theorem numS_perm {ps ps':List T} (p:ps.Perm ps'):numS ps=numS ps':=by
 unfold numS
 exact (look_perm (count_keys ps) (count_perm p) ..)▸rfl
theorem close_NF {us:List T}{q:Rat} (h:∀ u∈us,Nf u) (h2:∀ u∈us,u.isNum=false∧u.isSum=false) (hnd:(us.map T.rest).Nodup) (hso:us.Pairwise Le):Nf (closeL (us ++ tailS q)):=by
 have hm:=sum_mem_NF (q:=q) h
 match e:us ++ tailS q,hm with
 | [],_=>exact .num 0
 | [x],hm=>exact hm x (.head _)
 | a :: b :: r,_ =>
  show Nf (.sum (a :: b :: r))
  refine e▸?_
  exact .sum h h2 hnd hso (by refine e▸?_;simp)
theorem nextS_NF {parts:List T} (h:NFs parts):NFs (foundS (flatS parts) ++ [T.nm (numS (flatS parts))]):=fun p hp=>by
 rcases List.mem_append.mp hp with hp | hp
 ·exact (foundS_NF (fun p hp=>(flatS_NF h p hp).1) p hp).1
 ·obtain rfl:=List.mem_singleton.mp hp;exact .num _
theorem GS_NF {parts:List T}{t:T} (g:GS parts t) (h:NFs parts):Nf t:=by
 induction g with
 | @done parts us hno hs =>
  have hf:NFs (flatS parts):=fun p hp=>(flatS_NF h p hp).1
  obtain ⟨p,so⟩:=hs
  exact close_NF (fun u hu=>(foundS_NF hf u (p.mem_iff.mp hu)).1) (fun u hu=>⟨(foundS_NF hf u (p.mem_iff.mp hu)).2,hno u (p.mem_iff.mp hu)⟩) ((p.map _).nodup_iff.mpr (foundS_rest hf)) so
 | again _ _ ih=>exact ih (nextS_NF h)
theorem GS_det {parts:List T}{t:T} (g:GS parts t):∀ (parts':List T),parts.Perm parts'->NFs parts->∀ t',GS parts' t'->t=t':=by
 induction g with
 | @done parts us hno hs =>
  intro parts' p h t' g'
  have hf:NFs (flatS parts):=fun p hp=>(flatS_NF h p hp).1
  have pf:(foundS (flatS parts)).Perm (foundS (flatS parts')):=foundS_perm (p.flatMap_right _)
  cases g' with
  | @done _ us' hno' hs' =>
   have:us=us':=sorted_unique hs.2 hs'.2 (hs.1.trans (pf.trans hs'.1.symm)) fun u hu=>(foundS_NF hf u (hs.1.mem_iff.mp hu)).1
   have pS:numS (flatS parts)=numS (flatS parts'):=numS_perm (p.flatMap_right _)
   refine this▸?_;exact pS▸rfl
  | again hex _ =>
   obtain ⟨x,hx,hxs⟩:=hex
   have:=hno x (pf.symm.mem_iff.mp hx)
   cases hxs.symm.trans this
 | @again parts u hex _ ih =>
  intro parts' p h t' g'
  have pf:(foundS (flatS parts)).Perm (foundS (flatS parts')):=foundS_perm (p.flatMap_right _)
  cases g' with
  | @done _ us' hno' hs' =>
   obtain ⟨x,hx,hxs⟩:=hex
   have:=hno' x (pf.mem_iff.mp hx)
   cases hxs.symm.trans this
  | again _ g'' =>
   refine ih _ ?_ (nextS_NF h) _ g''
   have pS:numS (flatS parts)=numS (flatS parts'):=numS_perm (p.flatMap_right _)
   refine pS▸?_
   exact pf.append (List.Perm.refl _)
theorem flatMap_single {g:T->List T}:∀ {l:List T},(∀ x∈l,g x=[x])->l.flatMap g=l
 | [],_=>rfl
 | x :: l,h=>by refine List.flatMap_cons.symm▸?_;refine (h x (.head _)).symm▸?_;refine (flatMap_single fun y hy=>h y (.tail _ hy)).symm▸?_;rfl
theorem part_eq {p:T} (h:Nf p) (hn:p.isNum=false):withN p.cf p.rest=p∧p.cf≠0∧p.rest≠ONE:=by
 obtain ⟨us,q,R,h0,rfl⟩:=h.rep hn
 obtain ⟨c1,c2⟩:=rep_cf R h0
 refine c1.symm▸?_;refine c2.symm▸?_
 exact ⟨rep_with R h0,h0,rep_ne R ne10⟩
set_option tactic.hygienic true in
theorem tail_one {q:Rat}:∀ u∈tailS q,u=T.nm q∧q≠0:=fun u hu=>by
 unfold tailS at hu
 split at hu
 ·cases hu
 ·rename_i h;exact ⟨List.mem_singleton.mp hu,h⟩
open Classical in
theorem GS_id {ts:List T} (h:Nf (.sum ts)) {t:T} (g:GS ts t):t=.sum ts:=by
 have hp:=h.sumParts
 have hflat:flatS ts=ts:=flatMap_single fun x hx=>by
  have:=(hp x hx).2
  cases x with
  | sum us=>cases this
  | _=>rfl
 generalize e:T.sum ts=s at h
 cases h with
 | @sum us q h1 h2 h3 h4 h5 =>
  injection e with e
  have hnf:NFs ts:=fun p hq=>(hp p hq).1
  have eq1:∀ u∈us,withN u.cf u.rest=u∧u.cf≠0∧u.rest≠ONE:=fun u hu=>part_eq (h1 u hu) (h2 u hu).1
  have keys:((ts.map fun p=>(p.rest,p.cf)).map (·.1)).Nodup:=by
   refine e▸?_;refine List.map_map.symm▸?_;refine List.map_append.symm▸?_;rw [List.nodup_append]
   refine ⟨h3,?_,fun a ha b hb=>?_⟩
   ·unfold tailS;split <;> simp
   ·obtain ⟨u,hu,rfl⟩:=List.mem_map.mp ha
    obtain ⟨v,hv,rfl⟩:=List.mem_map.mp hb
    obtain ⟨rfl,_⟩:=tail_one v hv
    exact (eq1 u hu).2.2
  have pc:(count ts).Perm (ts.map fun p=>(p.rest,p.cf)):=by refine (count_G ..)▸?_;exact G_id keys
  have pf:(foundS ts).Perm us:=by
   unfold foundS othS dropT
   refine (((pc.filter _).filter _).map _).trans ?_
   refine e▸?_;refine List.map_append▸?_;refine (List.filter_append ..)▸?_;rw [List.filter_append];refine List.map_append▸?_
   have a1:((tailS q).map fun p=>(p.rest,p.cf)).filter (fun x=>decide (x.1≠ONE))=[]:=by
    rw [List.filter_eq_nil_iff]
    intro x hx
    obtain ⟨v,hv,rfl⟩:=List.mem_map.mp hx
    obtain ⟨rfl,_⟩:=tail_one v hv
    simp [nm_rest]
   refine a1▸?_
   have a2:((us.map fun p=>(p.rest,p.cf)).filter (fun x=>decide (x.1≠ONE))).filter (fun x=>decide (x.2≠0))=us.map fun p=>(p.rest,p.cf):=by
    rw [List.filter_eq_self.mpr];rw [List.filter_eq_self.mpr]
    ·intro x hx
     obtain ⟨v,hv,rfl⟩:=List.mem_map.mp hx
     simpa using (eq1 v hv).2.2
    ·intro x hx
     obtain ⟨v,hv,rfl⟩:=List.mem_map.mp (List.mem_filter.mp hx).1
     simpa using (eq1 v hv).2.1
   refine a2.symm▸?_;refine List.map_map.symm▸?_
   simp only [List.filter_nil,List.map_nil,List.append_nil]
   rw [List.map_congr_left (g:=id)];rw [List.map_id]
   exact fun u hu=>(eq1 u hu).1
  have hnum:numS ts=q:=by
   unfold numS
   refine (look_perm (count_keys ts) pc ..)▸?_
   by_cases hq:q=0
   ·have:ONE∉(ts.map fun p=>(p.rest,p.cf)).map (·.1):=by
     intro hm
     rw [List.map_map] at hm
     obtain ⟨u,hu,hu1⟩:=List.mem_map.mp hm
     rw [e] at hu
     rcases List.mem_append.mp hu with hu | hu
     ·exact (eq1 u hu).2.2 hu1
     ·exact (tail_one u hu).2 hq
    refine (lookT_none.mpr this)▸?_;refine hq▸?_;rfl
   ·have:(ONE,q)∈ts.map fun p=>(p.rest,p.cf):=by
     refine List.mem_map.mpr ⟨T.nm q,?_,?_⟩
     ·refine e▸?_
      refine List.mem_append_right _ ?_
      unfold tailS
      refine (if_neg hq)▸?_;exact .head _
     ·rw [nm_rest];exact (nm_cf ..)▸rfl
    refine ((look_mem keys).mpr this)▸?_;rfl
  cases g with
  | @done _ us' hno hs =>
   rw [hflat] at hs ⊢
   have:us'=us:=sorted_unique hs.2 h4 (hs.1.trans pf) fun u hu=>h1 u (pf.mem_iff.mp (hs.1.mem_iff.mp hu))
   refine this.symm▸?_;refine hnum.symm▸?_
   match e2:us ++ tailS q,h5 with
   | a :: b :: r,_=>rfl
  | again hex _ =>
   rw [hflat] at hex
   obtain ⟨x,hx,hxs⟩:=hex
   have:=(h2 x (pf.mem_iff.mp hx)).2
   cases hxs.symm.trans this
 | _=>cases e
noncomputable def Pf (p:T):Prop:=(∃ r,p=T.nm r)∨Nf p∧Fc p
theorem Pf.nf {p:T} (h:Pf p):Nf p:=h.elim (fun hq_=>by obtain ⟨r,e⟩:=hq_;exact e▸.num r) And.left
theorem prod_parts {ts:List T} (h:Nf (.prod ts)):∃ us q,q≠0∧Rep us∧ts=hdP q ++ us∧2≤(hdP q ++ us).length:=by
 generalize e:T.prod ts=t at h
 cases h with
 | @prod us q h0 h1 h2 h3 h4 h5 =>
  injection e with e
  refine ⟨us,q,h0,⟨?_,h1,h2,h3,h4⟩,e,h5⟩
  rintro rfl
  unfold hdP at h5
  split at h5 <;> simp at h5
 | _=>cases e
set_option tactic.hygienic true in
theorem hdP_mem {q:Rat}:∀ u∈hdP q,u=T.nm q∧q≠1:=fun u hu=>by
 unfold hdP at hu
 split at hu
 ·cases hu
 ·rename_i h;exact ⟨List.mem_singleton.mp hu,h⟩
theorem Nf.facs_Pf {t:T} (h:Nf t):∀ p∈t.facs,Pf p:=by
 intro p hp
 cases t with
 | num a b =>
  obtain rfl:=List.mem_singleton.mp hp
  exact .inl (h.numEq rfl)
 | prod ts =>
  obtain ⟨us,q,h0,R,rfl,_⟩:=prod_parts h
  rcases List.mem_append.mp hp with hp | hp
  ·exact .inl ⟨q,(hdP_mem p hp).1⟩
  ·exact .inr ⟨R.nf p hp,R.fc p hp⟩
 | sym x =>
  obtain rfl:=List.mem_singleton.mp hp
  exact .inr ⟨h,.inl ⟨rfl,rfl,fun _ _ e=>nomatch e⟩⟩
 | sum us =>
  obtain rfl:=List.mem_singleton.mp hp
  exact .inr ⟨h,.inl ⟨rfl,rfl,fun _ _ e=>nomatch e⟩⟩
 | pow b e =>
  obtain rfl:=List.mem_singleton.mp hp
  refine .inr ⟨h,.inr ?_⟩
  generalize e2:T.pow b e=s at h
  cases h with
  | @pow b' j hb _ hj h0 h1=>exact ⟨b',j,rfl,hb,hj,h0,h1⟩
  | _=>cases e2
noncomputable abbrev Pfs (ps:List T):Prop:=∀ p∈ps,Pf p
theorem flatP_Pf {parts:List T} (h:NFs parts):Pfs (flatP parts):=fun p hp=>by
 obtain ⟨t,ht,hp⟩:=List.mem_flatMap.mp hp
 exact (h t ht).facs_Pf p hp
theorem Pf.nonnum {p:T} (h:Pf p) (hn:p.isNum=false):Nf p∧Fc p:=by
 rcases h with ⟨r,rfl⟩ | h
 ·cases hn
 ·exact h
theorem Fc.expDen {f:T} (h:Fc f):f.exp.val.den=1∧f.exp.val≠0:=by
 obtain ⟨_,_,_,j,e,h1,h2⟩:=h.facts
 refine e▸?_;refine (T.val_nm ..)▸?_;exact ⟨h1,h2⟩
theorem countE_entry {ps:List T} (h:Pfs ps):∀ x∈countE ps,Atom x.1∧Nf x.1∧x.2.den=1:=by
 have M:Mon Unit:=⟨fun _ _=>(),(),fun _ _=>True,fun _ _=>rfl,fun _ _ _=>rfl,fun _=>rfl,fun _=>trivial,fun _ _ _ _ _=>trivial,fun _ _ _ _=>trivial⟩
 refine (countE_G ..)▸?_
 refine (M.fold_G (fun _ _=>()) (fun k e=>Atom k∧Nf k∧e.den=1) (fun k a c h1 h2=>⟨h1.1,h1.2.1,den_add h1.2.2 h2.2.2⟩) (fun k a c h1 h2=>?_) _ fun x hx=>?_).2
 ·cases M.op () ();exact M.refl _
 ·obtain ⟨p,hp,rfl⟩:=List.mem_map.mp hx
  obtain ⟨hp,hn⟩:=List.mem_filter.mp hp
  obtain ⟨nf,fc⟩:=(h p hp).nonnum (by simpa using hn)
  exact ⟨fc.facts.2.2.1,nf.base fc,fc.expDen.1⟩
theorem foundP_mem {ps:List T} (h:Pfs ps):∀ f∈foundP ps,Nf f∧Fc f:=fun f hf=>by
 obtain ⟨x,hx,rfl⟩:=List.mem_map.mp hf
 obtain ⟨hx,h0⟩:=List.mem_filter.mp hx
 obtain ⟨h1,h2,h3⟩:=countE_entry h x hx
 have h0:x.2≠0:=by simpa using h0
 exact ⟨powT_NF h1 h2 h3 h0,(powT_Fc h1 h3 h0).1⟩
theorem countE_keys (ps:List T):((countE ps).map (·.1)).Nodup:=by refine (countE_G ..)▸?_;exact G_nodup _
theorem foundP_base {ps:List T} (h:Pfs ps):((foundP ps).map T.base).Nodup:=by
 have e:(foundP ps).map T.base=((countE ps).filter fun x=>decide (x.2≠0)).map (·.1):=by
  unfold foundP
  refine List.map_map.symm▸?_
  refine List.map_congr_left fun x hx=>?_
  obtain ⟨hx,h0⟩:=List.mem_filter.mp hx
  obtain ⟨h1,h2,h3⟩:=countE_entry h x hx
  exact (powT_Fc h1 h3 (by simpa using h0)).2.1
 refine e.symm▸?_
 exact (List.filter_sublist.map _).nodup (countE_keys ps)
theorem foundP_perm {ps ps':List T} (p:ps.Perm ps'):(foundP ps).Perm (foundP ps'):=by
 unfold foundP
 rw [countE_G];rw [countE_G]
 exact ((G_perm ((p.filter _).map _)).filter _).map _
theorem numP_eq (ps:List T):numP' ps=((ps.filter fun p=>p.isNum).map T.val).foldl (· * ·) 1:=by
 unfold numP'
 refine List.foldl_map.symm▸?_;exact List.foldl_filter.symm▸rfl
theorem foldl_mul (l:List Rat) (a:Rat):l.foldl (· * ·) a=a * l.foldl (· * ·) 1:=by
 induction l generalizing a with
 | nil=>refine List.foldl_nil▸?_;refine List.foldl_nil▸?_;exact (Rat.mul_one ..)▸rfl
 | cons x l ih=>refine (List.foldl_cons ..)▸?_;refine (List.foldl_cons ..)▸?_;refine (ih ..)▸?_;refine (ih (1 * x) ..)▸?_;refine (Rat.one_mul ..)▸?_;exact (Rat.mul_assoc ..)▸rfl
theorem numP_cons (p:T) (ps:List T):numP' (p :: ps)=(if p.isNum then p.val else 1) * numP' ps:=by
 rw [numP_eq];rw [numP_eq];rw [List.filter_cons]
 cases p.isNum with
 | true=>rw [if_pos rfl];rw [List.map_cons];rw [List.foldl_cons];rw [foldl_mul];rw [Rat.one_mul];rw [if_pos rfl]
 | false=>rw [if_neg (by decide)];rw [if_neg (by decide)];rw [Rat.one_mul]
theorem numP_perm {ps ps':List T} (p:ps.Perm ps'):numP' ps=numP' ps':=by
 induction p with
 | nil=>rfl
 | cons x _ ih=>refine (numP_cons ..)▸?_;rw [numP_cons];rw [ih]
 | swap x y l=>simp only [numP_cons];refine (Rat.mul_assoc ..)▸?_;refine (Rat.mul_assoc ..)▸?_;exact (Rat.mul_comm (if y.isNum=true then y.val else 1) ..)▸rfl
 | trans _ _ i1 i2=>refine (i1 ..)▸?_;exact (i2 ..)▸rfl
theorem numP_append (ps qs:List T):numP' (ps ++ qs)=numP' ps * numP' qs:=by
 induction ps with
 | nil=>show _=(1:Rat) * _;refine (Rat.one_mul ..)▸?_;rfl
 | cons p ps ih=>refine (List.cons_append ..)▸?_;refine (numP_cons ..)▸?_;rw [numP_cons];rw [ih];rw [Rat.mul_assoc]
theorem GP_NF {parts:List T}{t:T} (g:GP parts t) (h:NFs parts):Nf t:=by
 rcases g with ⟨_,rfl⟩ | ⟨h0,us,hs,rfl⟩
 ·exact .num 0
 ·have hf:=flatP_Pf h
  by_cases hu:us=[]
  ·refine hu▸?_;exact .num _
  ·exact rep_NF ⟨hu,fun u hu=>(foundP_mem hf u (hs.1.mem_iff.mp hu)).1,fun u hu=>(foundP_mem hf u (hs.1.mem_iff.mp hu)).2,(hs.1.map _).nodup_iff.mpr (foundP_base hf),hs.2⟩ h0
theorem GP_det {parts parts':List T}{t t':T} (p:parts.Perm parts') (h:NFs parts) (g:GP parts t) (g':GP parts' t'):t=t':=by
 have pf:(flatP parts).Perm (flatP parts'):=p.flatMap_right _
 have pn:=numP_perm pf
 rcases g with ⟨h0,rfl⟩ | ⟨h0,us,hs,rfl⟩
 ·rcases g' with ⟨_,rfl⟩ | ⟨h0',_⟩
  ·rfl
  ·exact absurd (pn▸h0) h0'
 ·rcases g' with ⟨h0',_⟩ | ⟨_,us',hs',rfl⟩
  ·exact absurd (pn▸h0') h0
  ·have:us=us':=sorted_unique hs.2 hs'.2 (hs.1.trans ((foundP_perm pf).trans hs'.1.symm)) fun u hu=>(foundP_mem (flatP_Pf h) u (hs.1.mem_iff.mp hu)).1
   refine this▸?_;exact pn▸rfl
set_option tactic.hygienic true in
theorem numP_hd {q:Rat}{us:List T} (h:∀ u∈us,Fc u):numP' (hdP q ++ us)=q:=by
 have e:numP' us=1:=by
  induction us with
  | nil=>rfl
  | cons u us ih=>rw [numP_cons];rw [(h u (.head _)).facts.1];refine (ih fun v hv=>h v (.tail _ hv)).symm▸?_;rw [if_neg (by decide)];rw [Rat.one_mul]
 rw [numP_append];rw [e];rw [Rat.mul_one]
 unfold hdP
 split
 ·rename_i h1;refine h1.symm▸?_;rfl
 ·rw [numP_cons]
  show (T.nm q).val * 1=q
  rw [T.val_nm];rw [Rat.mul_one]
theorem GP_id {ts:List T} (h:Nf (.prod ts)) {t:T} (g:GP ts t):t=.prod ts:=by
 obtain ⟨us,q,h0,R,rfl,h2⟩:=prod_parts h
 have hflat:flatP (hdP q ++ us)=hdP q ++ us:=flatMap_single fun x hx=>by
  rcases List.mem_append.mp hx with hx | hx
  ·refine ((hdP_mem x hx).1)▸?_;rfl
  ·exact (R.fc x hx).bare.2.2.2.2
 unfold GP at g
 rw [hflat,numP_hd R.fc] at g
 rcases g with ⟨e,_⟩ | ⟨_,us',hs,rfl⟩
 ·exact absurd e h0
 ·have hfil:(hdP q ++ us).filter (fun p=>!p.isNum)=us:=by
   rw [List.filter_append];rw [filter_nonnum R.fc]
   unfold hdP
   split <;> rfl
  have pf:(foundP (hdP q ++ us)).Perm us:=by
   unfold foundP
   rw [countE_G];rw [hfil]
   have keys:((us.map fun p=>(p.base,p.exp.val)).map (·.1)).Nodup:=by refine List.map_map.symm▸?_;exact R.nd
   refine (((G_id keys).filter _).map _).trans ?_
   rw [List.filter_eq_self.mpr];rw [List.map_map];rw [List.map_congr_left (g:=id)];rw [List.map_id]
   ·exact fun u hu=>(R.fc u hu).pow_eq
   ·intro x hx
    obtain ⟨u,hu,rfl⟩:=List.mem_map.mp hx
    simpa using (R.fc u hu).expDen.2
  have:us'=us:=sorted_unique hs.2 R.so (hs.1.trans pf) fun u hu=>R.nf u (pf.mem_iff.mp (hs.1.mem_iff.mp hu))
  refine this.symm▸?_
  rcases rep_cases R h0 with ⟨x,rfl,rfl,_⟩ | ⟨e,_⟩
  ·rw [show hdP 1=[] from if_pos rfl] at h2;simp at h2
  ·exact e
end
section
theorem powF_Pf {p:T}{e:Rat} (h:Pf p) (he:e.den=1) (h0:e≠0):Pf (powF p e):=by
 rcases h with ⟨r,rfl⟩ | ⟨nf,fc⟩
 ·refine (powF_num ..)▸?_;exact .inl ⟨_,rfl⟩
 ·rcases fc with ha | ⟨b,j,rfl,hb,hj,j0,j1⟩
  ·refine (powF_atom ha ..)▸?_;exact .inr ⟨powT_NF ha nf he h0,(powT_Fc ha he h0).1⟩
  ·by_cases h1:e=1
   ·refine (powF_1 h1).symm▸?_;exact .inr ⟨nf,.inr ⟨b,j,rfl,hb,hj,j0,j1⟩⟩
   ·have hnf:Nf b:=Nf.base (f:=.pow b (T.nm j)) nf (.inr ⟨b,j,rfl,hb,hj,j0,j1⟩)
    have e1:powF (.pow b (T.nm j)) e=powT b (j * e):=powF_n h0 h1
    have hje:j * e≠0:=fun h=>(Rat.mul_eq_zero.mp h).elim j0 h0
    refine e1▸?_
    exact .inr ⟨powT_NF hb hnf (den_mul hj he) hje,(powT_Fc hb (den_mul hj he) hje).1⟩
theorem powF_parts {ps:List T}{e:Rat} (h:Nf (.prod ps)) (he:e.den=1) (h0:e≠0):Pfs (ps.map fun p=>powF p e):=fun p hp=>by
 obtain ⟨x,hx,rfl⟩:=List.mem_map.mp hp
 exact powF_Pf (h.facs_Pf x hx) he h0
theorem PW_NF {b:T}{e:Rat}{t:T} (hb:Nf b) (he:e.den=1) (h:PW b e t):Nf t:=by
 rcases h with ⟨_,rfl⟩ | ⟨_,rfl⟩ | ⟨h0,h1,⟨ps,rfl,g⟩ | ⟨hp,rfl⟩⟩
 ·exact .num 1
 ·exact hb
 ·exact GP_NF g fun p hp=>(powF_parts hb he h0 p hp).nf
 ·refine (powF_Pf ?_ he h0).nf
  have:b.facs=[b]:=by
   cases b with
   | prod ts=>cases hp
   | _=>rfl
  exact hb.facs_Pf b (by refine this▸?_;exact .head _)
theorem PW_det {b:T}{e:Rat}{t t':T} (hb:Nf b) (he:e.den=1) (h:PW b e t) (h':PW b e t'):t=t':=by
 rcases h with ⟨z,rfl⟩ | ⟨z,rfl⟩ | ⟨h0,h1,h⟩ <;> rcases h' with ⟨z',rfl⟩ | ⟨z',rfl⟩ | ⟨h0',h1',h'⟩
 ·rfl
 ·exact absurd (z.symm.trans z') (by decide)
 ·exact absurd z h0'
 ·exact absurd (z'.symm.trans z) (by decide)
 ·rfl
 ·exact absurd z h1'
 ·exact absurd z' h0
 ·exact absurd z' h1
 ·rcases h with ⟨ps,rfl,g⟩ | ⟨hp,rfl⟩ <;> rcases h' with ⟨ps',e2,g'⟩ | ⟨hp',rfl⟩
  ·injection e2 with e2
   subst e2
   exact GP_det (List.Perm.refl _) (fun p hp=>(powF_parts hb he h0 p hp).nf) g g'
  ·cases hp'
  ·subst e2;cases hp
  ·rfl
theorem failss_mem:∀ {ts:List T},Failss ts->∃ t∈ts,Fails t
 | _ :: _,.inl h=>⟨_,.head _,h⟩
 | _ :: _,.inr h=>have ⟨t,m,h⟩:=failss_mem h;⟨t,.tail _ m,h⟩
mutual
noncomputable def WF:T->Prop
 | .num _ q=>q≠0
 | .sym _=>True
 | .pow b e=>WF b∧∃ j:Rat,e=T.nm j∧j.den=1
 | .sum ts=>WFs ts
 | .prod ts=>WFs ts
noncomputable def WFs:List T->Prop
 | []=>True
 | t :: ts=>WF t∧WFs ts
end
theorem wfs_iff:∀ {ts:List T},WFs ts↔∀ t∈ts,WF t
 | []=>by simp [WFs]
 | t :: ts=>by rw [WFs];rw [wfs_iff];simp
theorem Simps.mem:∀ {ts us:List T},Simps ts us->∀ u∈us,∃ t∈ts,Simp t u
 | [],us,h=>by rw [Simps] at h;subst h;intro u hu;cases hu
 | t :: ts,us,h=>by
  rw [Simps] at h
  obtain ⟨u,us',rfl,h1,h2⟩:=h
  intro v hv
  rcases List.mem_cons.mp hv with rfl | hv
  ·exact ⟨t,.head _,h1⟩
  ·obtain ⟨x,hx,hs⟩:=Simps.mem h2 v hv
   exact ⟨x,.tail _ hx,hs⟩
theorem Simps.mem':∀ {ts us:List T},Simps ts us->∀ t∈ts,∃ u∈us,Simp t u
 | [],us,h=>by intro u hu;cases hu
 | t :: ts,us,h=>by
  rw [Simps] at h
  obtain ⟨u,us',rfl,h1,h2⟩:=h
  intro v hv
  rcases List.mem_cons.mp hv with rfl | hv
  ·exact ⟨u,.head _,h1⟩
  ·obtain ⟨x,hx,hs⟩:=Simps.mem' h2 v hv
   exact ⟨x,.tail _ hx,hs⟩
theorem Simps.rev:∀ {ts us:List T},Simps ts us->Simps ts.reverse us.reverse
 | [],us,h=>by rw [Simps] at h;subst h;rw [List.reverse_nil];rw [Simps]
 | t :: ts,us,h=>by
  rw [Simps] at h
  obtain ⟨u,us',rfl,h1,h2⟩:=h
  refine List.reverse_cons▸?_;rw [List.reverse_cons]
  exact (Simps.rev h2).snoc h1
theorem Simps.det {g:T->T}:∀ {ts us us':List T},(∀ t∈ts,∀ u u',Simp t u->Simp (g t) u'->u=u')->Simps ts us->Simps (ts.map g) us'->us=us'
 | [],us,us',_,h,h'=>by rw [List.map_nil] at h';rw [Simps] at h h';refine h▸?_;exact h'▸rfl
 | t :: ts,us,us',d,h,h'=>by
  rw [List.map_cons] at h'
  rw [Simps] at h h'
  obtain ⟨u,us1,rfl,h1,h2⟩:=h
  obtain ⟨u',us1',rfl,h1',h2'⟩:=h'
  refine (d t (.head _) u u' h1 h1')▸?_;exact (Simps.det (fun t ht=>d t (.tail _ ht)) h2 h2')▸rfl
theorem Simp_NF:∀ (n:Nat) (t:T),t.ht≤n->WF t->∀ u,Simp t u->Nf u:=by
 intro n
 induction n with
 | zero =>
  intro t ht hw u hs
  cases t with
  | num p q=>rw [Simp] at hs;rw [hs];exact .num _
  | sym x=>rw [Simp] at hs;rw [hs];exact .sym x
  | pow b e=>rw [T.ht] at ht;lia
  | sum ts=>rw [T.ht] at ht;lia
  | prod ts=>rw [T.ht] at ht;lia
 | succ n ih =>
  intro t ht hw u hs
  cases t with
  | num p q=>rw [Simp] at hs;rw [hs];exact .num _
  | sym x=>rw [Simp] at hs;rw [hs];exact .sym x
  | pow b e =>
   rw [T.ht] at ht
   rw [WF] at hw
   rw [Simp] at hs
   obtain ⟨hb,j,rfl,hj⟩:=hw
   obtain ⟨b',h1,_,h2⟩:=hs
   rw [T.val_nm] at h2
   exact PW_NF (ih b (by lia) hb b' h1) hj h2
  | sum ts =>
   rw [T.ht] at ht
   rw [WF,wfs_iff] at hw
   rw [Simp] at hs
   obtain ⟨us,h1,h2⟩:=hs
   refine GS_NF h2 fun u hu=>?_
   obtain ⟨t,htm,hst⟩:=h1.mem u hu
   exact ih t (by have:=hts_mem t htm;lia) (hw t htm) u hst
  | prod ts =>
   rw [T.ht] at ht
   rw [WF,wfs_iff] at hw
   rw [Simp] at hs
   obtain ⟨us,h1,h2⟩:=hs
   refine GP_NF h2 fun u hu=>?_
   obtain ⟨t,htm,hst⟩:=h1.mem u hu
   exact ih t (by have:=hts_mem t htm;lia) (hw t htm) u hst
theorem Simp_det:∀ (n:Nat) (t:T),t.ht≤n->WF t->(∀ u u',Simp t u->Simp t u'->u=u')∧∀ u u',Simp t u->Simp (turned t) u'->u=u':=by
 intro n
 induction n with
 | zero =>
  intro t ht hw
  cases t with
  | num p q=>rw [turned];exact ⟨fun u u' h h'=>by rw [Simp] at h h';rw [h];rw [h'],fun u u' h h'=>by rw [Simp] at h h';rw [h];rw [h']⟩
  | sym x=>rw [turned];exact ⟨fun u u' h h'=>by rw [Simp] at h h';rw [h];rw [h'],fun u u' h h'=>by rw [Simp] at h h';rw [h];rw [h']⟩
  | pow b e=>rw [T.ht] at ht;lia
  | sum ts=>rw [T.ht] at ht;lia
  | prod ts=>rw [T.ht] at ht;lia
 | succ n ih =>
  intro t ht hw
  cases t with
  | num p q=>rw [turned];exact ⟨fun u u' h h'=>by rw [Simp] at h h';rw [h];rw [h'],fun u u' h h'=>by rw [Simp] at h h';rw [h];rw [h']⟩
  | sym x=>rw [turned];exact ⟨fun u u' h h'=>by rw [Simp] at h h';rw [h];rw [h'],fun u u' h h'=>by rw [Simp] at h h';rw [h];rw [h']⟩
  | pow b e =>
   rw [T.ht] at ht
   rw [WF] at hw
   obtain ⟨hb,j,rfl,hj⟩:=hw
   obtain ⟨i1,i2⟩:=ih b (by lia) hb
   have nf:=Simp_NF n b (by lia) hb
   rw [turned]
   refine ⟨fun u u' h h'=>?_,fun u u' h h'=>?_⟩
   ·rw [Simp] at h h'
    obtain ⟨b',h1,_,h2⟩:=h
    obtain ⟨b'',h1',_,h2'⟩:=h'
    rw [T.val_nm] at h2 h2'
    rw [← i1 b' b'' h1 h1'] at h2'
    exact PW_det (nf b' h1) hj h2 h2'
   ·rw [Simp] at h h'
    obtain ⟨b',h1,_,h2⟩:=h
    obtain ⟨b'',h1',_,h2'⟩:=h'
    rw [T.val_nm] at h2 h2'
    rw [← i2 b' b'' h1 h1'] at h2'
    exact PW_det (nf b' h1) hj h2 h2'
  | sum ts =>
   rw [T.ht] at ht
   rw [WF,wfs_iff] at hw
   have ihs:∀ t∈ts,_:=fun t htm=>ih t (by have:=hts_mem t htm;lia) (hw t htm)
   have nfs:∀ us,Simps ts us->NFs us:=fun us h u hu=>by
    obtain ⟨t,htm,hst⟩:=h.mem u hu
    exact Simp_NF n t (by have:=hts_mem t htm;lia) (hw t htm) u hst
   rw [turned];rw [turneds_map]
   refine ⟨fun u u' h h'=>?_,fun u u' h h'=>?_⟩
   ·rw [Simp] at h h'
    obtain ⟨us,h1,h2⟩:=h
    obtain ⟨us',h1',h2'⟩:=h'
    have:us=us':=Simps.det (g:=id) (fun t ht u u'=>(ihs t ht).1 u u') h1 (by rw [List.map_id];exact h1')
    subst this
    exact GS_det h2 us (List.Perm.refl _) (nfs us h1) _ h2'
   ·rw [Simp] at h h'
    obtain ⟨us,h1,h2⟩:=h
    obtain ⟨us',h1',h2'⟩:=h'
    have hr:=h1'.rev
    rw [List.reverse_reverse] at hr
    have:us=us'.reverse:=Simps.det (g:=turned) (fun t ht u u'=>(ihs t ht).2 u u') h1 hr
    exact GS_det h2 us' (by rw [this];exact List.reverse_perm _) (nfs us h1) _ h2'
  | prod ts =>
   rw [T.ht] at ht
   rw [WF,wfs_iff] at hw
   have ihs:∀ t∈ts,_:=fun t htm=>ih t (by have:=hts_mem t htm;lia) (hw t htm)
   have nfs:∀ us,Simps ts us->NFs us:=fun us h u hu=>by
    obtain ⟨t,htm,hst⟩:=h.mem u hu
    exact Simp_NF n t (by have:=hts_mem t htm;lia) (hw t htm) u hst
   rw [turned];rw [turneds_map]
   refine ⟨fun u u' h h'=>?_,fun u u' h h'=>?_⟩
   ·rw [Simp] at h h'
    obtain ⟨us,h1,h2⟩:=h
    obtain ⟨us',h1',h2'⟩:=h'
    have:us=us':=Simps.det (g:=id) (fun t ht u u'=>(ihs t ht).1 u u') h1 (by rw [List.map_id];exact h1')
    subst this
    exact GP_det (List.Perm.refl _) (nfs us h1) h2 h2'
   ·rw [Simp] at h h'
    obtain ⟨us,h1,h2⟩:=h
    obtain ⟨us',h1',h2'⟩:=h'
    have hr:=h1'.rev
    rw [List.reverse_reverse] at hr
    have:us=us'.reverse:=Simps.det (g:=turned) (fun t ht u u'=>(ihs t ht).2 u u') h1 hr
    exact GP_det (by rw [this];exact List.reverse_perm _) (nfs us h1) h2 h2'
theorem nofail:∀ (n:Nat) (t:T),t.ht≤n->WF t->∀ u,Simp t u->¬ Fails t∧¬ Fails (turned t):=by
 intro n
 induction n with
 | zero =>
  intro t ht hw u hs
  cases t with
  | num p q=>rw [turned];rw [Fails];exact ⟨id,id⟩
  | sym x=>rw [turned];rw [Fails];exact ⟨id,id⟩
  | pow b e=>rw [T.ht] at ht;lia
  | sum ts=>rw [T.ht] at ht;lia
  | prod ts=>rw [T.ht] at ht;lia
 | succ n ih =>
  intro t ht hw u hs
  have many:∀ ts:List T,T.hts ts≤n->WFs ts->∀ us,Simps ts us->¬ Failss ts∧¬ Failss (ts.map turned).reverse:=fun ts hh hw us h=>by
   rw [wfs_iff] at hw
   refine ⟨fun hf=>?_,fun hf=>?_⟩
   ·obtain ⟨t,htm,hf⟩:=failss_mem hf
    obtain ⟨u,_,hs⟩:=h.mem' t htm
    exact (ih t (by have:=hts_mem t htm;lia) (hw t htm) u hs).1 hf
   ·obtain ⟨t',htm',hf⟩:=failss_mem hf
    obtain ⟨t,htm,rfl⟩:=List.mem_map.mp (List.mem_reverse.mp htm')
    obtain ⟨u,_,hs⟩:=h.mem' t htm
    exact (ih t (by have:=hts_mem t htm;lia) (hw t htm) u hs).2 hf
  cases t with
  | num p q=>rw [turned];rw [Fails];exact ⟨id,id⟩
  | sym x=>rw [turned];rw [Fails];exact ⟨id,id⟩
  | pow b e =>
   rw [T.ht] at ht
   rw [WF] at hw
   rw [Simp] at hs
   obtain ⟨b',h1,hbad,_⟩:=hs
   obtain ⟨f1,f2⟩:=ih b (by lia) hw.1 b' h1
   obtain ⟨d1,d2⟩:=Simp_det n b (by lia) hw.1
   rw [turned];rw [Fails];rw [Fails]
   refine ⟨?_,?_⟩
   ·rintro (h | ⟨b'',h2,h3⟩)
    ·exact f1 h
    ·rw [← d1 b' b'' h1 h2] at h3;exact hbad h3
   ·rintro (h | ⟨b'',h2,h3⟩)
    ·exact f2 h
    ·rw [← d2 b' b'' h1 h2] at h3;exact hbad h3
  | sum ts =>
   rw [T.ht] at ht
   rw [WF] at hw
   rw [Simp] at hs
   obtain ⟨us,h1,_⟩:=hs
   rw [turned];rw [turneds_map];rw [Fails];rw [Fails]
   exact many ts (by lia) hw us h1
  | prod ts =>
   rw [T.ht] at ht
   rw [WF] at hw
   rw [Simp] at hs
   obtain ⟨us,h1,_⟩:=hs
   rw [turned];rw [turneds_map];rw [Fails];rw [Fails]
   exact many ts (by lia) hw us h1
theorem Simps.id:∀ {ts us:List T},(∀ t∈ts,∀ u,Simp t u->u=t)->Simps ts us->us=ts
 | [],us,_,h=>by rw [Simps] at h;exact h
 | t :: ts,us,d,h=>by
  rw [Simps] at h
  obtain ⟨u,us1,rfl,h1,h2⟩:=h
  refine (d t (.head _) u h1)▸?_;exact (Simps.id (fun t ht=>d t (.tail _ ht)) h2)▸rfl
theorem Nf.twice {t:T} (h:Nf t):(∀ u,Simp t u->u=t)∧¬ Fails t:=by
 have num:∀ r:Rat,(∀ u,Simp (T.nm r) u->u=T.nm r)∧¬ Fails (T.nm r):=fun r=>⟨fun u h=>(show u=T.nm (Rat.divInt r.num r.den) from h).trans (by rw [Rat.num_divInt_den]),by show ¬ Fails (.num _ _);rw [Fails];exact _root_.id⟩
 induction h with
 | num r=>exact num r
 | sym x=>exact ⟨fun u h=>by rw [Simp] at h;exact h,by rw [Fails];exact _root_.id⟩
 | @pow b j hb hn hj h0 h1 ih =>
  refine ⟨fun u h=>?_,?_⟩
  ·rw [Simp] at h
   obtain ⟨b',h2,_,h3⟩:=h
   rw [ih.1 b' h2,T.val_nm] at h3
   rcases h3 with ⟨z,_⟩ | ⟨z,_⟩ | ⟨_,_,⟨ps,e,_⟩ | ⟨_,rfl⟩⟩
   ·exact absurd z h0
   ·exact absurd z h1
   ·have:=hb.prod
    replace this:=e▸this;cases this
   ·rw [powF_atom hb]
    unfold powT
    rw [if_neg h0];rw [if_neg h1]
  ·rw [Fails]
   rintro (h | ⟨b',h2,h3,_⟩)
   ·exact ih.2 h
   ·replace h3:=(ih.1 b' h2)▸h3
    have:=hb.num
    replace this:=h3▸this;cases this
 | @sum us q h1 h2 h3 h4 h5 ih =>
  have hall:∀ t∈us ++ tailS q,(∀ u,Simp t u->u=t)∧¬ Fails t:=fun t ht=>by
   rcases List.mem_append.mp ht with ht | ht
   ·exact ih t ht
   ·obtain ⟨rfl,_⟩:=tail_one t ht;exact num q
  refine ⟨fun u h=>?_,?_⟩
  ·rw [Simp] at h
   obtain ⟨us',h6,h7⟩:=h
   replace h7:=(Simps.id (fun t ht=>(hall t ht).1) h6)▸h7
   exact GS_id (.sum h1 h2 h3 h4 h5) h7
  ·rw [Fails]
   intro hf
   obtain ⟨t,ht,hf⟩:=failss_mem hf
   exact (hall t ht).2 hf
 | @prod us q h0 h1 h2 h3 h4 h5 ih =>
  have hall:∀ t∈hdP q ++ us,(∀ u,Simp t u->u=t)∧¬ Fails t:=fun t ht=>by
   rcases List.mem_append.mp ht with ht | ht
   ·obtain ⟨rfl,_⟩:=hdP_mem t ht;exact num q
   ·exact ih t ht
  refine ⟨fun u h=>?_,?_⟩
  ·rw [Simp] at h
   obtain ⟨us',h6,h7⟩:=h
   replace h7:=(Simps.id (fun t ht=>(hall t ht).1) h6)▸h7
   exact GP_id (.prod h0 h1 h2 h3 h4 h5) h7
  ·rw [Fails]
   intro hf
   obtain ⟨t,ht,hf⟩:=failss_mem hf
   exact (hall t ht).2 hf
end
section
theorem rinv_mul (a b:Rat):(a * b)⁻¹=a⁻¹ * b⁻¹:=by grind
theorem rmul_pow (a b:Rat) (n:Nat):(a * b) ^ n=a ^ n * b ^ n:=by
 induction n with
 | zero=>simp
 | succ n ih=>rw [Rat.pow_succ];rw [Rat.pow_succ];rw [Rat.pow_succ];rw [ih];grind
theorem rzero_pow {n:Nat} (h:0 < n):(0:Rat) ^ n=0:=by
 cases n with
 | zero=>lia
 | succ n=>rw [Rat.pow_succ];rw [Rat.mul_zero]
theorem zz_nat (a:Rat) (n:Nat):a ^ (n:Int)=a ^ n:=Rat.zpow_natCast a n
theorem zz_mul (a b:Rat) (n:Int):(a * b) ^ n=a ^ n * b ^ n:=by
 obtain ⟨m,rfl | rfl⟩:=n.eq_nat_or_neg
 ·rw [zz_nat];rw [zz_nat];rw [zz_nat];rw [rmul_pow]
 ·rw [Rat.zpow_neg];rw [Rat.zpow_neg];rw [Rat.zpow_neg];rw [zz_nat];rw [zz_nat];rw [zz_nat];rw [rmul_pow];rw [rinv_mul]
theorem zz_pos {n:Int} (h:0 < n):(0:Rat) ^ n=0:=by
 obtain ⟨m,rfl⟩:=Int.eq_ofNat_of_zero_le (Int.le_of_lt h)
 rw [zz_nat];rw [rzero_pow (by lia)]
theorem rpow_add (a:Rat) (m n:Nat):a ^ (m+n)=a ^ m * a ^ n:=by
 induction n with
 | zero=>simp
 | succ n ih=>rw [Nat.add_succ];rw [Rat.pow_succ];rw [Rat.pow_succ];rw [ih];rw [Rat.mul_assoc]
theorem rpow_mul (a:Rat) (m n:Nat):(a ^ m) ^ n=a ^ (m * n):=by
 induction n with
 | zero=>simp
 | succ n ih=>rw [Rat.pow_succ];rw [ih];rw [Nat.mul_succ];rw [rpow_add]
theorem rinv_pow (a:Rat) (n:Nat):a⁻¹ ^ n=(a ^ n)⁻¹:=inv_pow a n
theorem zz_zz (a:Rat) (m n:Int):(a ^ m) ^ n=a ^ (m * n):=by
 obtain ⟨m',rfl | rfl⟩:=m.eq_nat_or_neg <;> obtain ⟨n',rfl | rfl⟩:=n.eq_nat_or_neg
 ·rw [zz_nat];rw [zz_nat];rw [← Int.natCast_mul];rw [zz_nat];rw [rpow_mul]
 ·rw [zz_nat];rw [Rat.zpow_neg];rw [zz_nat];rw [Int.mul_neg];rw [Rat.zpow_neg];rw [← Int.natCast_mul];rw [zz_nat];rw [rpow_mul]
 ·rw [Rat.zpow_neg];rw [zz_nat];rw [zz_nat];rw [Int.neg_mul];rw [Rat.zpow_neg];rw [← Int.natCast_mul];rw [zz_nat];rw [rinv_pow];rw [rpow_mul]
 ·rw [Rat.zpow_neg];rw [Rat.zpow_neg];rw [zz_nat];rw [zz_nat];rw [Int.neg_mul_neg];rw [← Int.natCast_mul];rw [zz_nat];rw [rinv_pow];rw [rpow_mul];rw [Rat.inv_inv]
theorem zz_add {a:Rat}{m n:Int} (h:a≠0∨0 < m∧0 < n):a ^ (m+n)=a ^ m * a ^ n:=by
 by_cases h0:a=0
 ·obtain ⟨h1,h2⟩:=h.resolve_left (fun q=>q h0)
  refine h0▸?_;refine (zz_pos h1).symm▸?_;refine (zz_pos h2).symm▸?_;rw [zz_pos (by lia)];rw [Rat.mul_zero]
 ·exact Rat.zpow_add h0 m n
theorem num_add {a c:Rat} (ha:a.den=1) (hc:c.den=1):(a+c).num=a.num+c.num:=by
 have:a+c=((a.num+c.num:Int):Rat):=by refine (Rat.intCast_add ..)▸?_;refine (int_of ha ..)▸?_;exact (int_of hc)▸rfl
 refine this▸?_;exact (Rat.num_intCast ..)▸rfl
theorem num_mul {a c:Rat} (ha:a.den=1) (hc:c.den=1):(a * c).num=a.num * c.num:=by
 have:a * c=((a.num * c.num:Int):Rat):=by refine (Rat.intCast_mul ..)▸?_;refine (int_of ha ..)▸?_;exact (int_of hc)▸rfl
 refine this▸?_;exact (Rat.num_intCast ..)▸rfl
section
variable (v:Str->Rat)
noncomputable abbrev Hv (t:T):Prop:=∃ x,ev v t=some x
noncomputable def wv (t:T):Rat:=(ev v t).getD 0
noncomputable def uR (s:Bool):Rat:=cond s 0 1
noncomputable def foldW (s:Bool) (ts:List T):Rat:=ts.foldr (fun t a=>opR s (wv v t) a) (uR s)
noncomputable abbrev sumW (ts:List T):Rat:=foldW v true ts
noncomputable abbrev prodW (ts:List T):Rat:=foldW v false ts
variable {v}
theorem Hv.eq {t:T} (h:Hv v t):ev v t=some (wv v t):=by obtain ⟨x,h⟩:=h;unfold wv;refine h▸?_;rfl
theorem wv_of {t:T}{x:Rat} (h:ev v t=some x):wv v t=x:=by unfold wv;refine h▸?_;rfl
theorem opR_comm:∀ (s:Bool) (a b:Rat),opR s a b=opR s b a
 | true,a,b=>Rat.add_comm a b
 | false,a,b=>Rat.mul_comm a b
theorem opR_assoc:∀ (s:Bool) (a b c:Rat),opR s (opR s a b) c=opR s a (opR s b c)
 | true,a,b,c=>Rat.add_assoc a b c
 | false,a,b,c=>Rat.mul_assoc a b c
theorem opR_unit:∀ (s:Bool) (a:Rat),opR s (uR s) a=a
 | true,a=>Rat.zero_add a
 | false,a=>Rat.one_mul a
theorem evL_some {s:Bool}:∀ {ts:List T}{r:Rat},(∀ t∈ts,Hv v t)->evL v s ts r=some (opR s r (foldW v s ts))
 | [],r,_=>congrArg some ((opR_unit s r).symm.trans (opR_comm s _ _))
 | t :: ts,r,h=>(congrArg (fun o=>Option.bind o fun x=>evL v s ts (opR s r x)) (h t (.head _)).eq).trans ((evL_some fun u hu=>h u (.tail _ hu)).trans (congrArg some (opR_assoc s _ _ _)))
theorem evL_has {s:Bool}:∀ {ts:List T}{r y:Rat},evL v s ts r=some y->∀ t∈ts,Hv v t
 | t :: ts,r,y,h,u,hu=>have ⟨x,h1,h2⟩:=Option.bind_eq_some_iff.mp h;(List.mem_cons.mp hu).elim (fun e=>e▸⟨x,h1⟩) (evL_has h2 u)
theorem evL_iff {s:Bool}{ts:List T}{y:Rat}:evL v s ts (uR s)=some y↔(∀ t∈ts,Hv v t)∧y=foldW v s ts :=
 ⟨fun h=>⟨evL_has h,Option.some.inj (h.symm.trans ((evL_some (evL_has h)).trans (congrArg some (opR_unit s _))))⟩,fun h=>(evL_some h.1).trans (congrArg some ((opR_unit s _).trans h.2.symm))⟩
theorem ev_sum {ts:List T}{y:Rat}:ev v (.sum ts)=some y↔(∀ t∈ts,Hv v t)∧y=sumW v ts:=evL_iff (s:=true)
theorem ev_prod {ts:List T}{y:Rat}:ev v (.prod ts)=some y↔(∀ t∈ts,Hv v t)∧y=prodW v ts:=evL_iff (s:=false)
theorem ev_nm (r:Rat):ev v (T.nm r)=some r:=by show ev v (.num r.num r.den)=_;rw [ev];rw [ratioO_nm]
theorem wv_nm (r:Rat):wv v (T.nm r)=r:=wv_of (ev_nm r)
theorem sumW_cons (t:T) (ts:List T):sumW v (t :: ts)=wv v t+sumW v ts:=rfl
theorem prodW_cons (t:T) (ts:List T):prodW v (t :: ts)=wv v t * prodW v ts:=rfl
theorem foldW_append {s:Bool}:∀ (ts us:List T),foldW v s (ts ++ us)=opR s (foldW v s ts) (foldW v s us)
 | [],us=>(opR_unit s _).symm
 | t :: ts,us=>(congrArg (opR s (wv v t)) (foldW_append ts us)).trans (opR_assoc s _ _ _).symm
theorem sumW_append (ts us:List T):sumW v (ts ++ us)=sumW v ts+sumW v us:=foldW_append ts us
theorem prodW_append (ts us:List T):prodW v (ts ++ us)=prodW v ts * prodW v us:=foldW_append ts us
theorem foldW_perm {s:Bool}{ts us:List T} (p:ts.Perm us):foldW v s ts=foldW v s us:=by
 induction p with
 | nil=>rfl
 | cons x _ ih=>exact congrArg (opR s (wv v x)) ih
 | swap x y l=>exact (opR_assoc s _ _ _).symm.trans ((congrArg (opR s · _) (opR_comm s _ _)).trans (opR_assoc s _ _ _))
 | trans _ _ i1 i2=>exact i1.trans i2
theorem sumW_perm {ts us:List T} (p:ts.Perm us):sumW v ts=sumW v us:=foldW_perm p
theorem prodW_perm {ts us:List T} (p:ts.Perm us):prodW v ts=prodW v us:=foldW_perm p
theorem prodW_zero {ts:List T} (h:∃ t∈ts,wv v t=0):prodW v ts=0:=by
 obtain ⟨t,ht,h⟩:=h
 induction ts with
 | nil=>cases ht
 | cons x ts ih =>
  rw [prodW_cons]
  rcases List.mem_cons.mp ht with rfl | ht
  ·refine h.symm▸?_;rw [Rat.zero_mul]
  ·refine (ih ht).symm▸?_;rw [Rat.mul_zero]
noncomputable def Madd:Mon Rat:=⟨(·+·),0,Eq,Rat.add_comm,Rat.add_assoc,Rat.zero_add,fun _=>rfl,fun _ _ _ h k=>h.trans k,fun a b c h=>by exact h▸rfl⟩
noncomputable def Mmul:Mon Rat:=⟨(· * ·),1,Eq,Rat.mul_comm,Rat.mul_assoc,Rat.one_mul,fun _=>rfl,fun _ _ _ h k=>h.trans k,fun a b c h=>by exact h▸rfl⟩
set_option tactic.hygienic true in
theorem hd_val (q:Rat):(∀ t∈hdP q,Hv v t)∧prodW v (hdP q)=q:=by
 unfold hdP
 split
 ·rename_i h;exact ⟨fun t ht=>(by cases ht),by refine (h ..)▸?_;rfl⟩
 ·refine ⟨fun t ht=>(by obtain rfl:=List.mem_singleton.mp ht;exact ⟨q,ev_nm q⟩),?_⟩
  refine (prodW_cons ..)▸?_;refine (wv_nm ..)▸?_
  show q * 1=q
  exact (Rat.mul_one ..)▸rfl
theorem rep_val {us:List T} (R:Rep us) {q:Rat} (h0:q≠0) {y:Rat}:ev v (closeP us q)=some y↔(∀ u∈us,Hv v u)∧y=q * prodW v us:=by
 rcases rep_cases R h0 with ⟨x,rfl,rfl,e⟩ | ⟨e,_⟩
 ·refine e.symm▸?_
  have:prodW v [x]=wv v x:=by rw [prodW_cons];show _ * (1:Rat)=_;rw [Rat.mul_one]
  refine this.symm▸?_;rw [Rat.one_mul]
  constructor
  ·intro h;exact ⟨fun u hu=>(by obtain rfl:=List.mem_singleton.mp hu;exact ⟨_,h⟩),(wv_of h).symm⟩
  ·rintro ⟨h,rfl⟩;exact (h x (.head _)).eq
 ·refine e.symm▸?_;rw [ev_prod];rw [prodW_append];refine ((hd_val q).2).symm▸?_
  exact ⟨fun h=>⟨fun u hu=>h.1 u (List.mem_append_right _ hu),h.2⟩,fun h=>⟨fun u hu=>(List.mem_append.mp hu).elim ((hd_val q).1 u) (h.1 u),h.2⟩⟩
theorem part_val {p:T} (h:Nf p) (hv:Hv v p):Hv v p.rest∧wv v p=p.cf * wv v p.rest:=by
 cases hn:p.isNum with
 | true =>
  obtain ⟨r,rfl⟩:=h.numEq hn
  have one:ev v ONE=some 1:=ev_nm 1
  refine (nm_rest ..)▸?_;refine (nm_cf ..)▸?_;refine (wv_nm ..)▸?_;refine (wv_of one ..)▸?_;refine (Rat.mul_one ..)▸?_
  exact ⟨⟨1,one⟩,rfl⟩
 | false =>
  obtain ⟨us,q,R,h0,rfl⟩:=h.rep hn
  obtain ⟨y,hy⟩:=hv
  obtain ⟨a,b⟩:=(rep_val R h0).mp hy
  obtain ⟨c1,c2⟩:=rep_cf R h0
  have e1:ev v (closeP us 1)=some (1 * prodW v us):=(rep_val R ne10).mpr ⟨a,rfl⟩
  refine c1.symm▸?_;refine c2.symm▸?_;refine (wv_of hy).symm▸?_;refine (wv_of e1 ..)▸?_;refine (b ..)▸?_;refine (Rat.one_mul ..)▸?_
  exact ⟨⟨_,e1⟩,rfl⟩
noncomputable abbrev Hvs (v:Str->Rat) (ps:List T):Prop:=∀ p∈ps,Hv v p
theorem flatS_val {parts:List T} (h:Hvs v parts):Hvs v (flatS parts)∧sumW v (flatS parts)=sumW v parts:=by
 induction parts with
 | nil=>exact ⟨fun p hp=>(List.not_mem_nil hp).elim,rfl⟩
 | cons t ts ih =>
  obtain ⟨i1,i2⟩:=ih fun p hp=>h p (.tail _ hp)
  have one:Hvs v t.sumsOf∧sumW v t.sumsOf=wv v t:=by
   cases t with
   | sum us =>
    obtain ⟨y,hy⟩:=h _ (.head _)
    obtain ⟨a,b⟩:=ev_sum.mp hy
    exact ⟨a,by refine (wv_of hy)▸?_;refine b▸?_;rfl⟩
   | _ =>
    refine ⟨fun p hp=>(by obtain rfl:=List.mem_singleton.mp hp;exact h _ (.head _)),?_⟩
    show _+(0:Rat)=_
    exact (Rat.add_zero ..)▸rfl
  refine ⟨fun p hp=>?_,?_⟩
  ·rcases List.mem_append.mp (show p∈t.sumsOf ++ flatS ts from hp) with hp | hp
   ·exact one.1 p hp
   ·exact i1 p hp
  ·show sumW v (t.sumsOf ++ flatS ts)=_
   refine (sumW_append ..)▸?_;refine (one.2 ..)▸?_;refine i2▸?_;rfl
noncomputable abbrev phiS (v:Str->Rat):T->Rat->Rat:=fun k c=>c * wv v k
theorem fold_sum (ps:List T) (h:NFs ps) (hv:Hvs v ps):Madd.fold (phiS v) (count ps)=sumW v ps:=by
 have h1:=(Madd.fold_G (phiS v) (fun _ _=>True) (fun _ _ _ _ _=>trivial) (fun k a c _ _=>Rat.add_mul a c _) (ps.map fun p=>(p.rest,p.cf)) fun _ _=>trivial).1
 refine (count_G ..)▸?_
 refine h1.trans ?_
 clear h1
 induction ps with
 | nil=>rfl
 | cons p ps ih =>
  refine (List.map_cons ..)▸?_;refine (Madd.fold_cons ..)▸?_;refine (ih (fun p hp=>h p (.tail _ hp)) fun p hp=>hv p (.tail _ hp) ..)▸?_;rw [sumW_cons]
  show p.cf * wv v p.rest+_=_
  exact ((part_val (h p (.head _)) (hv p (.head _))).2 ..)▸rfl
open Classical in
theorem fold_drop {es:List (T×Rat)} (hk:(es.map (·.1)).Nodup) (φ:T->Rat->Rat) (h0:φ ONE 0=0):Madd.fold φ es=φ ONE ((lookT es ONE).getD 0)+Madd.fold φ (dropT es ONE):=by
 induction es with
 | nil=>refine look_nil▸?_;show (0:Rat)=φ ONE 0+0;refine h0.symm▸?_;rw [Rat.add_zero]
 | cons x es ih =>
  rw [List.map_cons,List.nodup_cons] at hk
  refine (Madd.fold_cons ..)▸?_;refine (ih hk.2 ..)▸?_
  unfold dropT lookT
  refine List.filter_cons▸?_;refine (List.find?_cons)▸?_
  by_cases hx:x.1=ONE
  ·have hn:lookT es ONE=none:=lookT_none.mpr (hx▸hk.1)
   unfold lookT at hn
   refine hn▸?_
   simp only [hx,ne_eq,not_true_eq_false,decide_false,Bool.false_eq_true,if_false,decide_true,Option.map_some,Option.getD_some,Option.getD_none,h0]
   show φ ONE x.2+(0+_)=_
   exact (Rat.zero_add ..)▸rfl
  ·simp only [hx,ne_eq,not_false_eq_true,decide_true,if_true,decide_false]
   refine (Madd.fold_cons ..)▸?_
   show φ x.1 x.2+(_+_)=_+(φ x.1 x.2+_)
   refine (Rat.add_assoc ..)▸?_;refine (Rat.add_assoc ..)▸?_;exact (Rat.add_comm (φ x.1 x.2) ..)▸rfl
open Classical in
theorem fold_filter (M:Mon Rat) (φ:T->Rat->Rat) (h0:∀ k,φ k 0=M.e) (es:List (T×Rat)) (hR:∀ k e,(k,e)∈es->e=0->φ k e=M.e):M.fold φ (es.filter fun x=>decide (x.2≠0))=M.fold φ es:=by
 induction es with
 | nil=>rfl
 | cons x es ih =>
  rw [List.filter_cons];rw [M.fold_cons];rw [← ih fun k e hm=>hR k e (.tail _ hm)]
  by_cases hx:x.2=0
  ·rw [if_neg (by simpa using hx)];rw [hR x.1 x.2 (.head _) hx];rw [M.unit]
  ·rw [if_pos (by simpa using hx)];rw [M.fold_cons]
theorem oth_val {ps:List T} (h:NFs ps) (hv:Hvs v ps):Hvs v (foundS ps)∧sumW v (foundS ps)=Madd.fold (phiS v) (othS ps):=by
 have ent:∀ x∈othS ps,∃ us,Rep us∧x.1=closeP us 1∧x.2≠0∧∀ u∈us,Hv v u:=fun x hx=>by
  obtain ⟨h1,h2,h3⟩:=othS_mem.mp (show (x.1,x.2)∈othS ps from hx)
  rw [count_G,G_mem] at h1
  obtain ⟨y,hy,e1⟩:=List.mem_map.mp h1.1
  obtain ⟨p,hp,rfl⟩:=List.mem_map.mp hy
  cases hn:p.isNum with
  | true =>
   obtain ⟨r,rfl⟩:=(h p hp).numEq hn
   exact absurd e1.symm h2
  | false =>
   obtain ⟨us,q,R,h0,rfl⟩:=(h p hp).rep hn
   obtain ⟨y,hy⟩:=hv _ hp
   exact ⟨us,R,by refine e1▸?_;exact (rep_cf R h0).2,h3,((rep_val R h0).mp hy).1⟩
 unfold foundS
 generalize othS ps=es at ent
 induction es with
 | nil=>exact ⟨fun p hp=>(List.not_mem_nil hp).elim,rfl⟩
 | cons x es ih =>
  obtain ⟨i1,i2⟩:=ih fun y hy=>ent y (.tail _ hy)
  obtain ⟨us,R,e1,h0,hu⟩:=ent x (.head _)
  have e2:ev v (withN x.2 x.1)=some (x.2 * prodW v us):=by
   refine e1▸?_;refine (rep_with R h0)▸?_;exact (rep_val R h0).mpr ⟨hu,rfl⟩
  have e3:ev v x.1=some (1 * prodW v us):=by
   refine e1▸?_;exact (rep_val R ne10).mpr ⟨hu,rfl⟩
  refine List.map_cons▸?_
  refine ⟨fun p hp=>(List.mem_cons.mp hp).elim (fun e=>e▸⟨_,e2⟩) (i1 p),?_⟩
  refine (sumW_cons ..)▸?_;refine (Madd.fold_cons ..)▸?_;refine i2▸?_;refine (wv_of e2)▸?_
  show _=x.2 * wv v x.1+_
  refine (wv_of e3)▸?_;exact (Rat.one_mul ..)▸rfl
theorem round_val {parts:List T} (h:NFs parts) (hv:Hvs v parts):Hvs v (foundS (flatS parts))∧sumW v parts=sumW v (foundS (flatS parts))+numS (flatS parts):=by
 obtain ⟨f1,f2⟩:=flatS_val hv
 have hf:NFs (flatS parts):=fun p hp=>(flatS_NF h p hp).1
 obtain ⟨o1,o2⟩:=oth_val hf f1
 refine ⟨o1,?_⟩
 have one:ev v ONE=some 1:=ev_nm 1
 have z:phiS v ONE 0=0:=Rat.zero_mul _
 have e3:Madd.fold (phiS v) (othS (flatS parts))=Madd.fold (phiS v) (dropT (count (flatS parts)) ONE):=by
  unfold othS
  exact fold_filter Madd (phiS v) (fun k=>Rat.zero_mul _) _ fun k e _ h=>by refine h▸?_;exact Rat.zero_mul _
 refine f2▸?_;refine (fold_sum _ hf f1)▸?_;refine (fold_drop (count_keys _) (phiS v) z)▸?_;refine o2▸?_;refine e3▸?_;refine (Rat.add_comm ..)▸?_
 show _+(lookT (count (flatS parts)) ONE).getD 0 * wv v ONE=_+numS (flatS parts)
 refine (wv_of one)▸?_;refine (Rat.mul_one ..)▸?_;rfl
set_option tactic.hygienic true in
theorem tail_val (q:Rat):Hvs v (tailS q)∧sumW v (tailS q)=q:=by
 unfold tailS
 split
 ·rename_i h;exact ⟨fun t ht=>(by cases ht),by refine (h ..)▸?_;rfl⟩
 ·refine ⟨fun t ht=>(by obtain rfl:=List.mem_singleton.mp ht;exact ⟨q,ev_nm q⟩),?_⟩
  refine (sumW_cons ..)▸?_;refine (wv_nm ..)▸?_
  show q+0=q
  exact (Rat.add_zero ..)▸rfl
theorem closeL_val {l:List T} (h:Hvs v l):ev v (closeL l)=some (sumW v l):=by
 match l,h with
 | [],_=>exact ev_nm 0
 | [x],h =>
  show ev v x=some (wv v x+0)
  refine (Rat.add_zero ..)▸?_;exact (h x (.head _)).eq
 | a :: b :: r,h=>exact ev_sum.mpr ⟨h,rfl⟩
theorem GS_val {parts:List T}{t:T} (g:GS parts t) (h:NFs parts) (hv:Hvs v parts):ev v t=some (sumW v parts):=by
 induction g with
 | @done parts us hno hs =>
  obtain ⟨r1,r2⟩:=round_val h hv
  refine (closeL_val (fun p hp=>(List.mem_append.mp hp).elim (fun q=>r1 p (hs.1.mem_iff.mp q)) ((tail_val _).1 p)))▸?_;refine (sumW_append ..)▸?_;refine ((tail_val _).2 ..)▸?_;refine (sumW_perm hs.1)▸?_;exact r2▸rfl
 | @again parts u hex _ ih =>
  obtain ⟨r1,r2⟩:=round_val h hv
  rw [ih (nextS_NF h) fun p hp=>?_]
  ·rw [sumW_append];rw [r2]
   show some (_+(wv v _+0))=_
   refine (wv_nm ..)▸?_;exact (Rat.add_zero ..)▸rfl
  ·rcases List.mem_append.mp hp with hp | hp
   ·exact r1 p hp
   ·obtain rfl:=List.mem_singleton.mp hp;exact ⟨_,ev_nm _⟩
end
end
section
section
variable {v:Str->Rat}
theorem ev_pow {b:T}{e:Rat} (he:e.den=1) {y:Rat}:ev v (.pow b (T.nm e))=some y↔∃ x,ev v b=some x∧(x≠0∨0 < e.num)∧y=x ^ e.num:=by
 rw [ev];rw [ev_nm]
 cases q:ev v b with
 | none=>exact ⟨fun h=>(by exact non h),fun hq_=>by obtain ⟨x,h,_⟩:=hq_;exact (by exact non h)⟩
 | some x =>
  refine (powO_some ..)▸?_
  by_cases h:x=0∧e.num≤0
  ·rw [if_pos (.inr h)]
   refine ⟨fun h=>(by exact non h),fun ⟨x',h1,h2,_⟩=>?_⟩
   cases Option.some.inj h1
   rcases h2 with h2 | h2
   ·exact absurd h.1 h2
   ·lia
  ·rw [if_neg (by rintro (h' | h');exact h' he;exact h h')];rw [rpow_zpow]
   refine ⟨fun h'=>⟨x,rfl,?_,(Option.some.inj h').symm⟩,fun ⟨x',h1,_,h3⟩=>by cases Option.some.inj h1;exact h3▸rfl⟩
   by_cases hx:x=0
   ·exact .inr (by have:¬ e.num≤0:=fun q=>h ⟨hx,q⟩;lia)
   ·exact .inl hx
noncomputable abbrev phiP (v:Str->Rat):T->Rat->Rat:=fun b e=>wv v b ^ e.num
noncomputable def Gd (v:Str->Rat) (b:T) (e:Rat):Prop:=e.den=1∧Hv v b∧(wv v b≠0∨0 < e.num)
theorem gd_add {b:T}{a c:Rat} (h:Gd v b a) (k:Gd v b c):Gd v b (a+c)∧phiP v b (a+c)=phiP v b a * phiP v b c:=by
 have hn:=num_add h.1 k.1
 refine ⟨⟨den_add h.1 k.1,h.2.1,?_⟩,?_⟩
 ·by_cases h0:wv v b=0
  ·have h1:=h.2.2.resolve_left (fun q=>q h0)
   have h2:=k.2.2.resolve_left (fun q=>q h0)
   refine hn▸?_;exact .inr (by omega)
  ·exact .inl h0
 ·show wv v b ^ (a+c).num=_
  refine hn▸?_
  refine zz_add ?_
  by_cases h0:wv v b=0
  ·exact .inr ⟨h.2.2.resolve_left (fun q=>q h0),k.2.2.resolve_left (fun q=>q h0)⟩
  ·exact .inl h0
set_option tactic.hygienic true in
theorem powT_val {b:T}{e:Rat} (h0:e≠0) (g:Gd v b e):ev v (powT b e)=some (phiP v b e):=by
 unfold powT
 refine (if_neg h0)▸?_
 split
 ·rename_i h1
  subst h1
  refine g.2.1.eq▸?_
  show _=some (wv v b ^ (1:Int))
  exact (Rat.zpow_one ..)▸rfl
 ·exact (ev_pow g.1).mpr ⟨_,g.2.1.eq,g.2.2,rfl⟩
theorem fac_val {f:T} (hf:Fc f) (hv:Hv v f):Gd v f.base f.exp.val∧wv v f=phiP v f.base f.exp.val:=by
 have e:=hf.pow_eq
 have hd:=hf.expDen
 rcases hf with ha | ⟨b,j,rfl,hb,hj,h0,h1⟩
 ·have one:(T.num 1 1).val=1:=by decide +kernel
  have:f.base=f∧f.exp=.num 1 1:=by
   cases f with
   | pow b x=>exact absurd rfl (ha.pow b x)
   | _=>exact ⟨rfl,rfl⟩
  refine this.1.symm▸?_;refine this.2.symm▸?_;refine one.symm▸?_
  refine ⟨⟨rfl,hv,.inr (by decide)⟩,?_⟩
  show _=wv v f ^ (1:Int)
  exact (Rat.zpow_one ..)▸rfl
 ·obtain ⟨y,hy⟩:=hv
  obtain ⟨x,hx,hg,rfl⟩:=(ev_pow hj).mp hy
  show Gd v b (T.nm j).val∧wv v _=wv v b ^ (T.nm j).val.num
  refine (T.val_nm ..)▸?_;refine (wv_of hy ..)▸?_;refine (wv_of hx ..)▸?_
  exact ⟨⟨hj,⟨x,hx⟩,by refine (wv_of hx ..)▸?_;exact hg⟩,rfl⟩
theorem flatP_val {parts:List T} (h:Hvs v parts):Hvs v (flatP parts)∧prodW v (flatP parts)=prodW v parts:=by
 induction parts with
 | nil=>exact ⟨fun p hp=>(List.not_mem_nil hp).elim,rfl⟩
 | cons t ts ih =>
  obtain ⟨i1,i2⟩:=ih fun p hp=>h p (.tail _ hp)
  have one:Hvs v t.facs∧prodW v t.facs=wv v t:=by
   cases t with
   | prod us =>
    obtain ⟨y,hy⟩:=h _ (.head _)
    obtain ⟨a,b⟩:=ev_prod.mp hy
    exact ⟨a,by refine (wv_of hy)▸?_;refine b▸?_;rfl⟩
   | _ =>
    refine ⟨fun p hp=>(by obtain rfl:=List.mem_singleton.mp hp;exact h _ (.head _)),?_⟩
    show _ * (1:Rat)=_
    exact (Rat.mul_one ..)▸rfl
  refine ⟨fun p hp=>?_,?_⟩
  ·rcases List.mem_append.mp (show p∈t.facs ++ flatP ts from hp) with hp | hp
   ·exact one.1 p hp
   ·exact i1 p hp
  ·show prodW v (t.facs ++ flatP ts)=_
   refine (prodW_append ..)▸?_;refine (one.2 ..)▸?_;refine i2▸?_;rfl
theorem split_val {ps:List T} (h:Pfs ps) (hv:Hvs v ps):prodW v ps=numP' ps * prodW v (ps.filter fun p=>!p.isNum):=by
 induction ps with
 | nil=>show (1:Rat)=1 * 1;exact (Rat.mul_one ..)▸rfl
 | cons p ps ih =>
  refine (prodW_cons ..)▸?_;refine (numP_cons ..)▸?_;refine (ih (fun p hp=>h p (.tail _ hp)) fun p hp=>hv p (.tail _ hp) ..)▸?_;rw [List.filter_cons]
  cases hn:p.isNum with
  | true =>
   obtain ⟨r,rfl⟩:=(h p (.head _)).nf.numEq hn
   refine (if_pos rfl ..)▸?_;rw [if_neg (by decide)];refine (wv_nm ..)▸?_;refine (T.val_nm ..)▸?_;exact (Rat.mul_assoc ..)▸rfl
  | false =>
   rw [if_neg (by decide)];rw [if_pos (by decide)];refine (prodW_cons ..)▸?_;refine (Rat.one_mul ..)▸?_;refine (Rat.mul_assoc ..)▸?_;refine (Rat.mul_assoc ..)▸?_;exact (Rat.mul_comm (wv v p) ..)▸rfl
theorem foldP_val {ps:List T} (h:Pfs ps) (hv:Hvs v ps):Hvs v (foundP ps)∧prodW v (ps.filter fun p=>!p.isNum)=prodW v (foundP ps):=by
 have hl:∀ x∈(ps.filter fun p=>!p.isNum).map (fun p=>(p.base,p.exp.val)),Gd v x.1 x.2:=fun x hx=>by
  obtain ⟨p,hp,rfl⟩:=List.mem_map.mp hx
  obtain ⟨hp,hn⟩:=List.mem_filter.mp hp
  exact (fac_val ((h p hp).nonnum (by simpa using hn)).2 (hv p hp)).1
 obtain ⟨e1,e2⟩:=Mmul.fold_G (phiP v) (Gd v) (fun k a c h1 h2=>(gd_add h1 h2).1) (fun k a c h1 h2=>(gd_add h1 h2).2) _ hl
 have e3:Mmul.fold (phiP v) ((ps.filter fun p=>!p.isNum).map fun p=>(p.base,p.exp.val))=prodW v (ps.filter fun p=>!p.isNum):=by
  have hf:∀ p∈ps.filter (fun p=>!p.isNum),wv v p=phiP v p.base p.exp.val:=fun p hp=>by
   obtain ⟨hp,hn⟩:=List.mem_filter.mp hp
   exact (fac_val ((h p hp).nonnum (by simpa using hn)).2 (hv p hp)).2
  generalize ps.filter (fun p=>!p.isNum)=fs at hf
  induction fs with
  | nil=>rfl
  | cons f fs ih =>
   refine List.map_cons▸?_;refine (Mmul.fold_cons ..)▸?_;refine (prodW_cons ..)▸?_;refine (hf f (.head _))▸?_;refine (ih fun p hp=>hf p (.tail _ hp))▸?_;rfl
 refine e3▸?_;refine (show Mmul.fold (phiP v) (G _)=Mmul.fold (phiP v) _ from e1)▸?_
 unfold foundP
 rw [countE_G]
 rw [← fold_filter Mmul (phiP v) (fun k=>Rat.zpow_zero _) _ fun k e _ h=>by rw [h];exact Rat.zpow_zero _]
 have e4:∀ x∈(G ((ps.filter fun p=>!p.isNum).map fun p=>(p.base,p.exp.val))).filter (fun x=>decide (x.2≠0)),ev v (powT x.1 x.2)=some (phiP v x.1 x.2):=fun x hx=>by
  obtain ⟨hx,h0⟩:=List.mem_filter.mp hx
  exact powT_val (by simpa using h0) (e2 x hx)
 generalize (G ((ps.filter fun p=>!p.isNum).map fun p=>(p.base,p.exp.val))).filter (fun x=>decide (x.2≠0))=es at e4
 induction es with
 | nil=>exact ⟨fun p hp=>(List.not_mem_nil hp).elim,rfl⟩
 | cons x es ih =>
  obtain ⟨i1,i2⟩:=ih fun y hy=>e4 y (.tail _ hy)
  refine List.map_cons▸?_;rw [Mmul.fold_cons];refine (prodW_cons ..)▸?_;refine i2▸?_;refine (wv_of (e4 x (.head _)))▸?_
  exact ⟨fun p hp=>(List.mem_cons.mp hp).elim (fun e=>e▸⟨_,e4 x (.head _)⟩) (i1 p),rfl⟩
theorem GP_val {parts:List T}{t:T} (g:GP parts t) (h:NFs parts) (hv:Hvs v parts):ev v t=some (prodW v parts):=by
 obtain ⟨f1,f2⟩:=flatP_val hv
 have hp:=flatP_Pf h
 obtain ⟨o1,o2⟩:=foldP_val hp f1
 refine f2▸?_;refine (split_val hp f1)▸?_;refine o2▸?_
 rcases g with ⟨h0,rfl⟩ | ⟨h0,us,hs,rfl⟩
 ·refine h0▸?_;rw [Rat.zero_mul];exact ev_nm 0
 ·refine (prodW_perm hs.1)▸?_
  by_cases hu:us=[]
  ·subst hu
   show ev v (T.nm _)=some (_ * 1)
   refine (Rat.mul_one ..)▸?_;exact ev_nm _
  ·have R:Rep us:=⟨hu,fun u hu=>(foundP_mem hp u (hs.1.mem_iff.mp hu)).1,fun u hu=>(foundP_mem hp u (hs.1.mem_iff.mp hu)).2,(hs.1.map _).nodup_iff.mpr (foundP_base hp),hs.2⟩
   exact (rep_val R h0).mpr ⟨fun u hu=>o1 u (hs.1.mem_iff.mp hu),rfl⟩
theorem powF_val {p:T}{e:Rat} (h:Pf p) (he:e.den=1) (h0:e≠0) (hv:Hv v p) (hg:wv v p≠0∨0 < e.num):ev v (powF p e)=some (wv v p ^ e.num):=by
 rcases h with ⟨r,rfl⟩ | ⟨nf,fc⟩
 ·refine (powF_num ..)▸?_;refine (wv_nm ..)▸?_;refine (rpow_zpow ..)▸?_;exact ev_nm _
 ·rcases fc with ha | ⟨b,j,rfl,hb,hj,j0,j1⟩
  ·refine (powF_atom ha ..)▸?_;exact powT_val h0 ⟨he,hv,hg⟩
  ·obtain ⟨g1,g2⟩:=fac_val (.inr ⟨b,j,rfl,hb,hj,j0,j1⟩) hv
   have g1:Gd v b j:=by have:=g1;rw [show (T.pow b (T.nm j)).exp.val=j from T.val_nm j] at this;exact this
   have g2:wv v (.pow b (T.nm j))=wv v b ^ j.num:=by refine (g2 ..)▸?_;show wv v b ^ (T.nm j).val.num=_;exact (T.val_nm ..)▸rfl
   by_cases h1:e=1
   ·refine (powF_1 h1).symm▸?_;refine hv.eq.symm▸?_;refine h1.symm▸?_
    show _=some (_ ^ (1:Int))
    exact (Rat.zpow_one ..)▸rfl
   ·have e1:powF (.pow b (T.nm j)) e=powT b (j * e):=powF_n h0 h1
    have hn:=num_mul hj he
    refine (e1 ..)▸?_;rw [powT_val (fun h=>(Rat.mul_eq_zero.mp h).elim j0 h0) ⟨den_mul hj he,g1.2.1,?_⟩]
    ·show some (wv v b ^ (j * e).num)=_
     refine (hn ..)▸?_;refine (g2 ..)▸?_;exact (zz_zz ..)▸rfl
    ·by_cases hb0:wv v b=0
     ·right
      have jp:=g1.2.2.resolve_left (fun q=>q hb0)
      rw [g2,hb0,zz_pos jp] at hg
      have ep:=hg.resolve_left (fun q=>q rfl)
      refine (hn ..)▸?_;exact Int.mul_pos jp ep
     ·exact .inl hb0
theorem PW_val {b:T}{e:Rat}{t:T} (hb:Nf b) (he:e.den=1) (h:PW b e t) (hv:Hv v b) (hg:wv v b≠0∨0 < e.num):ev v t=some (wv v b ^ e.num):=by
 rcases h with ⟨z,rfl⟩ | ⟨z,rfl⟩ | ⟨h0,h1,⟨ps,rfl,g⟩ | ⟨hp,rfl⟩⟩
 ·subst z
  show _=some (_ ^ (0:Int))
  refine (Rat.zpow_zero ..)▸?_;exact ev_nm 1
 ·subst z
  show _=some (_ ^ (1:Int))
  refine (Rat.zpow_one ..)▸?_;exact hv.eq
 ·obtain ⟨y,hy⟩:=hv
  obtain ⟨a1,a2⟩:=ev_prod.mp hy
  rw [wv_of hy,a2] at hg ⊢
  have hpf:=hb.facs_Pf
  have each:∀ p∈ps,ev v (powF p e)=some (wv v p ^ e.num):=fun p hp=>by
   refine powF_val (hpf p hp) he h0 (a1 p hp) ?_
   by_cases h:wv v p=0
   ·right
    rw [prodW_zero ⟨p,hp,h⟩] at hg
    exact hg.resolve_left (fun q=>q rfl)
   ·exact .inl h
  rw [GP_val g (fun p hp=>(powF_parts hb he h0 p hp).nf) fun p hp=>?_]
  ·congr 1
   clear g hy hg a1 a2 hpf
   induction ps with
   | nil =>
    have:(1:Rat) ^ e.num=1:=by rw [← rpow_zpow];exact rpow_one _
    exact this.symm
   | cons p ps ih =>
    rw [List.map_cons];rw [prodW_cons];rw [prodW_cons];rw [zz_mul];rw [wv_of (each p (.head _))]
    congr 1
    have:∀ qs:List T,(∀ q∈qs,ev v (powF q e)=some (wv v q ^ e.num))->prodW v (qs.map fun p=>powF p e)=prodW v qs ^ e.num:=by
     intro qs
     induction qs with
     | nil =>
      intro _
      have:(1:Rat) ^ e.num=1:=by rw [← rpow_zpow];exact rpow_one _
      exact this.symm
     | cons q qs ih =>
      intro hq
      rw [List.map_cons];rw [prodW_cons];rw [prodW_cons];rw [zz_mul];rw [wv_of (hq q (.head _))];rw [ih fun q' h'=>hq q' (.tail _ h')]
    exact this ps fun q hq=>each q (.tail _ hq)
  ·obtain ⟨x,hx,rfl⟩:=List.mem_map.mp hp
   exact ⟨_,each x hx⟩
 ·have:b.facs=[b]:=by
   cases b with
   | prod ts=>cases hp
   | _=>rfl
  exact powF_val (hb.facs_Pf b (by refine (this ..)▸?_;exact .head _)) he h0 hv hg
theorem Simps.val {n:Nat}:∀ {ts us:List T},(∀ t∈ts,∀ u,Simp t u->∀ x,ev v t=some x->ev v u=some x)->Hvs v ts->Simps ts us->Hvs v us∧sumW v us=sumW v ts∧prodW v us=prodW v ts
 | [],us,_,_,h=>by rw [Simps] at h;subst h;exact ⟨fun p hp=>(List.not_mem_nil hp).elim,rfl,rfl⟩
 | t :: ts,us,k,hv,h=>by
  rw [Simps] at h
  obtain ⟨u,us',rfl,h1,h2⟩:=h
  obtain ⟨i1,i2,i3⟩:=Simps.val (n:=n) (fun t ht=>k t (.tail _ ht)) (fun t ht=>hv t (.tail _ ht)) h2
  have e:=k t (.head _) u h1 _ (hv t (.head _)).eq
  refine ⟨fun p hp=>(List.mem_cons.mp hp).elim (fun q=>q▸⟨_,e⟩) (i1 p),?_,?_⟩
  ·refine (sumW_cons ..)▸?_;rw [sumW_cons];refine i2▸?_;exact (wv_of e)▸rfl
  ·refine (prodW_cons ..)▸?_;rw [prodW_cons];refine i3▸?_;exact (wv_of e)▸rfl
theorem Simp_val:∀ (n:Nat) (t:T),t.ht≤n->WF t->(∀ u,Simp t u->∀ x,ev v t=some x->ev v u=some x)∧(Fails t->ev v t=none):=by
 intro n
 induction n with
 | zero =>
  intro t ht hw
  cases t with
  | num p q =>
   refine ⟨fun u h x hx=>?_,fun h=>by rw [Fails] at h;exact h.elim⟩
   rw [Simp] at h
   rw [WF] at hw
   rw [ev,ratioO,if_neg hw] at hx
   refine h▸?_;rw [ev_nm];exact hx
  | sym x=>exact ⟨fun u h y hy=>by rw [Simp] at h;refine h▸?_;exact hy,fun h=>by rw [Fails] at h;exact h.elim⟩
  | pow b e=>rw [T.ht] at ht;lia
  | sum ts=>rw [T.ht] at ht;lia
  | prod ts=>rw [T.ht] at ht;lia
 | succ n ih =>
  intro t ht hw
  have many:∀ ts:List T,T.hts ts≤n->WFs ts->(∀ us,Simps ts us->NFs us)∧(∀ us,Simps ts us->Hvs v ts->Hvs v us∧sumW v us=sumW v ts∧prodW v us=prodW v ts)∧(Failss ts->¬ Hvs v ts):=fun ts hh hw=>by
   rw [wfs_iff] at hw
   refine ⟨fun us h u hu=>?_,fun us h hv=>Simps.val (n:=0) (fun t htm u hs x hx=>(ih t (by have:=hts_mem t htm;lia) (hw t htm)).1 u hs x hx) hv h,fun hf hv=>?_⟩
   ·obtain ⟨t,htm,hst⟩:=h.mem u hu
    exact Simp_NF n t (by have:=hts_mem t htm;lia) (hw t htm) u hst
   ·obtain ⟨t,htm,hf⟩:=failss_mem hf
    have:=(ih t (by have:=hts_mem t htm;lia) (hw t htm)).2 hf
    obtain ⟨x,hx⟩:=hv t htm
    exact nob this hx
  cases t with
  | num p q =>
   refine ⟨fun u h x hx=>?_,fun h=>by rw [Fails] at h;exact h.elim⟩
   rw [Simp] at h
   rw [WF] at hw
   rw [ev,ratioO,if_neg hw] at hx
   refine h▸?_;rw [ev_nm];exact hx
  | sym x=>exact ⟨fun u h y hy=>by rw [Simp] at h;refine h▸?_;exact hy,fun h=>by rw [Fails] at h;exact h.elim⟩
  | pow b e =>
   rw [T.ht] at ht
   rw [WF] at hw
   obtain ⟨hb,j,rfl,hj⟩:=hw
   obtain ⟨i1,i2⟩:=ih b (by lia) hb
   refine ⟨fun u h x hx=>?_,fun h=>?_⟩
   ·rw [Simp] at h
    obtain ⟨b',h1,_,h2⟩:=h
    rw [T.val_nm] at h2
    obtain ⟨y,hy,hg,rfl⟩:=(ev_pow hj).mp hx
    have e:=i1 b' h1 y hy
    refine (PW_val (Simp_NF n b (by lia) hb b' h1) hj h2 ⟨y,e⟩ (by refine (wv_of e ..)▸?_;exact hg))▸?_;exact (wv_of e)▸rfl
   ·cases q:ev v (.pow b (T.nm j)) with
    | none=>rfl
    | some x =>
     obtain ⟨y,hy,hg,_⟩:=(ev_pow hj).mp q
     rw [Fails] at h
     rcases h with h | ⟨b',h1,h2,h3⟩
     ·exact nob (i2 h) hy
     ·have e:=i1 b' h1 y hy
      rw [h2] at e
      have hz:ev v ZERO=some 0:=ev_nm 0
      rw [hz] at e
      have:=Option.some.inj e
      rw [T.val_nm] at h3
      rcases hg with hg | hg
      ·exact absurd this.symm hg
      ·lia
  | sum ts =>
   rw [T.ht] at ht
   rw [WF] at hw
   obtain ⟨m1,m2,m3⟩:=many ts (by lia) hw
   refine ⟨fun u h x hx=>?_,fun h=>?_⟩
   ·rw [Simp] at h
    obtain ⟨us,h1,h2⟩:=h
    obtain ⟨a,rfl⟩:=ev_sum.mp hx
    obtain ⟨b1,b2,_⟩:=m2 us h1 a
    refine (GS_val h2 (m1 us h1) b1)▸?_;exact b2▸rfl
   ·rw [Fails] at h
    cases q:ev v (.sum ts) with
    | none=>rfl
    | some x=>exact absurd (ev_sum.mp q).1 (m3 h)
  | prod ts =>
   rw [T.ht] at ht
   rw [WF] at hw
   obtain ⟨m1,m2,m3⟩:=many ts (by lia) hw
   refine ⟨fun u h x hx=>?_,fun h=>?_⟩
   ·rw [Simp] at h
    obtain ⟨us,h1,h2⟩:=h
    obtain ⟨a,rfl⟩:=ev_prod.mp hx
    obtain ⟨b1,_,b2⟩:=m2 us h1 a
    refine (GP_val h2 (m1 us h1) b1)▸?_;exact b2▸rfl
   ·rw [Fails] at h
    cases q:ev v (.prod ts) with
    | none=>rfl
    | some x=>exact absurd (ev_prod.mp q).1 (m3 h)
end
end
section
noncomputable def Hq (r:Rat):Nat:=r.num.natAbs+r.den+1
theorem norm_le (n:Int) (d:Nat) (h:d≠0):(Rat.normalize n d h).num.natAbs≤n.natAbs∧(Rat.normalize n d h).den≤d:=by
 rw [Rat.normalize_eq]
 exact ⟨Int.natAbs_ediv_le_natAbs _ _,Nat.div_le_self _ _⟩
theorem Hq_two (r:Rat):2≤Hq r:=Nat.succ_le_succ (Nat.le_trans r.den_pos (Nat.le_add_left _ _))
theorem Hq_three {r:Rat} (h:r≠0):3≤Hq r:=Nat.succ_le_succ (Nat.add_le_add (Int.natAbs_pos.mpr fun e=>h (Rat.num_eq_zero.mp e)) r.den_pos)
theorem Hq_one:Hq 1=3:=rfl
theorem Hq_zero:Hq 0=2:=rfl
theorem hq_sum (A B C D:Nat):A * D+C * B+B * D+1≤(A+B+1) * (C+D+1):=by
 rw [Nat.add_assoc (A * D)];rw [Nat.mul_comm C B];rw [← Nat.mul_add];rw [Nat.add_mul];rw [Nat.add_mul];rw [Nat.one_mul]
 exact Nat.add_le_add (Nat.add_le_add (Nat.mul_le_mul_left _ (Nat.le_succ_of_le (Nat.le_add_left _ _))) (Nat.mul_le_mul_left _ (Nat.le_succ _))) (Nat.succ_le_succ (Nat.zero_le _))
theorem hq_prod (A B C D:Nat):A * C+B * D+1≤(A+B+1) * (C+D+1):=by
 rw [Nat.add_mul];rw [Nat.add_mul];rw [Nat.one_mul]
 exact Nat.add_le_add (Nat.add_le_add (Nat.mul_le_mul_left _ (Nat.le_succ_of_le (Nat.le_add_right _ _))) (Nat.mul_le_mul_left _ (Nat.le_succ_of_le (Nat.le_add_left _ _)))) (Nat.succ_le_succ (Nat.zero_le _))
theorem Hq_add (a c:Rat):Hq (a+c)≤Hq a * Hq c:=by
 have h:=norm_le (a.num * c.den+c.num * a.den) (a.den * c.den) (Nat.mul_ne_zero a.den_nz c.den_nz)
 rw [← Rat.add_def] at h
 have h3:=Int.natAbs_add_le (a.num * c.den) (c.num * a.den)
 rw [Int.natAbs_mul,Int.natAbs_mul,Int.natAbs_natCast,Int.natAbs_natCast] at h3
 exact Nat.le_trans (Nat.succ_le_succ (Nat.add_le_add (Nat.le_trans h.1 h3) h.2)) (hq_sum _ _ _ _)
theorem Hq_mul (a c:Rat):Hq (a * c)≤Hq a * Hq c:=by
 have h:=norm_le (a.num * c.num) (a.den * c.den) (Nat.mul_ne_zero a.den_nz c.den_nz)
 rw [← Rat.mul_def,Int.natAbs_mul] at h
 exact Nat.le_trans (Nat.succ_le_succ (Nat.add_le_add h.1 h.2)) (hq_prod _ _ _ _)
theorem Hq_inv (a:Rat):Hq a⁻¹≤Hq a:=by
 unfold Hq
 rw [Rat.num_inv];rw [Rat.den_inv];rw [Int.natAbs_mul];rw [Int.natAbs_natCast]
 by_cases h:a.num=0
 ·refine h.symm▸?_;simp;exact a.den_pos
 ·refine (if_neg h).symm▸?_;refine (Int.natAbs_sign_of_ne_zero h).symm▸?_;lia
theorem Hq_pow (a:Rat):∀ n:Nat,Hq (a ^ (n+1))≤Hq a ^ (n+1)
 | 0=>by simp
 | n+1=>by
  rw [Rat.pow_succ];rw [Nat.pow_succ]
  exact Nat.le_trans (Hq_mul _ _) (Nat.mul_le_mul_right _ (Hq_pow a n))
theorem Hq_zpow (a:Rat) {n:Int} (h:n≠0):Hq (a ^ n)≤Hq a ^ n.natAbs:=by
 obtain ⟨m,rfl | rfl⟩:=n.eq_nat_or_neg <;> cases m with
 | zero=>exact absurd rfl h
 | succ k=>first
  | (refine (zz_nat ..)▸?_;exact Hq_pow a k)
  | (refine (Rat.zpow_neg ..)▸?_;refine (zz_nat ..)▸?_;refine (Int.natAbs_neg ..)▸?_;exact Nat.le_trans (Hq_inv _) (Hq_pow a k))
noncomputable def mx (e:Rat):Nat:=max e.num.natAbs 1
mutual
noncomputable def Ht:T->Nat
 | .num p q=>Hq (Rat.divInt p q)
 | .sym _=>16
 | .pow b e=>Ht b ^ mx e.val
 | .sum ts=>Hts ts
 | .prod ts=>Hts ts
noncomputable def Hts:List T->Nat
 | []=>1
 | t :: ts=>Ht t * Hts ts
end
theorem Ht_nm (r:Rat):Ht (T.nm r)=Hq r:=by show Ht (.num r.num r.den)=_;rw [Ht];rw [Rat.num_divInt_den]
theorem Hts_append (ts us:List T):Hts (ts ++ us)=Hts ts * Hts us:=by
 induction ts with
 | nil=>rw [List.nil_append];rw [Hts];rw [Nat.one_mul]
 | cons t ts ih=>rw [List.cons_append];rw [Hts];rw [Hts];rw [ih];rw [Nat.mul_assoc]
theorem Hts_perm {ts us:List T} (p:ts.Perm us):Hts ts=Hts us:=by
 induction p with
 | nil=>rfl
 | cons x _ ih=>rw [Hts];rw [Hts];exact ih▸rfl
 | swap x y l=>rw [Hts];rw [Hts];rw [Hts];rw [Hts];refine (Nat.mul_assoc ..)▸?_;refine (Nat.mul_assoc ..)▸?_;exact (Nat.mul_comm (Ht y) ..)▸rfl
 | trans _ _ i1 i2=>refine i1▸?_;exact i2▸rfl
theorem Hts_pos {ts:List T} (h:∀ t∈ts,1≤Ht t):1≤Hts ts:=by
 induction ts with
 | nil=>rw [Hts];exact Nat.le_refl 1
 | cons t ts ih=>rw [Hts];exact Nat.mul_pos (h t (.head _)) (ih fun u hu=>h u (.tail _ hu))
theorem Hts_mem {ts:List T} (h:∀ t∈ts,1≤Ht t):∀ t∈ts,Ht t≤Hts ts:=by
 induction ts with
 | nil=>intro t ht;cases ht
 | cons x ts ih =>
  intro t ht
  rw [Hts]
  rcases List.mem_cons.mp ht with rfl | ht
  ·exact Nat.le_mul_of_pos_right _ (Hts_pos fun u hu=>h u (.tail _ hu))
  ·exact Nat.le_trans (ih (fun u hu=>h u (.tail _ hu)) t ht) (Nat.le_mul_of_pos_left _ (h x (.head _)))
theorem Hts_len {ts:List T} (h:∀ t∈ts,2≤Ht t):2 ^ ts.length≤Hts ts:=by
 induction ts with
 | nil=>rw [Hts];exact Nat.le_refl 1
 | cons x ts ih =>
  rw [Hts];rw [List.length_cons];rw [Nat.pow_succ];rw [Nat.mul_comm]
  exact Nat.mul_le_mul (h x (.head _)) (ih fun u hu=>h u (.tail _ hu))
theorem Hts_take {ts:List T} (h:∀ t∈ts,1≤Ht t) (i:Nat):Hts (ts.take i)≤Hts ts:=by
 have e:Hts ts=Hts (ts.take i) * Hts (ts.drop i):=by refine (Hts_append ..)▸?_;exact (List.take_append_drop ..)▸rfl
 refine (e ..)▸?_
 exact Nat.le_mul_of_pos_right _ (Hts_pos fun u hu=>h u (List.mem_of_mem_drop hu))
theorem Ht_NF {u:T} (h:Nf u):2≤Ht u∧(u.isNum=false->16≤Ht u):=by
 induction h with
 | num r=>refine (Ht_nm ..)▸?_;exact ⟨Hq_two r,fun h=>nomatch h⟩
 | sym x=>rw [Ht];exact ⟨by decide,fun _=>by decide⟩
 | @pow b j hb hn hj h0 h1 ih =>
  have h16:=ih.2 hb.num
  have:16≤Ht (.pow b (T.nm j)):=by
   rw [Ht]
   have:Ht b ^ 1≤Ht b ^ mx (T.nm j).val:=Nat.pow_le_pow_right (by lia) (Nat.le_max_right _ _)
   rw [Nat.pow_one] at this;lia
  exact ⟨by lia,fun _=>this⟩
 | @sum us q h1 h2 h3 h4 h5 ih =>
  have two:∀ t∈us ++ tailS q,2≤Ht t:=fun t ht=>by
   rcases List.mem_append.mp ht with ht | ht
   ·exact (ih t ht).1
   ·obtain ⟨rfl,_⟩:=tail_one t ht;refine (Ht_nm ..)▸?_;exact Hq_two q
  have hne:us≠[]:=by
   rintro rfl
   unfold tailS at h5
   split at h5 <;> simp at h5
  obtain ⟨x,us',rfl⟩:=List.exists_cons_of_ne_nil hne
  have:16≤Ht (.sum (x :: us' ++ tailS q)):=by
   rw [Ht]
   exact Nat.le_trans ((ih x (.head _)).2 (h2 x (.head _)).1) (Hts_mem (fun t ht=>by have:=two t ht;lia) x (.head _))
  exact ⟨by lia,fun _=>this⟩
 | @prod us q h0 h1 h2 h3 h4 h5 ih =>
  have two:∀ t∈hdP q ++ us,2≤Ht t:=fun t ht=>by
   rcases List.mem_append.mp ht with ht | ht
   ·obtain ⟨rfl,_⟩:=hdP_mem t ht;refine (Ht_nm ..)▸?_;exact Hq_two q
   ·exact (ih t ht).1
  have hne:us≠[]:=by
   rintro rfl
   unfold hdP at h5
   split at h5 <;> simp at h5
  obtain ⟨x,us',rfl⟩:=List.exists_cons_of_ne_nil hne
  have:16≤Ht (.prod (hdP q ++ x :: us')):=by
   rw [Ht]
   exact Nat.le_trans ((ih x (.head _)).2 (h2 x (.head _)).facts.1) (Hts_mem (fun t ht=>by have:=two t ht;lia) x (List.mem_append_right _ (.head _)))
  exact ⟨by lia,fun _=>this⟩
theorem NFs.two {ps:List T} (h:NFs ps):∀ p∈ps,2≤Ht p:=fun p hp=>(Ht_NF (h p hp)).1
theorem NFs.pos {ps:List T} (h:NFs ps):∀ p∈ps,1≤Ht p:=fun p hp=>by have:=h.two p hp;lia
theorem Hts_ge {ps:List T} (h:NFs ps) (hn:ps≠[]):2≤Hts ps:=by
 obtain ⟨x,r,rfl⟩:=List.exists_cons_of_ne_nil hn
 exact Nat.le_trans (h.two x (.head _)) (Hts_mem h.pos x (.head _))
theorem hdP_Ht (q:Rat):Hts (hdP q)=if q=1 then 1 else Hq q:=by
 unfold hdP
 split
 ·rw [Hts]
 ·rw [Hts];rw [Hts];refine (Ht_nm ..)▸?_;exact (Nat.mul_one ..)▸rfl
theorem tailS_Ht (q:Rat):Hts (tailS q)=if q=0 then 1 else Hq q:=by
 unfold tailS
 split
 ·rw [Hts]
 ·rw [Hts];rw [Hts];refine (Ht_nm ..)▸?_;exact (Nat.mul_one ..)▸rfl
theorem rep_Ht {us:List T} (R:Rep us) {q:Rat} (h0:q≠0):Ht (closeP us q)=(if q=1 then 1 else Hq q) * Hts us:=by
 rcases rep_cases R h0 with ⟨x,rfl,rfl,e⟩ | ⟨e,_⟩
 ·rw [e];rw [if_pos rfl];rw [Hts];rw [Hts];lia
 ·rw [e];rw [Ht];rw [Hts_append];rw [hdP_Ht]
noncomputable def Mle:Mon Nat:=⟨(· * ·),1,(·≤·),Nat.mul_comm,Nat.mul_assoc,Nat.one_mul,Nat.le_refl,fun _ _ _=>Nat.le_trans,fun _ _ c h=>Nat.mul_le_mul_right c h⟩
open Classical in
noncomputable def Vs (k:T) (c:Rat):Nat:=if k=ONE then Hq c else if c=1 then Ht k else Hq c * Ht k
theorem Vs_add {k:T} (hk:k=ONE∨16≤Ht k) (a c:Rat):Vs k (a+c)≤Vs k a * Vs k c:=by
 unfold Vs
 by_cases h:k=ONE
 ·refine (if_pos h)▸?_;refine (if_pos h)▸?_;refine (if_pos h)▸?_;exact Hq_add a c
 ·refine (if_neg h)▸?_;refine (if_neg h)▸?_;refine (if_neg h)▸?_
  have h16:=hk.resolve_left h
  generalize Ht k=H at *
  have one:∀ x:Rat,∃ A,1≤A∧Hq x≤3 * A∧(if x=1 then H else Hq x * H)=A * H:=fun x=>by
   by_cases hx:x=1
   ·exact ⟨1,Nat.le_refl _,by refine hx▸?_;exact Nat.le_refl _,by refine (if_pos hx)▸?_;exact (Nat.one_mul ..)▸rfl⟩
   ·have:=Hq_two x
    exact ⟨Hq x,by lia,by lia,if_neg hx⟩
  obtain ⟨A,a1,a2,a3⟩:=one a
  obtain ⟨C,c1,c2,c3⟩:=one c
  refine a3▸?_;refine c3▸?_
  have up:A * H * (C * H)=A * C * H * H:=by
   simp only [Nat.mul_comm,Nat.mul_left_comm,Nat.mul_assoc]
  have ac:1≤A * C:=Nat.mul_pos a1 c1
  refine up▸?_
  have big:A * C * H * 16≤A * C * H * H:=Nat.mul_le_mul_left _ h16
  refine Nat.le_trans ?_ big
  have hac:H≤A * C * H:=Nat.le_mul_of_pos_left _ ac
  by_cases hx:a+c=1
  ·refine (if_pos hx)▸?_;lia
  ·refine (if_neg hx)▸?_
   have h1:Hq (a+c)≤9 * (A * C):=by
    refine Nat.le_trans (Hq_add a c) (Nat.le_trans (Nat.mul_le_mul a2 c2) ?_)
    have:3 * A * (3 * C)=9 * (A * C):=by simp only [Nat.mul_comm,Nat.mul_left_comm,Nat.mul_assoc]
    lia
   have h2:=Nat.mul_le_mul_right H h1
   have h3:9 * (A * C) * H=9 * (A * C * H):=Nat.mul_assoc _ _ _
   lia
theorem part_Ht {p:T} (h:Nf p):Ht p=Vs p.rest p.cf∧(p.rest=ONE∨16≤Ht p.rest):=by
 unfold Vs
 cases hn:p.isNum with
 | true =>
  obtain ⟨r,rfl⟩:=h.numEq hn
  rw [nm_rest];refine (nm_cf ..)▸?_;refine (Ht_nm ..)▸?_;refine (if_pos rfl ..)▸?_
  exact ⟨rfl,.inl rfl⟩
 | false =>
  obtain ⟨us,q,R,h0,rfl⟩:=h.rep hn
  obtain ⟨c1,c2⟩:=rep_cf R h0
  refine c1.symm▸?_;refine c2.symm▸?_;refine (if_neg (rep_ne R ne10)).symm▸?_;refine (rep_Ht R h0 ..)▸?_;refine (rep_Ht R ne10 ..)▸?_;refine (if_pos rfl ..)▸?_;refine (Nat.one_mul ..)▸?_
  refine ⟨by split <;> simp,.inr ?_⟩
  have:=(Ht_NF (rep_NF R ne10)).2 (rep_bare R ne10).2.2
  rwa [rep_Ht R ne10,if_pos rfl,Nat.one_mul] at this
theorem fold_Ht {ps:List T} (h:NFs ps):Mle.fold Vs (ps.map fun p=>(p.rest,p.cf))=Hts ps:=by
 induction ps with
 | nil=>rw [Hts];rfl
 | cons p ps ih =>
  rw [List.map_cons];rw [Mle.fold_cons];rw [ih fun q hq=>h q (.tail _ hq)];rw [Hts];rw [(part_Ht (h p (.head _))).1];rfl
set_option tactic.hygienic true in
theorem Vs_pos {k:T} (hk:k=ONE∨16≤Ht k) (c:Rat):1≤Vs k c:=by
 unfold Vs
 have:=Hq_two c
 split
 ·lia
 ·rename_i h
  have:=hk.resolve_left h
  split
  ·lia
  ·exact Nat.mul_pos (by lia) (by lia)
theorem foldN_pos {φ:T->Rat->Nat}{es:List (T×Rat)} (h:∀ x∈es,1≤φ x.1 x.2):1≤Mle.fold φ es:=by
 induction es with
 | nil=>exact Nat.le_refl 1
 | cons x es ih=>rw [Mle.fold_cons];exact Nat.mul_pos (h x (.head _)) (ih fun y hy=>h y (.tail _ hy))
theorem foldN_sub {φ:T->Rat->Nat}{es es':List (T×Rat)} (s:es'.Sublist es) (h:∀ x∈es,1≤φ x.1 x.2):Mle.fold φ es'≤Mle.fold φ es:=by
 induction s with
 | slnil=>exact Nat.le_refl _
 | cons x _ ih =>
  rw [Mle.fold_cons]
  exact Nat.le_trans (ih fun y hy=>h y (.tail _ hy)) (Nat.le_mul_of_pos_left _ (h x (.head _)))
 | cons_cons x _ ih =>
  rw [Mle.fold_cons];rw [Mle.fold_cons]
  exact Nat.mul_le_mul_left _ (ih fun y hy=>h y (.tail _ hy))
theorem count_Ht {ps:List T} (h:NFs ps):Mle.fold Vs (count ps)≤Hts ps∧∀ x∈count ps,x.1=ONE∨16≤Ht x.1:=by
 have:=Mle.fold_G Vs (fun k _=>k=ONE∨16≤Ht k) (fun k a c h _=>h) (fun k a c h _=>Vs_add h a c) (ps.map fun p=>(p.rest,p.cf)) fun x hx=>by
  obtain ⟨p,hp,rfl⟩:=List.mem_map.mp hx
  exact (part_Ht (h p hp)).2
 refine (count_G ..)▸?_;refine (fold_Ht h ..)▸?_
 exact this
open Classical in
theorem found_Ht {ps:List T} (h:NFs ps):Hts (foundS ps)=Mle.fold Vs (othS ps):=by
 have ent:∀ x∈othS ps,Ht (withN x.2 x.1)=Vs x.1 x.2:=fun x hx=>by
  obtain ⟨h1,h2,h3⟩:=othS_mem.mp (show (x.1,x.2)∈othS ps from hx)
  rcases count_key h h1 with e | ⟨us,R,e⟩
  ·exact absurd e h2
  ·refine (e ..)▸?_;refine (rep_with R h3 ..)▸?_;refine (rep_Ht R h3 ..)▸?_
   unfold Vs
   refine (if_neg (rep_ne R ne10) ..)▸?_;refine (rep_Ht R ne10 ..)▸?_;refine (if_pos rfl ..)▸?_;refine (Nat.one_mul ..)▸?_
   split <;> simp
 unfold foundS
 generalize othS ps=es at ent
 induction es with
 | nil=>refine List.map_nil.symm▸?_;rw [Hts];rfl
 | cons x es ih=>refine (List.map_cons ..)▸?_;rw [Hts];rw [Mle.fold_cons];refine (ih fun y hy=>ent y (.tail _ hy) ..)▸?_;refine (ent x (.head _) ..)▸?_;rfl
open Classical in
theorem fold_one {φ:T->Rat->Nat}{es:List (T×Rat)} (hk:(es.map (·.1)).Nodup) (hp:∀ x∈es,1≤φ x.1 x.2):(∃ c,lookT es ONE=some c∧Mle.fold φ es=φ ONE c * Mle.fold φ (dropT es ONE))∨(lookT es ONE=none∧dropT es ONE=es):=by
 cases q:lookT es ONE with
 | none=>exact .inr ⟨rfl,(dropT_none fun j r hj=>lookT_none.mp q (List.mem_map.mpr ⟨_,List.mem_of_getElem? hj,rfl⟩)).1⟩
 | some c =>
  refine .inl ⟨c,rfl,?_⟩
  have hm:=(look_mem hk).mp q
  have:es.Perm ((ONE,c) :: dropT es ONE):=by
   rw [List.perm_ext_iff_of_nodup (nodup_of_keys hk)]
   ·rintro ⟨k,r⟩
    unfold dropT
    rw [List.mem_cons];rw [List.mem_filter]
    simp only [decide_eq_true_eq,Prod.mk.injEq]
    constructor
    ·intro hkr
     by_cases hk1:k=ONE
     ·left
      subst hk1
      exact ⟨rfl,Option.some.inj (((look_mem hk).mpr hkr).symm.trans q)⟩
     ·exact .inr ⟨hkr,hk1⟩
    ·rintro (⟨rfl,rfl⟩ | ⟨h,_⟩)
     ·exact hm
     ·exact h
   ·rw [List.nodup_cons]
    unfold dropT
    refine ⟨fun hm=>?_,(nodup_of_keys hk).sublist List.filter_sublist⟩
    have:=(List.mem_filter.mp hm).2
    simp at this
  refine (Mle.fold_perm φ this ..)▸?_;refine (Mle.fold_cons ..)▸?_;rfl
theorem round_Ht {ps:List T} (h:NFs ps):Hts (foundS ps) * (if numS ps=0 then 1 else Hq (numS ps))≤Mle.fold Vs (count ps)∧Hts (foundS ps) * Hq (numS ps)≤2 * Mle.fold Vs (count ps):=by
 obtain ⟨_,c2⟩:=count_Ht h
 have pos:∀ x∈count ps,1≤Vs x.1 x.2:=fun x hx=>Vs_pos (c2 x hx) x.2
 have sub:Mle.fold Vs (othS ps)≤Mle.fold Vs (dropT (count ps) ONE):=by
  unfold othS
  refine foldN_sub List.filter_sublist fun x hx=>pos x ?_
  unfold dropT at hx
  exact (List.mem_filter.mp hx).1
 refine (found_Ht h)▸?_
 rcases fold_one (count_keys ps) pos with ⟨c,hc,e⟩ | ⟨hc,e⟩
 ·have hn:numS ps=c:=by unfold numS;refine hc▸?_;rfl
  have hv:Vs ONE c=Hq c:=by unfold Vs;exact (if_pos rfl)▸rfl
  refine hn▸?_;refine e▸?_;refine hv.symm▸?_
  have h1:Mle.fold Vs (othS ps) * Hq c≤Hq c * Mle.fold Vs (dropT (count ps) ONE):=by rw [Nat.mul_comm];exact Nat.mul_le_mul_left _ sub
  refine ⟨?_,by lia⟩
  split
  ·rw [Nat.mul_one];exact Nat.le_trans sub (Nat.le_mul_of_pos_left _ (by have:=Hq_two c;lia))
  ·exact h1
 ·have hn:numS ps=0:=by unfold numS;refine hc▸?_;rfl
  rw [e] at sub
  refine hn.symm▸?_;refine (if_pos rfl).symm▸?_;refine Hq_zero.symm▸?_;rw [Nat.mul_one]
  exact ⟨sub,by lia⟩
theorem flatS_Ht (ts:List T):Hts (flatS ts)=Hts ts:=by
 induction ts with
 | nil=>rfl
 | cons t ts ih =>
  show Hts (t.sumsOf ++ flatS ts)=_
  rw [Hts_append];rw [ih];rw [Hts]
  congr 1
  cases t <;> simp [T.sumsOf,Hts,Ht]
theorem closeL_Ht {l:List T}{B:Nat} (h:Hts l≤B) (hB:2≤B):Ht (closeL l)≤B:=by
 match l,h with
 | [],_=>show Ht (T.nm 0)≤B;rw [Ht_nm];rw [Hq_zero];exact hB
 | [x],h=>rw [Hts,Hts,Nat.mul_one] at h;exact h
 | a :: b :: r,h=>show Ht (.sum _)≤B;rw [Ht];exact h
open Classical in
theorem again_Ht {ps:List T} (h:NFs ps) (hs:∀ p∈ps,p.isSum=false) (hex:∃ t∈foundS ps,t.isSum=true):3 * Mle.fold Vs (count ps)≤Hts ps:=by
 obtain ⟨t,ht,hts⟩:=hex
 obtain ⟨us,c,R,h0,rfl,hm⟩:=foundS_mem h ht
 obtain ⟨x,rfl,rfl,e⟩:=rep_sum R h0 hts
 rw [e] at hm hts
 have hx:Fc x:=R.fc x (.head _)
 have x1:x≠ONE:=hx.ne_one
 have x16:16≤Ht x:=(Ht_NF (R.nf x (.head _))).2 hx.facts.1
 have notOne:∀ p∈ps,p.rest=x->p.cf≠1:=fun p hp hr hc=>by
  have hps:=hs p hp
  cases hn:p.isNum with
  | true =>
   obtain ⟨r,rfl⟩:=(h p hp).numEq hn
   exact x1 hr.symm
  | false =>
   obtain ⟨w,e,_⟩:=part_eq (h p hp) hn
   rw [hr,hc] at w
   have:withN 1 x=x:=by
    unfold withN
    rw [if_neg (by rintro (h | h);exact ne10 h;exact x1 h)];rw [if_pos rfl]
   replace w:=this▸w
   rw [w,hps] at hts
   cases hts
 let V':T->Rat->Nat:=fun k c=>if k=x then Hq c * Ht x else Vs k c
 have vx:∀ c,V' x c=Hq c * Ht x:=fun c=>if_pos rfl
 have vk:∀ k c,k≠x->V' k c=Vs k c:=fun k c hk=>if_neg hk
 have hG:=(Mle.fold_G V' (fun k _=>k=ONE∨16≤Ht k) (fun k a c h _=>h) (fun k a c h _=>by
  by_cases hk:k=x
  ·subst hk
   refine (vx ..)▸?_;rw [vx];rw [vx]
   show Hq (a+c) * Ht k≤Hq a * Ht k * (Hq c * Ht k)
   have h1:=Nat.mul_le_mul_right (Ht k) (Hq_add a c)
   have e1:Hq a * Ht k * (Hq c * Ht k)=Hq a * Hq c * Ht k * Ht k:=by simp only [Nat.mul_comm,Nat.mul_left_comm,Nat.mul_assoc]
   refine e1▸?_
   exact Nat.le_trans h1 (Nat.le_mul_of_pos_right _ (by lia))
  ·refine (vk _ _ hk)▸?_;refine (vk _ _ hk).symm▸?_;refine (vk _ _ hk).symm▸?_;exact Vs_add h a c) (ps.map fun p=>(p.rest,p.cf)) fun y hy=>by
   obtain ⟨p,hp,rfl⟩:=List.mem_map.mp hy
   exact (part_Ht (h p hp)).2).1
 have e1:Mle.fold V' (ps.map fun p=>(p.rest,p.cf))=Hts ps:=by
  refine (fold_Ht h)▸?_
  clear hG hm ht
  induction ps with
  | nil=>rfl
  | cons p ps ih =>
   refine List.map_cons▸?_;refine (Mle.fold_cons ..)▸?_;rw [Mle.fold_cons];refine (ih (fun q hq=>h q (.tail _ hq)) (fun q hq=>hs q (.tail _ hq)) fun q hq=>notOne q (.tail _ hq))▸?_
   congr 1
   by_cases hk:p.rest=x
   ·show V' p.rest p.cf=Vs p.rest p.cf
    refine hk▸?_;refine (vx ..)▸?_
    unfold Vs
    refine (if_neg x1)▸?_;exact (if_neg (notOne p (.head _) hk))▸rfl
   ·exact vk _ _ hk
 refine e1▸?_
 refine Nat.le_trans ?_ hG
 refine (count_G ..)▸?_
 have key:∀ es:List (T×Rat),(x,(1:Rat))∈es->(es.map (·.1)).Nodup->3 * Mle.fold Vs es≤Mle.fold V' es:=by
  intro es
  have same:∀ es:List (T×Rat),x∉es.map (·.1)->Mle.fold V' es=Mle.fold Vs es:=by
   intro es
   induction es with
   | nil=>intro _;rfl
   | cons y es ih =>
    intro hn
    rw [List.map_cons,List.mem_cons,not_or] at hn
    refine (Mle.fold_cons ..)▸?_;rw [Mle.fold_cons];refine (ih hn.2)▸?_;exact (vk _ _ (Ne.symm hn.1))▸rfl
  induction es with
  | nil=>intro hm;cases hm
  | cons y es ih =>
   intro hm hk
   rw [List.map_cons,List.nodup_cons] at hk
   refine (Mle.fold_cons ..)▸?_;rw [Mle.fold_cons]
   rcases List.mem_cons.mp hm with e | hm
   ·subst e
    refine (same es hk.1)▸?_
    show 3 * (Vs x 1 * _)≤V' x 1 * _
    refine (vx ..)▸?_;refine (Hq_one ..)▸?_
    unfold Vs
    refine (if_neg x1)▸?_;refine (if_pos rfl)▸?_;refine (Nat.mul_assoc ..)▸?_;exact Nat.le_refl _
   ·have hy:y.1≠x:=fun e=>hk.1 (e▸List.mem_map.mpr ⟨_,hm,rfl⟩)
    refine (vk _ _ hy).symm▸?_
    show 3 * (Vs y.1 y.2 * _)≤Vs y.1 y.2 * _
    refine (Nat.mul_left_comm ..)▸?_
    exact Nat.mul_le_mul_left _ (ih hm hk.2)
 exact key _ hm (count_keys ps)
theorem GS_Ht {parts:List T}{t:T} (g:GS parts t) (h:NFs parts) (hne:parts≠[]):Ht t≤Hts parts:=by
 induction g with
 | @done parts us hno hs =>
  have hf:NFs (flatS parts):=fun p hp=>(flatS_NF h p hp).1
  refine closeL_Ht ?_ (Hts_ge h hne)
  refine (Hts_append ..)▸?_;refine (tailS_Ht ..)▸?_;refine (Hts_perm hs.1 ..)▸?_;refine (flatS_Ht parts ..)▸?_
  exact Nat.le_trans (round_Ht hf).1 (count_Ht hf).1
 | @again parts u hex _ ih =>
  have hf:NFs (flatS parts):=fun p hp=>(flatS_NF h p hp).1
  refine Nat.le_trans (ih (nextS_NF h) (by simp)) ?_
  refine (Hts_append ..)▸?_;rw [Hts];rw [Hts];refine (Ht_nm ..)▸?_;refine (Nat.mul_one ..)▸?_;refine (flatS_Ht parts ..)▸?_
  have h1:=(round_Ht hf).2
  have h2:=again_Ht hf (fun p hp=>(flatS_NF h p hp).2) hex
  lia
end
section
noncomputable def Vp (k:T) (e:Rat):Nat:=Ht k ^ mx e
theorem mx_pos (e:Rat):1≤mx e:=Nat.le_max_right _ _
theorem mx_add {a c:Rat} (ha:a.den=1) (hc:c.den=1):mx (a+c)≤mx a+mx c:=by
 unfold mx
 rw [num_add ha hc]
 exact Nat.max_le.mpr ⟨Nat.le_trans (Int.natAbs_add_le _ _) (Nat.add_le_add (Nat.le_max_left _ _) (Nat.le_max_left _ _)),Nat.le_add_right_of_le (Nat.le_max_right _ _)⟩
theorem mx_mul {a c:Rat} (ha:a.den=1) (hc:c.den=1):mx (a * c)≤mx a * mx c:=by
 have h1:=mx_pos a
 have h2:=mx_pos c
 have h3:1≤mx a * mx c:=Nat.mul_pos h1 h2
 have h4:(a * c).num.natAbs≤mx a * mx c:=by
  rw [num_mul ha hc];rw [Int.natAbs_mul]
  exact Nat.mul_le_mul (Nat.le_max_left _ _) (Nat.le_max_left _ _)
 exact Nat.max_le.mpr ⟨h4,h3⟩
theorem mx_one:mx 1=1:=rfl
theorem pow_ge {H n:Nat} (h:1≤H) (hn:1≤n):H≤H ^ n:=by
 have:=Nat.pow_le_pow_right (n:=H) h hn
 rwa [Nat.pow_one] at this
set_option tactic.hygienic true in
theorem powT_Ht (b:T) {e:Rat} (h0:e≠0):Ht (powT b e)=Vp b e:=by
 unfold powT Vp
 refine (if_neg h0 ..)▸?_
 split
 ·rename_i h;refine (h ..)▸?_;refine (mx_one ..)▸?_;exact (Nat.pow_one ..)▸rfl
 ·rw [Ht];rw [T.val_nm]
theorem fac_Ht {f:T} (h:Fc f):Ht f=Vp f.base f.exp.val:=by
 have:=powT_Ht f.base h.expDen.2
 rwa [h.pow_eq] at this
theorem flatP_Ht (ts:List T):Hts (flatP ts)=Hts ts:=by
 induction ts with
 | nil=>rfl
 | cons t ts ih =>
  show Hts (t.facs ++ flatP ts)=_
  rw [Hts_append];rw [ih];rw [Hts]
  congr 1
  cases t <;> simp [T.facs,Hts,Ht]
theorem Vp_pos {k:T} (h:1≤Ht k) (e:Rat):1≤Vp k e:=Nat.pow_pos h
theorem foldP_Ht {ps:List T} (h:Pfs ps):Mle.fold Vp (countE ps)≤Hts (ps.filter fun p=>!p.isNum)∧(∀ x∈countE ps,16≤Ht x.1)∧Hts (foundP ps)≤Mle.fold Vp (countE ps):=by
 have ent:=countE_entry h
 have c16:∀ x∈countE ps,16≤Ht x.1:=fun x hx=>(Ht_NF (ent x hx).2.1).2 (ent x hx).1.num
 refine ⟨?_,c16,?_⟩
 ·have e3:Mle.fold Vp ((ps.filter fun p=>!p.isNum).map fun p=>(p.base,p.exp.val))=Hts (ps.filter fun p=>!p.isNum):=by
   have hf:∀ p∈ps.filter (fun p=>!p.isNum),Ht p=Vp p.base p.exp.val:=fun p hp=>by
    obtain ⟨hp,hn⟩:=List.mem_filter.mp hp
    exact fac_Ht ((h p hp).nonnum (by simpa using hn)).2
   generalize ps.filter (fun p=>!p.isNum)=fs at hf
   induction fs with
   | nil=>rw [Hts];rfl
   | cons f fs ih=>refine List.map_cons▸?_;refine (Mle.fold_cons ..)▸?_;rw [Hts];refine (hf f (.head _))▸?_;refine (ih fun p hp=>hf p (.tail _ hp))▸?_;rfl
  refine e3▸?_;refine (countE_G ..)▸?_
  refine (Mle.fold_G Vp (fun k e=>1≤Ht k∧e.den=1) (fun k a c h1 h2=>⟨h1.1,den_add h1.2 h2.2⟩) (fun k a c h1 h2=>?_) _ fun x hx=>?_).1
  ·show Ht k ^ mx (a+c)≤Ht k ^ mx a * Ht k ^ mx c
   refine (Nat.pow_add ..)▸?_
   exact Nat.pow_le_pow_right h1.1 (mx_add h1.2 h2.2)
  ·obtain ⟨p,hp,rfl⟩:=List.mem_map.mp hx
   obtain ⟨hp,hn⟩:=List.mem_filter.mp hp
   obtain ⟨nf,fc⟩:=(h p hp).nonnum (by simpa using hn)
   have:=(Ht_NF (nf.base fc)).1
   exact ⟨by show 1≤Ht p.base;lia,fc.expDen.1⟩
 ·unfold foundP
  have e1:∀ es:List (T×Rat),(∀ x∈es,x.2≠0)->Hts (es.map fun x=>powT x.1 x.2)=Mle.fold Vp es:=by
   intro es
   induction es with
   | nil=>intro _;refine List.map_nil.symm▸?_;rw [Hts];rfl
   | cons x es ih =>
    intro hx
    refine List.map_cons▸?_;rw [Hts];rw [Mle.fold_cons];refine (ih fun y hy=>hx y (.tail _ hy))▸?_;refine (powT_Ht _ (hx x (.head _)))▸?_;rfl
  rw [e1 _ fun x hx=>by simpa using (List.mem_filter.mp hx).2]
  exact foldN_sub List.filter_sublist fun x hx=>Vp_pos (by have:=c16 x hx;lia) _
theorem numP_Ht {ps:List T} (h:Pfs ps):(if numP' ps=1 then 1 else Hq (numP' ps)) * Hts (ps.filter fun p=>!p.isNum)≤Hts ps:=by
 induction ps with
 | nil=>exact Nat.le_refl 1
 | cons p ps ih =>
  have ih:=ih fun q hq=>h q (.tail _ hq)
  rw [numP_cons];rw [Hts]
  by_cases hn:p.isNum=true
  ·obtain ⟨r,rfl⟩:=(h p (.head _)).nf.numEq hn
   have e1:(if (T.nm r).isNum=true then (T.nm r).val else 1)=r:=by refine (if_pos hn).symm▸?_;rw [T.val_nm]
   have e2:(T.nm r :: ps).filter (fun p=>!p.isNum)=ps.filter (fun p=>!p.isNum):=rfl
   refine e1.symm▸?_;refine e2.symm▸?_;rw [Ht_nm]
   refine Nat.le_trans ?_ (Nat.mul_le_mul_left _ ih)
   rw [← Nat.mul_assoc]
   refine Nat.mul_le_mul_right _ ?_
   have h2:=Hq_two r
   by_cases h1:numP' ps=1
   ·refine (if_pos h1).symm▸?_;refine h1.symm▸?_;rw [Rat.mul_one];rw [Nat.mul_one]
    split
    ·lia
    ·exact Nat.le_refl _
   ·refine (if_neg h1).symm▸?_
    split
    ·exact Nat.mul_pos (by lia) (by have:=Hq_two (numP' ps);lia)
    ·exact Hq_mul r _
  ·have hn:p.isNum=false:=by simpa using hn
   have e1:(if p.isNum=true then p.val else 1)=1:=by refine hn.symm▸?_;rfl
   have e2:(p :: ps).filter (fun p=>!p.isNum)=p :: ps.filter (fun p=>!p.isNum):=by refine List.filter_cons.symm▸?_;refine hn.symm▸?_;rfl
   refine e1.symm▸?_;refine e2.symm▸?_;rw [Rat.one_mul];rw [Hts];rw [Nat.mul_left_comm]
   exact Nat.mul_le_mul_left _ ih
theorem GP_Ht {parts:List T}{t:T} (g:GP parts t) (h:NFs parts) (h3:3≤Hts parts):Ht t≤Hts parts:=by
 have hp:=flatP_Pf h
 rcases g with ⟨_,rfl⟩ | ⟨h0,us,hs,rfl⟩
 ·show Ht (T.nm 0)≤_
  refine (Ht_nm ..)▸?_;refine (Hq_zero ..)▸?_;lia
 ·have n1:=numP_Ht hp
  rw [flatP_Ht] at n1
  obtain ⟨f1,_,f2⟩:=foldP_Ht hp
  have f3:=Nat.le_trans f2 f1
  by_cases hu:us=[]
  ·subst hu
   show Ht (T.nm _)≤_
   refine (Ht_nm ..)▸?_
   have f4:1≤Hts ((flatP parts).filter fun p=>!p.isNum):=Hts_pos fun t ht=>by
    obtain ⟨ht,_⟩:=List.mem_filter.mp ht
    have:=(Ht_NF (hp t ht).nf).1
    lia
   by_cases h1:numP' (flatP parts)=1
   ·refine h1▸?_;refine Hq_one▸?_;exact h3
   ·rw [if_neg h1] at n1
    exact Nat.le_trans (Nat.le_mul_of_pos_right _ f4) n1
  ·have R:Rep us:=⟨hu,fun u hu=>(foundP_mem hp u (hs.1.mem_iff.mp hu)).1,fun u hu=>(foundP_mem hp u (hs.1.mem_iff.mp hu)).2,(hs.1.map _).nodup_iff.mpr (foundP_base hp),hs.2⟩
   refine (rep_Ht R h0)▸?_;refine (Hts_perm hs.1)▸?_
   exact Nat.le_trans (Nat.mul_le_mul_left _ f3) n1
theorem powF_Ht {p:T}{e:Rat} (h:Pf p) (he:e.den=1) (h0:e≠0):Ht (powF p e)≤Ht p ^ mx e:=by
 rcases h with ⟨r,rfl⟩ | ⟨nf,fc⟩
 ·refine (powF_num ..)▸?_;refine (Ht_nm ..)▸?_;rw [Ht_nm];rw [rpow_zpow]
  have hn:e.num≠0:=fun h=>h0 (Rat.num_eq_zero.mp h)
  exact Nat.le_trans (Hq_zpow r hn) (Nat.pow_le_pow_right (by have:=Hq_two r;lia) (Nat.le_max_left _ _))
 ·rcases fc with ha | ⟨b,j,rfl,hb,hj,j0,j1⟩
  ·refine (powF_atom ha ..)▸?_;refine (powT_Ht _ h0 ..)▸?_;exact Nat.le_refl _
  ·by_cases h1:e=1
   ·refine (powF_1 h1 ..)▸?_;refine (h1 ..)▸?_;refine (mx_one ..)▸?_;refine (Nat.pow_one ..)▸?_;exact Nat.le_refl _
   ·have e1:powF (.pow b (T.nm j)) e=powT b (j * e):=powF_n h0 h1
    have hje:j * e≠0:=fun h=>(Rat.mul_eq_zero.mp h).elim j0 h0
    have hnf:Nf b:=Nf.base (f:=.pow b (T.nm j)) nf (.inr ⟨b,j,rfl,hb,hj,j0,j1⟩)
    have:=(Ht_NF hnf).1
    refine (e1 ..)▸?_;refine (powT_Ht _ hje ..)▸?_;rw [Ht];rw [T.val_nm];refine (Nat.pow_mul ..)▸?_
    exact Nat.pow_le_pow_right (by lia) (mx_mul hj he)
theorem powFs_Ht {ps:List T}{e:Rat} (h:∀ p∈ps,Pf p) (he:e.den=1) (h0:e≠0):Hts (ps.map fun p=>powF p e)≤Hts ps ^ mx e:=by
 induction ps with
 | nil=>rw [List.map_nil];rw [Hts];rw [Nat.one_pow];exact Nat.le_refl _
 | cons p ps ih =>
  rw [List.map_cons];rw [Hts];rw [Hts];rw [Nat.mul_pow]
  exact Nat.mul_le_mul (powF_Ht (h p (.head _)) he h0) (ih fun q hq=>h q (.tail _ hq))
theorem Hts_two {ps:List T} (h:NFs ps) (h2:2≤ps.length):3≤Hts ps:=by
 have h1:=Hts_len h.two
 have h3:2 ^ 2≤2 ^ ps.length:=Nat.pow_le_pow_right (by decide) h2
 lia
theorem Nf.prodLen {ps:List T} (h:Nf (.prod ps)):2≤ps.length:=by
 obtain ⟨us,q,_,_,rfl,h5⟩:=prod_parts h
 exact h5
theorem PW_Ht {b:T}{e:Rat}{t:T} (hb:Nf b) (he:e.den=1) (hbad:¬ Bad b e) (h:PW b e t):Ht t≤Ht b ^ mx e:=by
 have h2:=(Ht_NF hb).1
 rcases h with ⟨z,rfl⟩ | ⟨z,rfl⟩ | ⟨h0,h1,⟨ps,rfl,g⟩ | ⟨hp,rfl⟩⟩
 ·show Ht (T.nm 1)≤_
  have h3:3≤Ht b:=by
   cases hn:b.isNum with
   | true =>
    obtain ⟨r,rfl⟩:=hb.numEq hn
    refine (Ht_nm ..)▸?_
    refine Hq_three fun hr=>hbad ⟨by refine hr▸?_;rfl,by refine z▸?_;decide⟩
   | false=>have:=(Ht_NF hb).2 hn;lia
  refine (Ht_nm ..)▸?_;refine (Hq_one ..)▸?_
  exact Nat.le_trans h3 (pow_ge (by lia) (mx_pos e))
 ·exact pow_ge (by lia) (mx_pos e)
 ·have nf:NFs (ps.map fun p=>powF p e):=fun p hp=>(powF_parts hb he h0 p hp).nf
  refine Nat.le_trans (GP_Ht g nf (Hts_two nf (by rw [List.length_map];exact hb.prodLen))) ?_
  rw [Ht]
  exact powFs_Ht hb.facs_Pf he h0
 ·have:b.facs=[b]:=by
   cases b with
   | prod ts=>cases hp
   | _=>rfl
  exact powF_Ht (hb.facs_Pf b (by refine this▸?_;exact .head _)) he h0
end
section
theorem nm_int (j:Int):T.nm (j:Rat)=.num j 1:=rfl
theorem Raw.wf {n:Nat}{t:T} (h:Raw n t):WF t:=by
 induction h with
 | sym h=>rw [WF];trivial
 | num a b c d=>rw [WF];lia
 | @pow n b j _ a c ih=>rw [WF];exact ⟨ih,(j:Rat),rfl,rfl⟩
 | sum _ a b ih=>rw [WF];rw [wfs_iff];exact ih
 | prod _ a b ih=>rw [WF];rw [wfs_iff];exact ih
theorem Raw.turned {n:Nat}{t:T} (h:Raw n t):Raw n (turned t):=by
 induction h with
 | sym h=>exact .sym h
 | num a b c d=>exact .num a b c d
 | pow _ a c ih=>exact .pow ih a c
 | sum _ a b ih =>
  rw [Mine.turned];rw [turneds_map]
  refine .sum (fun t ht=>?_) (by simpa using a) (by simpa using b)
  obtain ⟨x,hx,rfl⟩:=List.mem_map.mp (List.mem_reverse.mp ht)
  exact ih x hx
 | prod _ a b ih =>
  rw [Mine.turned];rw [turneds_map]
  refine .prod (fun t ht=>?_) (by simpa using a) (by simpa using b)
  obtain ⟨x,hx,rfl⟩:=List.mem_map.mp (List.mem_reverse.mp ht)
  exact ih x hx
theorem hts_le {ts:List T}{n:Nat} (h:∀ t∈ts,t.ht≤n):T.hts ts≤n:=by
 induction ts with
 | nil=>rw [T.hts];lia
 | cons t ts ih =>
  rw [T.hts]
  have h1:=h t (.head _)
  have h2:=ih fun u hu=>h u (.tail _ hu)
  lia
theorem Raw.hts {n:Nat}{t:T} (h:Raw n t):t.ht≤n:=by
 induction h with
 | sym h=>rw [T.ht];lia
 | num a b c d=>rw [T.ht];lia
 | pow _ a c ih=>rw [T.ht];lia
 | sum _ a b ih=>rw [T.ht];have:=hts_le ih;lia
 | prod _ a b ih=>rw [T.ht];have:=hts_le ih;lia
noncomputable def RB:Nat->Nat
 | 0=>16
 | n+1=>RB n ^ 3
theorem RB_pos (n:Nat):16≤RB n:=by
 induction n with
 | zero=>exact Nat.le_refl _
 | succ n ih =>
  rw [RB]
  exact Nat.le_trans ih (pow_ge (by lia) (by decide))
theorem Hq_divInt {p q:Int} (h:0 < q):Hq (Rat.divInt p q)≤p.natAbs+q.natAbs+1:=by
 obtain ⟨m,rfl⟩:=Int.eq_ofNat_of_zero_le (Int.le_of_lt h)
 have hm:m≠0:=fun e=>by subst e;exact absurd h (by decide)
 refine (Rat.divInt_ofNat ..)▸?_;refine (Rat.normalize_eq_mkRat hm ..)▸?_
 exact Nat.succ_le_succ (Nat.add_le_add (norm_le p m hm).1 (norm_le p m hm).2)
theorem Hq_raw {p q:Int} (h1:-3≤p) (h2:p≤5) (h3:1≤q) (h4:q≤3):Hq (Rat.divInt p q)≤16:=Nat.le_trans (Hq_divInt h3) (by omega)
theorem Hts_le {us:List T}{H:Nat} (h:∀ u∈us,Ht u≤H):Hts us≤H ^ us.length:=by
 induction us with
 | nil=>rw [Hts];exact Nat.le_refl _
 | cons u us ih =>
  rw [Hts];rw [List.length_cons];rw [Nat.pow_succ];rw [Nat.mul_comm (H ^ us.length)]
  exact Nat.mul_le_mul (h u (.head _)) (ih fun v hv=>h v (.tail _ hv))
theorem RB_list {n:Nat}{us:List T} (h:∀ u∈us,Ht u≤RB n) (hl:us.length≤3):Hts us≤RB (n+1) :=
 Nat.le_trans (Hts_le h) (Nat.pow_le_pow_right (by have:=RB_pos n;lia) hl)
theorem mx_raw {j:Int} (h1:-2≤j) (h2:j≤3):mx ((j:Rat))≤3:=by
 exact Nat.max_le.mpr ⟨by rw [show ((j:Rat)).num=j from rfl];lia,by decide⟩
theorem RB_pow {n H:Nat} (h:H≤RB n) (h1:1≤H) {j:Int} (a:-2≤j) (b:j≤3):H ^ mx (j:Rat)≤RB (n+1) :=
 Nat.le_trans (Nat.pow_le_pow_right h1 (mx_raw a b)) (Nat.pow_le_pow_left h 3)
theorem Raw_Ht {n:Nat}{t:T} (h:Raw n t):2≤Ht t∧Ht t≤RB n:=by
 induction h with
 | @sym n x h=>rw [Ht];exact ⟨by decide,RB_pos n⟩
 | @num n p q a b c d=>rw [Ht];exact ⟨Hq_two _,Nat.le_trans (Hq_raw a b c d) (RB_pos n)⟩
 | @pow n b j _ a c ih =>
  refine (nm_int ..)▸?_;rw [Ht];rw [T.val_nm]
  have h2:=ih.1
  exact ⟨Nat.le_trans h2 (pow_ge (by lia) (mx_pos _)),RB_pow ih.2 (by lia) a c⟩
 | @sum n ts _ a b ih =>
  rw [Ht]
  refine ⟨?_,RB_list (fun u hu=>(ih u hu).2) b⟩
  obtain ⟨x,r,rfl⟩:=List.exists_cons_of_ne_nil (show ts≠[] by rintro rfl;simp at a)
  exact Nat.le_trans (ih x (.head _)).1 (Hts_mem (fun t ht=>by have:=(ih t ht).1;lia) x (.head _))
 | @prod n ts _ a b ih =>
  rw [Ht]
  refine ⟨?_,RB_list (fun u hu=>(ih u hu).2) b⟩
  obtain ⟨x,r,rfl⟩:=List.exists_cons_of_ne_nil (show ts≠[] by rintro rfl;simp at a)
  exact Nat.le_trans (ih x (.head _)).1 (Hts_mem (fun t ht=>by have:=(ih t ht).1;lia) x (.head _))
theorem Raw.simpNF {n:Nat}{t u:T} (h:Raw n t) (s:Simp t u):Nf u:=Simp_NF _ t (Nat.le_refl _) h.wf u s
theorem Raw.simpsNF {n:Nat}{ts us:List T} (h:∀ t∈ts,Raw n t) (s:Simps ts us):NFs us:=fun u hu=>by
 obtain ⟨t,ht,h1⟩:=s.mem u hu
 exact (h t ht).simpNF h1
theorem Raw_SHt {n:Nat}{t:T} (h:Raw n t):∀ u,Simp t u->Ht u≤RB n:=by
 induction h with
 | @sym n x h=>intro u s;rw [Simp] at s;refine (s ..)▸?_;rw [Ht];exact RB_pos n
 | @num n p q a b c d=>intro u s;rw [Simp] at s;refine (s ..)▸?_;refine (Ht_nm ..)▸?_;exact Nat.le_trans (Hq_raw a b c d) (RB_pos n)
 | @pow n b j hb a c ih =>
  intro u s
  rw [← nm_int,Simp,T.val_nm] at s
  obtain ⟨b',h1,h2,h3⟩:=s
  have nb:=hb.simpNF h1
  have:=(Ht_NF nb).1
  exact Nat.le_trans (PW_Ht nb rfl h2 h3) (RB_pow (ih b' h1) (by lia) a c)
 | @sum n ts hb a b ih =>
  intro u s
  rw [Simp] at s
  obtain ⟨us,h1,h2⟩:=s
  have nf:=Raw.simpsNF hb h1
  refine Nat.le_trans (GS_Ht h2 nf ?_) (RB_list (fun u hu=>?_) (by refine (h1.len ..)▸?_;exact b))
  ·rintro rfl;have:=h1.len;simp at this;lia
  ·obtain ⟨t,ht,hs⟩:=h1.mem u hu;exact ih t ht u hs
 | @prod n ts hb a b ih =>
  intro u s
  rw [Simp] at s
  obtain ⟨us,h1,h2⟩:=s
  have nf:=Raw.simpsNF hb h1
  refine Nat.le_trans (GP_Ht h2 nf (Hts_two nf (by refine (h1.len ..)▸?_;exact a))) (RB_list (fun u hu=>?_) (by refine (h1.len ..)▸?_;exact b))
  obtain ⟨t,ht,hs⟩:=h1.mem u hu;exact ih t ht u hs
theorem Raw_SHts {n:Nat}{ts us:List T} (h:∀ t∈ts,Raw n t) (s:Simps ts us) (hl:ts.length≤3):Hts us≤RB (n+1) :=
 RB_list (fun u hu=>by obtain ⟨t,ht,hs⟩:=s.mem u hu;exact Raw_SHt (h t ht) u hs) (by refine s.len▸?_;exact hl)
theorem RB_3:RB 3=2 ^ 108:=by decide +kernel
theorem RB_le {n m:Nat} (h:n≤m):RB n≤RB m:=by
 induction h with
 | refl=>exact Nat.le_refl _
 | step _ ih=>exact Nat.le_trans ih (by rw [RB];exact pow_ge (by have:=RB_pos ‹_›;lia) (by decide))
end
section
theorem dps_mem {ts:List T}:∀ t∈ts,t.dp≤T.dps ts:=by
 induction ts with
 | nil=>intro t h;cases h
 | cons x ts ih =>
  intro t h
  rw [T.dps]
  rcases List.mem_cons.mp h with rfl | h
  ·exact Nat.le_max_left _ _
  ·exact Nat.le_trans (ih t h) (Nat.le_max_right _ _)
theorem dps_le {ts:List T}{n:Nat} (h:∀ t∈ts,t.dp≤n):T.dps ts≤n:=by
 induction ts with
 | nil=>rw [T.dps];lia
 | cons t ts ih =>
  rw [T.dps]
  exact Nat.max_le.mpr ⟨h t (.head _),ih fun u hu=>h u (.tail _ hu)⟩
theorem dp_nm (r:Rat):(T.nm r).dp=1:=by show (T.num _ _).dp=1;rw [T.dp]
theorem dp_sum (ts:List T):(T.sum ts).dp=T.dps ts+2:=by rw [T.dp]
theorem dp_prod (ts:List T):(T.prod ts).dp=T.dps ts+2:=by rw [T.dp]
theorem dp_pow (b:T) (j:Rat):(T.pow b (T.nm j)).dp=max b.dp 1+1:=by rw [T.dp];rw [dp_nm]
theorem dp_pos (t:T):1≤t.dp:=by cases t <;> rw [T.dp] <;> lia
theorem dp_base (t:T):t.base.dp≤t.dp:=by
 cases t with
 | pow b e=>show b.dp≤_;rw [T.dp];lia
 | _=>exact Nat.le_refl _
theorem count_src {ps:List T}{k:T}{c:Rat} (h:(k,c)∈count ps):∃ p∈ps,p.rest=k:=by
 rw [count_G,G_mem] at h
 obtain ⟨x,hx,rfl⟩:=List.mem_map.mp h.1
 obtain ⟨p,hp,rfl⟩:=List.mem_map.mp hx
 exact ⟨p,hp,rfl⟩
theorem foundS_src {ps:List T}{t:T} (h:t∈foundS ps):∃ p∈ps,∃ c,p.isNum=false∧t=withN c p.rest:=by
 obtain ⟨x,hx,rfl⟩:=List.mem_map.mp h
 obtain ⟨h1,h2,h3⟩:=othS_mem.mp (show (x.1,x.2)∈othS ps from hx)
 obtain ⟨p,hp,e⟩:=count_src h1
 refine ⟨p,hp,x.2,?_,by exact e▸rfl⟩
 cases p with
 | num a b=>exact absurd e.symm h2
 | _=>rfl
structure Keeps (R:T->Prop):Prop where
 sum:∀ ts,R (.sum ts)->∀ u∈ts,R u
 rest:∀ p c,p.isNum=false->R p->R (withN c p.rest)
 num:∀ r,R (T.nm r)
theorem Keeps.found {R:T->Prop} (K:Keeps R) {ps:List T} (h:∀ p∈ps,R p):∀ t∈foundS ps,R t:=fun t ht=>by
 obtain ⟨p,hp,c,hn,rfl⟩:=foundS_src ht
 exact K.rest p c hn (h p hp)
theorem Keeps.sumsOf {R:T->Prop} (K:Keeps R) {t:T} (h:R t):∀ u∈t.sumsOf,R u:=fun u hu=>by
 cases t with
 | sum ts=>exact K.sum ts h u hu
 | _=>obtain rfl:=List.mem_singleton.mp hu;exact h
theorem Keeps.next {R:T->Prop} (K:Keeps R) {ps:List T} (h:∀ p∈ps,R p) (q:Rat):∀ p∈flatS (foundS ps ++ [T.nm q]),R p:=fun p hp=>by
 obtain ⟨t,ht,hp⟩:=List.mem_flatMap.mp hp
 refine K.sumsOf ?_ p hp
 rcases List.mem_append.mp ht with ht | ht
 ·exact K.found h t ht
 ·obtain rfl:=List.mem_singleton.mp ht;exact K.num q
theorem GS_ind {R:T->Prop} (K:Keeps R) {parts:List T}{t:T} (g:GS parts t):(∀ p∈flatS parts,R p)->∀ u∈t.sumsOf,R u:=by
 induction g with
 | @done parts us hno hs =>
  intro h
  have all:∀ u∈us ++ tailS (numS (flatS parts)),R u∧u.isSum=false:=fun u hu=>by
   rcases List.mem_append.mp hu with hu | hu
   ·have:=hs.1.mem_iff.mp hu
    exact ⟨K.found h u this,hno u this⟩
   ·obtain ⟨rfl,_⟩:=tail_one u hu;exact ⟨K.num _,rfl⟩
  generalize us ++ tailS (numS (flatS parts))=l at all
  match l,all with
  | [],_=>intro u hu;obtain rfl:=List.mem_singleton.mp (show u∈[ZERO] from hu);exact K.num 0
  | [x],all =>
   obtain ⟨h1,h2⟩:=all x (.head _)
   intro u hu
   exact K.sumsOf h1 u hu
  | a :: b :: r,all=>exact fun u hu=>(all u hu).1
 | again _ _ ih=>exact fun h=>ih (K.next h _)
structure KeepsP (R:T->Prop):Prop where
 pow:∀ f e,Atom f.base->e≠0->R f->R (powT f.base e)
 num:∀ r,R (T.nm r)
theorem countE_src {ps:List T}{k:T}{c:Rat} (h:(k,c)∈countE ps):∃ p∈ps,p.isNum=false∧p.base=k:=by
 rw [countE_G,G_mem] at h
 obtain ⟨x,hx,rfl⟩:=List.mem_map.mp h.1
 obtain ⟨p,hp,rfl⟩:=List.mem_map.mp hx
 obtain ⟨hp,hn⟩:=List.mem_filter.mp hp
 exact ⟨p,hp,by simpa using hn,rfl⟩
theorem KeepsP.found {R:T->Prop} (K:KeepsP R) {ps:List T} (hp:Pfs ps) (h:∀ p∈ps,R p):∀ t∈foundP ps,R t:=fun t ht=>by
 obtain ⟨x,hx,rfl⟩:=List.mem_map.mp ht
 obtain ⟨hx,h0⟩:=List.mem_filter.mp hx
 obtain ⟨p,hm,hn,e⟩:=countE_src (show (x.1,x.2)∈countE ps from hx)
 have ha:=(countE_entry hp x hx).1
 rw [← e] at ha ⊢
 exact K.pow p x.2 ha (by simpa using h0) (h p hm)
theorem GP_ind {R:T->Prop} (K:KeepsP R) {parts:List T}{t:T} (g:GP parts t) (hn:NFs parts) (h:∀ p∈flatP parts,R p):∀ u∈t.facs,R u:=by
 have hp:=flatP_Pf hn
 rcases g with ⟨_,rfl⟩ | ⟨h0,us,hs,rfl⟩
 ·intro u hu;obtain rfl:=List.mem_singleton.mp (show u∈[ZERO] from hu);exact K.num 0
 ·have all:∀ u∈us,R u:=fun u hu=>K.found hp h u (hs.1.mem_iff.mp hu)
  by_cases hu:us=[]
  ·subst hu
   intro u hu
   obtain rfl:=List.mem_singleton.mp (show u∈[T.nm _] from hu)
   exact K.num _
  ·have R':Rep us:=⟨hu,fun u hu=>(foundP_mem hp u (hs.1.mem_iff.mp hu)).1,fun u hu=>(foundP_mem hp u (hs.1.mem_iff.mp hu)).2,(hs.1.map _).nodup_iff.mpr (foundP_base hp),hs.2⟩
   intro u hu
   rcases rep_cases R' h0 with ⟨x,rfl,_,e⟩ | ⟨e,_⟩
   ·rw [e,(R'.fc x (.head _)).bare.2.2.2.2] at hu
    exact all u hu
   ·replace hu:=e▸hu
    rcases List.mem_append.mp hu with hu | hu
    ·obtain ⟨rfl,_⟩:=hdP_mem u hu;exact K.num _
    ·exact all u hu
theorem powF_ind {R:T->Prop} (K:KeepsP R) {p:T} (hp:Pf p) (h:R p) {e:Rat} (h0:e≠0):R (powF p e):=by
 rcases hp with ⟨r,rfl⟩ | ⟨nf,fc⟩
 ·rw [powF_num];exact K.num _
 ·have hb:=fc.facts.2.2.1
  rcases fc with ha | ⟨b,j,rfl,hb',hj,j0,j1⟩
  ·rw [powF_atom ha]
   have:p.base=p:=by
    cases p with
    | pow b e=>exact absurd rfl (ha.pow b e)
    | _=>rfl
   have q:=K.pow p e hb h0 h
   rwa [this] at q
  ·by_cases h1:e=1
   ·refine (powF_1 h1).symm▸?_;exact h
   ·have e1:powF (.pow b (T.nm j)) e=powT b (j * e):=powF_n h0 h1
    refine e1▸?_
    exact K.pow _ (j * e) hb (fun h=>(Rat.mul_eq_zero.mp h).elim j0 h0) h
theorem PW_ind {R:T->Prop} (K:KeepsP R) {b:T}{e:Rat}{t:T} (hb:Nf b) (he:e.den=1) (h:PW b e t) (hR:∀ f∈b.facs,R f):t=b∨∀ f∈t.facs,R f:=by
 rcases h with ⟨z,rfl⟩ | ⟨z,rfl⟩ | ⟨h0,h1,⟨ps,rfl,g⟩ | ⟨hp,rfl⟩⟩
 ·right
  intro u hu
  obtain rfl:=List.mem_singleton.mp (show u∈[ONE] from hu)
  exact K.num 1
 ·exact .inl rfl
 ·right
  have pf:=powF_parts hb he h0
  refine GP_ind K g (fun p hp=>(pf p hp).nf) fun p hp=>?_
  obtain ⟨t,ht,hp⟩:=List.mem_flatMap.mp hp
  obtain ⟨x,hx,rfl⟩:=List.mem_map.mp ht
  have hr:=powF_ind K (hb.facs_Pf x hx) (hR x hx) (e:=e) h0
  have:(powF x e).facs=[powF x e]:=by
   rcases pf _ ht with ⟨r,e1⟩ | ⟨_,fc⟩
   ·refine e1▸?_;rfl
   ·exact fc.bare.2.2.2.2
  rw [this] at hp
  obtain rfl:=List.mem_singleton.mp hp
  exact hr
 ·right
  have e1:b.facs=[b]:=by
   cases b with
   | prod ts=>cases hp
   | _=>rfl
  have hpf:=hb.facs_Pf b (by refine e1▸?_;exact .head _)
  have hr:=powF_ind K hpf (hR b (by refine e1▸?_;exact .head _)) (e:=e) h0
  have:(powF b e).facs=[powF b e]:=by
   rcases powF_Pf hpf he h0 with ⟨r,e1⟩ | ⟨_,fc⟩
   ·refine e1▸?_;rfl
   ·exact fc.bare.2.2.2.2
  intro f hf
  rw [this] at hf
  obtain rfl:=List.mem_singleton.mp hf
  exact hr
end
section
noncomputable def Dk (P:Nat) (u:T):Prop:=u.dp≤P∧(u.isProd=false->u.dp+2≤P)
theorem Dk.mono {P P':Nat}{u:T} (h:Dk P u) (le:P≤P'):Dk P' u:=⟨by have:=h.1;lia,fun k=>by have:=h.2 k;lia⟩
theorem Dk.all {P:Nat}{u:T} (h:u.dp+2≤P):Dk P u:=⟨by lia,fun _=>h⟩
theorem rest_Dk {P:Nat}{p:T} (h:Dk P p) (hn:p.isNum=false):Dk P p.rest:=by
 cases p with
 | num a b=>cases hn
 | sym x=>exact h
 | pow b e=>exact h
 | sum ts=>exact h
 | prod ts =>
  match ts,h with
  | [],h=>exact h
  | .num a b :: [],h=>exact ⟨by refine (show (T.prod [.num a b]).rest=.prod [] from rfl)▸?_;refine (dp_prod ..)▸?_;rw [T.dps];have:=h.1;rw [dp_prod] at this;lia,fun k=>by cases k⟩
  | [.num a b,x],h =>
   have h1:=h.1
   rw [dp_prod,T.dps,T.dps,T.dps] at h1
   exact Dk.all (show x.dp+2≤P by lia)
  | .num a b :: x :: y :: r,h =>
   have h1:=h.1
   rw [dp_prod,T.dps] at h1
   exact ⟨by show (T.prod (x :: y :: r)).dp≤P;refine (dp_prod ..)▸?_;lia,fun k=>by cases k⟩
  | .sym _ :: r,h=>exact h
  | .pow _ _ :: r,h=>exact h
  | .sum _ :: r,h=>exact h
  | .prod _ :: r,h=>exact h
theorem withN_Dk {P:Nat} (hP:3≤P) {w:T} (c:Rat) (h:Dk P w):Dk P (withN c w):=by
 unfold withN
 split
 ·exact Dk.all (by rw [dp_nm];lia)
 ·split
  ·exact h
  ·refine ⟨?_,fun k=>by cases k⟩
   rw [dp_prod];rw [T.dps];rw [dp_nm]
   have:T.dps w.facs+2≤P:=by
    cases w with
    | prod ts=>have:=h.1;rw [dp_prod] at this;exact this
    | _=>have:=h.2 rfl;simp only [T.facs,T.dps];lia
   lia
theorem Dk_keeps {P:Nat} (hP:3≤P):Keeps (Dk P) where
 sum ts h u hu:=by
  have h1:=h.2 rfl
  rw [dp_sum] at h1
  have:=dps_mem u hu
  exact Dk.all (by lia)
 rest p c hn h:=withN_Dk hP c (rest_Dk h hn)
 num r:=Dk.all (by rw [dp_nm];lia)
noncomputable def Re (P Q:Nat) (f:T):Prop:=f.base.dp≤Q∧f.dp≤Q+1∧∀ ts,f.base=.sum ts->∀ p∈ts,Dk P p
theorem Atom.base {b:T} (h:Atom b):b.base=b:=by
 cases b with
 | pow b e=>exact absurd rfl (h.pow b e)
 | _=>rfl
theorem Re_keeps {P Q:Nat} (hQ:1≤Q):KeepsP (Re P Q) where
 pow f e ha h0 h:=by
  have hb:=ha.base
  have h1:=h.1
  unfold powT
  refine (if_neg h0).symm▸?_
  split
  ·exact ⟨by refine hb.symm▸?_;exact h1,by lia,by refine hb.symm▸?_;exact h.2.2⟩
  ·exact ⟨h1,by rw [dp_pow];lia,h.2.2⟩
 num r:=⟨by show (T.nm r).dp≤Q;rw [dp_nm];exact hQ,by rw [dp_nm];lia,fun ts e=>by cases e⟩
noncomputable def Lv (P Q:Nat):T->Prop
 | .sum ts=>∀ p∈ts,Dk P p
 | .prod ts=>∀ f∈ts,f.base.dp≤Q∧f.dp≤Q+1
 | t=>t.base.dp≤Q∧t.dp≤Q+1
noncomputable def InS (P:Nat) (t:T):Prop:=∀ p∈t.sumsOf,Dk P p
noncomputable def InP (P Q:Nat) (t:T):Prop:=∀ f∈t.facs,Re P Q f
theorem InS.lv {P Q:Nat} (hPQ:P≤Q+2) {t:T} (h:InS P t):Lv P Q t:=by
 have one:∀ t:T,Dk P t->t.isProd=false->t.base.dp≤Q∧t.dp≤Q+1:=fun t h k=>by
  have h1:=h.2 k
  have h2:=dp_base t
  lia
 cases t with
 | sum ts=>exact h
 | prod ts =>
  intro f hf
  have h1:=(h (.prod ts) (.head _)).1
  rw [dp_prod] at h1
  have h2:=dps_mem f hf
  have h3:=dp_base f
  lia
 | num a b=>exact one _ (h _ (.head _)) rfl
 | sym x=>exact one _ (h _ (.head _)) rfl
 | pow b e=>exact one _ (h _ (.head _)) rfl
theorem InP.lv {P Q:Nat}{t:T} (h:InP P Q t):Lv P Q t:=by
 cases t with
 | sum ts=>exact (h (.sum ts) (.head _)).2.2 ts rfl
 | prod ts=>exact fun f hf=>⟨(h f hf).1,(h f hf).2.1⟩
 | num a b=>exact ⟨(h _ (.head _)).1,(h _ (.head _)).2.1⟩
 | sym x=>exact ⟨(h _ (.head _)).1,(h _ (.head _)).2.1⟩
 | pow b e=>exact ⟨(h _ (.head _)).1,(h _ (.head _)).2.1⟩
theorem Lv.inS {P Q P':Nat}{t:T} (h:Lv P Q t) (h1:P≤P') (h2:Q+3≤P'):InS P' t:=by
 intro p hp
 cases t with
 | sum ts=>exact (h p hp).mono h1
 | prod ts =>
  obtain rfl:=List.mem_singleton.mp hp
  refine ⟨?_,fun k=>by cases k⟩
  refine (dp_prod ..)▸?_
  have:=dps_le fun f hf=>(h f hf).2
  lia
 | num a b=>obtain rfl:=List.mem_singleton.mp hp;exact Dk.all (by have:=h.2;lia)
 | sym x=>obtain rfl:=List.mem_singleton.mp hp;exact Dk.all (by have:=h.2;lia)
 | pow b e=>obtain rfl:=List.mem_singleton.mp hp;exact Dk.all (by have:=h.2;lia)
theorem Lv.inP {P Q P' Q':Nat}{t:T} (h:Lv P Q t) (h1:P≤P') (h2:Q≤P') (h3:P+2≤Q') (h4:Q≤Q'):InP P' Q' t:=by
 have one:∀ f:T,f.base.dp≤Q∧f.dp≤Q+1->Re P' Q' f:=fun f h=>by
  refine ⟨by lia,by lia,fun ts e p hp=>Dk.all ?_⟩
  have h5:=h.1
  rw [e,dp_sum] at h5
  have:=dps_mem p hp
  lia
 intro f hf
 cases t with
 | sum ts =>
  obtain rfl:=List.mem_singleton.mp hf
  have:(T.sum ts).dp≤P+2:=by
   rw [dp_sum]
   have:=dps_le fun p hp=>(h p hp).1
   lia
  exact ⟨by show (T.sum ts).dp≤Q';lia,by lia,fun ts' e p hp=>by
   have e:T.sum ts=.sum ts':=e
   injection e with e
   subst e
   exact (h p hp).mono h1⟩
 | prod ts=>exact one f (h f hf)
 | num a b=>obtain rfl:=List.mem_singleton.mp hf;exact one _ h
 | sym x=>obtain rfl:=List.mem_singleton.mp hf;exact one _ h
 | pow b e=>obtain rfl:=List.mem_singleton.mp hf;exact one _ h
noncomputable def PN:Nat->Nat
 | 0=>3 | 1=>4 | _=>8
noncomputable def QN:Nat->Nat
 | 0=>1 | 1=>5 | _=>6
noncomputable def LvN:Nat->T->Prop
 | 0=>fun u=>u.dp≤1
 | n+1=>Lv (PN n) (QN n)
theorem small_in {P Q:Nat} (hP:3≤P) (hQ:1≤Q) {u:T} (h:u.dp≤1):InS P u∧InP P Q u:=by
 have one:u.sumsOf=[u]∧u.facs=[u]∧(∀ ts,u≠.sum ts)∧(∀ b e,u≠.pow b e):=by
  cases u with
  | sum ts=>rw [dp_sum] at h;lia
  | prod ts=>rw [dp_prod] at h;lia
  | pow b e=>rw [T.dp] at h;have:=dp_pos b;lia
  | _=>exact ⟨rfl,rfl,fun ts e=>(by cases e),fun b x e=>(by cases e)⟩
 obtain ⟨h1,h2,h3,h4⟩:=one
 unfold InS InP
 refine h1.symm▸?_;refine h2.symm▸?_
 refine ⟨fun p hp=>?_,fun f hf=>?_⟩
 ·obtain rfl:=List.mem_singleton.mp hp;exact Dk.all (by lia)
 ·obtain rfl:=List.mem_singleton.mp hf
  have:=dp_base f
  refine ⟨by lia,by lia,fun ts e=>?_⟩
  have:f.base=f:=by
   cases f with
   | pow b x=>exact absurd rfl (h4 b x)
   | _=>rfl
  exact absurd (this.symm.trans e) (h3 ts)
theorem small_lv {n:Nat}{u:T} (h:u.dp≤1):LvN n u:=by
 have hP:3≤PN (n - 1):=by unfold PN;split <;> decide
 have hQ:1≤QN (n - 1):=by unfold QN;split <;> decide
 cases n with
 | zero=>exact h
 | succ n=>exact (small_in hP hQ h).2.lv
theorem lv_in {n:Nat} (hn:n≤2) {u:T} (h:LvN n u):InS (PN n) u∧InP (PN n) (QN n) u:=by
 match n,hn,h with
 | 0,_,h=>exact small_in (by decide) (by decide) h
 | 1,_,h=>exact ⟨Lv.inS (P:=3) (Q:=1) h (by decide) (by decide),Lv.inP (P:=3) (Q:=1) h (by decide) (by decide) (by decide) (by decide)⟩
 | 2,_,h=>exact ⟨Lv.inS (P:=4) (Q:=5) h (by decide) (by decide),Lv.inP (P:=4) (Q:=5) h (by decide) (by decide) (by decide) (by decide)⟩
theorem Simps.inS {n:Nat} (hn:n≤2) {us:List T} (h:∀ u∈us,LvN n u):∀ p∈flatS us,Dk (PN n) p:=fun p hp=>by
 obtain ⟨t,ht,hp⟩:=List.mem_flatMap.mp hp
 exact (lv_in hn (h t ht)).1 p hp
theorem Simps.inP {n:Nat} (hn:n≤2) {us:List T} (h:∀ u∈us,LvN n u):∀ p∈flatP us,Re (PN n) (QN n) p:=fun p hp=>by
 obtain ⟨t,ht,hp⟩:=List.mem_flatMap.mp hp
 exact (lv_in hn (h t ht)).2 p hp
theorem PN_le {n:Nat} (hn:n≤2):3≤PN n∧PN n≤8∧1≤QN n∧QN n≤6∧PN n≤QN n+2:=by
 match n,hn with
 | 0,_=>decide
 | 1,_=>decide
 | 2,_=>decide
theorem Raw_Lv {n:Nat}{t:T} (h:Raw n t):n≤3->∀ u,Simp t u->LvN n u:=by
 induction h with
 | @sym n x h=>intro _ u s;rw [Simp] at s;rw [s];exact small_lv (by rw [T.dp];lia)
 | @num n p q a b c d=>intro _ u s;rw [Simp] at s;rw [s];exact small_lv (by rw [dp_nm];lia)
 | @pow n b j hb a c ih =>
  intro hn u s
  rw [← nm_int,Simp,T.val_nm] at s
  obtain ⟨b',h1,h2,h3⟩:=s
  obtain ⟨i1,i2⟩:=lv_in (by lia) (ih (by lia) b' h1)
  obtain ⟨_,_,q1,_,_⟩:=PN_le (n:=n) (by lia)
  rcases PW_ind (Re_keeps q1) (hb.simpNF h1) rfl h3 i2 with rfl | h
  ·exact InP.lv i2
  ·exact InP.lv h
 | @sum n ts hb a b ih =>
  intro hn u s
  rw [Simp] at s
  obtain ⟨us,h1,h2⟩:=s
  obtain ⟨p1,_,_,_,p2⟩:=PN_le (n:=n) (by lia)
  refine InS.lv p2 (GS_ind (Dk_keeps p1) h2 (Simps.inS (by lia) fun u hu=>?_))
  obtain ⟨t,ht,hs⟩:=h1.mem u hu;exact ih t ht (by lia) u hs
 | @prod n ts hb a b ih =>
  intro hn u s
  rw [Simp] at s
  obtain ⟨us,h1,h2⟩:=s
  obtain ⟨_,_,q1,_,_⟩:=PN_le (n:=n) (by lia)
  refine InP.lv (GP_ind (Re_keeps q1) h2 (Raw.simpsNF hb h1) (Simps.inP (by lia) fun u hu=>?_))
  obtain ⟨t,ht,hs⟩:=h1.mem u hu;exact ih t ht (by lia) u hs
mutual
noncomputable def Sy:T->Prop
 | .num _ _=>True
 | .sym x=>x="x"∨x="y"∨x="z"
 | .pow b _=>Sy b
 | .sum ts=>Sys ts
 | .prod ts=>Sys ts
noncomputable def Sys:List T->Prop
 | []=>True
 | t :: ts=>Sy t∧Sys ts
end
theorem sys_iff:∀ {ts:List T},Sys ts↔∀ t∈ts,Sy t
 | []=>by simp [Sys]
 | t :: ts=>by rw [Sys];rw [sys_iff];simp
theorem sy_nm (r:Rat):Sy (T.nm r):=by show Sy (.num _ _);rw [Sy];trivial
theorem sy_sums {t:T}:Sy t↔∀ u∈t.sumsOf,Sy u:=by
 cases t with
 | sum ts=>rw [Sy];rw [sys_iff];rfl
 | _=>simp [T.sumsOf]
theorem sy_facs {t:T}:Sy t↔∀ u∈t.facs,Sy u:=by
 cases t with
 | prod ts=>rw [Sy];rw [sys_iff];rfl
 | _=>simp [T.facs]
theorem sy_rest {p:T} (h:Sy p):Sy p.rest:=by
 cases p with
 | num a b=>exact sy_nm 1
 | sym x=>exact h
 | pow b e=>exact h
 | sum ts=>exact h
 | prod ts =>
  match ts,h with
  | [],h=>exact h
  | .num a b :: [],h=>show Sy (.prod []);rw [Sy];rw [sys_iff];exact fun t ht=>(List.not_mem_nil ht).elim
  | [.num a b,x],h=>rw [Sy,sys_iff] at h;exact h x (.tail _ (.head _))
  | .num a b :: x :: y :: r,h =>
   rw [Sy,sys_iff] at h
   show Sy (.prod (x :: y :: r))
   rw [Sy];rw [sys_iff]
   exact fun t ht=>h t (.tail _ ht)
  | .sym _ :: r,h=>exact h
  | .pow _ _ :: r,h=>exact h
  | .sum _ :: r,h=>exact h
  | .prod _ :: r,h=>exact h
theorem Sy_keeps:Keeps Sy where
 sum ts h u hu:=by rw [Sy,sys_iff] at h;exact h u hu
 rest p c hn h:=by
  unfold withN
  split
  ·exact sy_nm c
  ·split
   ·exact sy_rest h
   ·rw [Sy];rw [sys_iff]
    intro t ht
    rcases List.mem_cons.mp ht with rfl | ht
    ·exact sy_nm c
    ·exact sy_facs.mp (sy_rest h) t ht
 num:=sy_nm
theorem sy_base {f:T} (h:Sy f):Sy f.base:=by
 cases f with
 | pow b e=>rw [Sy] at h;exact h
 | _=>exact h
theorem Sy_keepsP:KeepsP Sy where
 pow f e ha h0 h:=by
  unfold powT
  rw [if_neg h0]
  split
  ·exact sy_base h
  ·rw [Sy];exact sy_base h
 num:=sy_nm
theorem Raw_Sy {n:Nat}{t:T} (h:Raw n t):∀ u,Simp t u->Sy u:=by
 induction h with
 | @sym n x h=>intro u s;rw [Simp] at s;rw [s];rw [Sy];exact h
 | @num n p q a b c d=>intro u s;rw [Simp] at s;rw [s];exact sy_nm _
 | @pow n b j hb a c ih =>
  intro u s
  rw [← nm_int,Simp,T.val_nm] at s
  obtain ⟨b',h1,h2,h3⟩:=s
  rcases PW_ind Sy_keepsP (hb.simpNF h1) rfl h3 (sy_facs.mp (ih b' h1)) with rfl | h
  ·exact ih _ h1
  ·exact sy_facs.mpr h
 | @sum n ts hb a b ih =>
  intro u s
  rw [Simp] at s
  obtain ⟨us,h1,h2⟩:=s
  refine sy_sums.mpr (GS_ind Sy_keeps h2 fun p hp=>?_)
  obtain ⟨t,ht,hp⟩:=List.mem_flatMap.mp hp
  obtain ⟨x,hx,hs⟩:=h1.mem t ht
  exact sy_sums.mp (ih x hx t hs) p hp
 | @prod n ts hb a b ih =>
  intro u s
  rw [Simp] at s
  obtain ⟨us,h1,h2⟩:=s
  refine sy_facs.mpr (GP_ind Sy_keepsP h2 (Raw.simpsNF hb h1) fun p hp=>?_)
  obtain ⟨t,ht,hp⟩:=List.mem_flatMap.mp hp
  obtain ⟨x,hx,hs⟩:=h1.mem t ht
  exact sy_facs.mp (ih x hx t hs) p hp
end
section
theorem sq_of {r:Rat} (h:Hq r≤2 ^ 200):Sq r:=by
 have h1:(2:Nat) ^ 200≤2 ^ 2000:=Nat.pow_le_pow_right (by decide) (by decide)
 have h2:=Nat.le_trans h h1
 unfold Hq at h2
 unfold Sq
 generalize (2:Nat) ^ 2000=B at *
 have:=r.den_pos
 lia
theorem b108:(2:Nat) ^ 108≤2 ^ 200:=Nat.pow_le_pow_right (by decide) (by decide)
theorem b108':3+(2:Nat) ^ 108≤2 ^ 200:=by decide +kernel
theorem sq_of3 {r:Rat} (h:Hq r≤3+2 ^ 108):Sq r:=sq_of (Nat.le_trans h b108')
theorem sq_of1 {r:Rat} (h:Hq r≤2 ^ 108):Sq r:=sq_of (Nat.le_trans h b108)
theorem exp_le {H m:Nat} (h2:2≤H) (h:H ^ m≤2 ^ 108):m≤108 :=
 (Nat.pow_le_pow_iff_right (by decide)).mp (Nat.le_trans (Nat.pow_le_pow_left h2 m) h)
theorem len_le {l:List T} (h:NFs l) (hb:Hts l≤2 ^ 108):l.length≤108 :=
 (Nat.pow_le_pow_iff_right (by decide)).mp (Nat.le_trans (Hts_len h.two) hb)
theorem sq_exp {e:Rat} (hd:e.den=1) (h:mx e≤20000):Sq e:=by
 refine sq_of ?_
 have h1:e.num.natAbs≤mx e:=Nat.le_max_left _ _
 unfold Hq
 refine hd.symm▸?_
 have:(20002:Nat)≤2 ^ 200:=by decide +kernel
 lia
set_option tactic.hygienic true in
theorem Hq_Vs {k:T}{c:Rat} (h:k=ONE∨16≤Ht k):Hq c≤3+Vs k c:=by
 unfold Vs
 split
 ·lia
 ·rename_i hk
  have:=h.resolve_left hk
  split
  ·rename_i hc;refine hc▸?_;refine Hq_one▸?_;lia
  ·have:=Nat.le_mul_of_pos_right (Hq c) (show 0 < Ht k by lia)
   lia
theorem fold_mem {φ:T->Rat->Nat}{es:List (T×Rat)} (h:∀ x∈es,1≤φ x.1 x.2) {k:T}{c:Rat} (hm:(k,c)∈es):φ k c≤Mle.fold φ es:=by
 have:=foldN_sub (φ:=φ) (List.singleton_sublist.mpr hm) h
 rw [Mle.fold_cons] at this
 exact Nat.le_trans (Nat.le_of_eq (Nat.mul_one _).symm) this
theorem Nf.nok {t:T} (h:Nf t):t.nok:=by
 cases t with
 | num a b =>
  obtain ⟨r,e⟩:=h.numEq rfl
  have e:T.num a b=.num r.num r.den:=e
  injection e with e1 e2
  exact ⟨r,e1,e2⟩
 | prod ts =>
  obtain ⟨us,q,h0,R,rfl,_⟩:=prod_parts h
  by_cases h1:q=1
  ·have:hdP q=[]:=if_pos h1
   refine this▸?_
   obtain ⟨x,r,rfl⟩:=List.exists_cons_of_ne_nil R.ne
   have hx:=(R.fc x (.head _)).facts.1
   show (T.prod (x :: r)).nok
   cases x with
   | num a b=>cases hx
   | _=>trivial
  ·have:hdP q=[T.nm q]:=if_neg h1
   refine this▸?_
   exact ⟨q,rfl,rfl⟩
 | _=>trivial
theorem cms_iff:∀ {ts:List T},T.cms ts↔∀ t∈ts,t.cm
 | []=>by simp [T.cms]
 | t :: ts=>by rw [T.cms];rw [cms_iff];simp
theorem cmf_iff:∀ {ts:List T},T.cmf ts↔∀ t∈ts,t.isProd=false∧t.cm
 | []=>by simp [T.cmf]
 | t :: ts=>by rw [T.cmf];rw [cmf_iff];simp [and_assoc]
theorem cm_nm {r:Rat} (h:Sq r):(T.nm r).cm:=by
 show (T.num _ _).cm
 rw [T.cm]
 exact ⟨r,rfl,rfl,h.1,h.2⟩
theorem Nf.cm {t:T} (h:Nf t):Ht t≤2 ^ 108->t.cm:=by
 induction h with
 | num r=>intro hb;rw [Ht_nm] at hb;exact cm_nm (sq_of1 hb)
 | sym x=>intro _;rw [T.cm];trivial
 | @pow b j ha hn hj h0 h1 ih =>
  intro hb
  rw [Ht,T.val_nm] at hb
  have h2:=(Ht_NF hn).1
  have hm:=exp_le h2 hb
  have hc:=ih (Nat.le_trans (pow_ge (by lia) (mx_pos j)) hb)
  rw [T.cm]
  refine ⟨?_,cm_nm (sq_exp hj (by lia)),rfl⟩
  rcases atom_cases ha with ⟨x,rfl⟩ | ⟨ts,rfl⟩
  ·rw [T.cmB];trivial
  ·rw [T.cm] at hc;rw [T.cmB];exact hc
 | @sum us q h1 h2 h3 h4 h5 ih =>
  intro hb
  rw [Ht] at hb
  have nf:NFs (us ++ tailS q):=sum_mem_NF h1
  have hl:=len_le nf hb
  have up:∀ t∈us ++ tailS q,Ht t≤2 ^ 108:=fun t ht=>Nat.le_trans (Hts_mem nf.pos t ht) hb
  rw [T.cm];rw [cms_iff]
  refine ⟨fun t ht=>?_,by lia⟩
  have hu:=up t ht
  rcases List.mem_append.mp ht with ht | ht
  ·exact ih t ht hu
  ·obtain ⟨rfl,_⟩:=tail_one t ht
   rw [Ht_nm] at hu
   exact cm_nm (sq_of1 hu)
 | @prod us q h0 h1 h2 h3 h4 h5 ih =>
  intro hb
  rw [Ht] at hb
  have nf:NFs (hdP q ++ us):=fun t ht=>by
   rcases List.mem_append.mp ht with ht | ht
   ·obtain ⟨rfl,_⟩:=hdP_mem t ht;exact .num q
   ·exact h1 t ht
  have hl:=len_le nf hb
  have up:∀ t∈hdP q ++ us,Ht t≤2 ^ 108:=fun t ht=>Nat.le_trans (Hts_mem nf.pos t ht) hb
  rw [T.cm];rw [cmf_iff]
  refine ⟨fun t ht=>?_,by lia,fun e=>by rw [e] at h5;simp at h5⟩
  have hu:=up t ht
  rcases List.mem_append.mp ht with ht | ht
  ·obtain ⟨rfl,_⟩:=hdP_mem t ht
   rw [Ht_nm] at hu
   exact ⟨rfl,cm_nm (sq_of1 hu)⟩
  ·exact ⟨(h2 t ht).facts.2.1,ih t ht hu⟩
theorem sz_nm (r:Rat):(T.nm r).sz=1:=by show (T.num _ _).sz=1;rw [T.sz]
theorem szs_le {ts:List T}{n:Nat} (h:∀ t∈ts,t.sz≤n):T.szs ts≤n:=by
 induction ts with
 | nil=>rw [T.szs];lia
 | cons t ts ih =>
  rw [T.szs]
  exact Nat.max_le.mpr ⟨h t (.head _),ih fun u hu=>h u (.tail _ hu)⟩
theorem Nf.sz {t:T} (h:Nf t):t.sz≤2 * t.dp:=by
 induction h with
 | num r=>rw [sz_nm];rw [dp_nm];lia
 | sym x=>rw [T.sz];rw [T.dp];lia
 | @pow b j ha hn hj h0 h1 ih=>rw [T.sz];rw [sz_nm];rw [dp_pow];lia
 | @sum us q h1 h2 h3 h4 h5 ih =>
  rw [T.sz];rw [dp_sum]
  have:=szs_le (ts:=us ++ tailS q) (n:=2 * T.dps (us ++ tailS q)) fun t ht=>by
   have hd:=dps_mem t ht
   rcases List.mem_append.mp ht with ht | ht
   ·have:=ih t ht;lia
   ·obtain ⟨rfl,_⟩:=tail_one t ht
    have:=sz_nm q
    have:=dp_nm q
    lia
  lia
 | @prod us q h0 h1 h2 h3 h4 h5 ih =>
  rw [T.sz];rw [dp_prod]
  have:=szs_le (ts:=hdP q ++ us) (n:=2 * T.dps (hdP q ++ us)) fun t ht=>by
   have hd:=dps_mem t ht
   rcases List.mem_append.mp ht with ht | ht
   ·obtain ⟨rfl,_⟩:=hdP_mem t ht
    have:=sz_nm q
    have:=dp_nm q
    lia
   ·have:=ih t ht;lia
  lia
theorem rows_of {l:List T} (h:NFs l) (hb:Hts l≤2 ^ 108) (hd:∀ t∈l,t.dp≤10):Rows 20 l where
 cm t ht:=(h t ht).cm (Nat.le_trans (Hts_mem h.pos t ht) hb)
 sz t ht:=by have:=(h t ht).sz;have:=hd t ht;lia
theorem prod_len {us:List T} (h:Nf (.prod us)) (hb:Ht (.prod us)≤2 ^ 108):us.length≤108:=by
 rw [Ht] at hb
 exact len_le (fun t ht=>(h.facs_Pf t ht).nf) hb
theorem GOk_of {ps:List T} (h:NFs ps) (hb:Hts ps≤2 ^ 108) (hk:∀ p∈ps,Dk 8 p):GOk 20 7 ps:=by
 obtain ⟨c1,c2⟩:=count_Ht h
 have hl:=len_le h hb
 have each:∀ p∈ps,Ht p≤2 ^ 108:=fun p hp=>Nat.le_trans (Hts_mem h.pos p hp) hb
 refine ⟨fun p hp=>⟨(h p hp).nok,?_,?_,?_⟩,?_,⟨by lia,by decide⟩,?_,?_⟩
 ·rintro ts rfl
  have:=prod_len (h _ hp) (each _ hp)
  lia
 ·cases hn:p.isNum with
  | true =>
   obtain ⟨r,rfl⟩:=(h p hp).numEq hn
   refine (nm_rest ..)▸?_;decide
  | false=>exact (rest_Dk (hk p hp) hn).1
 ·obtain ⟨p1,p2⟩:=part_Ht (h p hp)
  have h1:=Hq_Vs (c:=p.cf) p2
  have:=each p hp
  rw [← p1] at h1
  exact sq_of3 (by lia)
 ·intro i t r hlk
  have ht:NFs (ps.take i):=fun p hp=>h p (List.mem_of_mem_take hp)
  obtain ⟨d1,d2⟩:=count_Ht ht
  have hm:=(look_mem (count_keys _)).mp hlk
  have pos:∀ x∈count (ps.take i),1≤Vs x.1 x.2:=fun x hx=>Vs_pos (d2 x hx) x.2
  have h1:=fold_mem pos hm
  have h2:=Hq_Vs (c:=r) (d2 _ hm)
  have h3:=Hts_take h.pos i
  exact sq_of3 (by
   generalize (2:Nat) ^ 108=B at *
   have h2:Hq r≤3+Vs t r:=h2
   lia)
 ·rintro ⟨k,c⟩ hx ts e
  have e:k=.prod ts:=e
  subst e
  have pos:∀ x∈count ps,1≤Vs x.1 x.2:=fun x hx=>Vs_pos (c2 x hx) x.2
  have h1:=fold_mem pos hx
  rcases count_key h hx with e | ⟨us,R,e⟩
  ·cases e
  ·have nf:Nf (.prod ts):=e▸rep_NF R ne10
   have h2:Ht (.prod ts)≤Vs (.prod ts) c:=by
    unfold Vs
    rw [if_neg (by intro e;cases e)]
    split
    ·exact Nat.le_refl _
    ·exact Nat.le_mul_of_pos_left _ (by have:=Hq_two c;lia)
   have:=prod_len nf (by
    generalize (2:Nat) ^ 108=B at *
    lia)
   lia
 ·have nf:NFs (foundS ps):=fun t ht=>(foundS_NF h t ht).1
  have h1:=(round_Ht h).1
  have h2:Hts (foundS ps)≤2 ^ 108:=by
   refine Nat.le_trans (Nat.le_mul_of_pos_right _ ?_) (Nat.le_trans h1 (Nat.le_trans c1 hb))
   split
   ·decide
   ·have:=Hq_two (numS ps);lia
  exact rows_of nf h2 fun t ht=>by have:=((Dk_keeps (by decide)).found hk t ht).1;lia
theorem GT_of:∀ (m:Nat) (parts:List T),NFs parts->(∀ p∈flatS parts,Dk 8 p)->Hts parts≤2 ^ 108->Hts parts * 2 ^ m≤3 ^ m->GT 20 7 m parts:=by
 intro m
 induction m with
 | zero =>
  intro parts h hk hb hm
  have hf:NFs (flatS parts):=fun p hp=>(flatS_NF h p hp).1
  have G:=GOk_of hf (by rw [flatS_Ht];exact hb) hk
  have hl:=len_le h hb
  refine .done G (by lia) fun t ht=>?_
  cases hs:t.isSum with
  | false=>rfl
  | true =>
   have h2:=again_Ht hf (fun p hp=>(flatS_NF h p hp).2) ⟨t,ht,hs⟩
   obtain ⟨_,c2⟩:=count_Ht hf
   have:=foldN_pos (φ:=Vs) (es:=count (flatS parts)) fun x hx=>Vs_pos (c2 x hx) x.2
   rw [flatS_Ht] at h2
   exfalso
   lia
 | succ m ih =>
  intro parts h hk hb hm
  have hf:NFs (flatS parts):=fun p hp=>(flatS_NF h p hp).1
  have G:=GOk_of hf (by rw [flatS_Ht];exact hb) hk
  have hl:=len_le h hb
  by_cases hex:∃ t∈foundS (flatS parts),t.isSum=true
  ·have h1:=(round_Ht hf).2
   have h2:=again_Ht hf (fun p hp=>(flatS_NF h p hp).2) hex
   rw [flatS_Ht] at h2
   have e:Hts (foundS (flatS parts) ++ [T.nm (numS (flatS parts))])=Hts (foundS (flatS parts)) * Hq (numS (flatS parts)):=by
    rw [Hts_append];rw [Hts];rw [Hts];rw [Ht_nm];rw [Nat.mul_one]
   have h3:Hts (foundS (flatS parts) ++ [T.nm (numS (flatS parts))]) * 3≤Hts parts * 2:=by rw [e];lia
   refine .again G (by lia) hex (ih _ (nextS_NF h) ((Dk_keeps (by decide)).next hk _) ?_ ?_)
   ·generalize (2:Nat) ^ 108=B at *;lia
   ·generalize Hts (foundS (flatS parts) ++ [T.nm (numS (flatS parts))])=H at *
    have h4:=Nat.mul_le_mul_right (2 ^ m) h3
    rw [Nat.pow_succ,Nat.pow_succ] at hm
    have e1:H * 3 * 2 ^ m=3 * (H * 2 ^ m):=by simp only [Nat.mul_comm,Nat.mul_left_comm,Nat.mul_assoc]
    have e2:Hts parts * 2 * 2 ^ m=Hts parts * (2 ^ m * 2):=by rw [Nat.mul_assoc];rw [Nat.mul_comm 2]
    rw [e1,e2] at h4
    lia
  ·refine .done G (by lia) fun t ht=>?_
   cases hs:t.isSum with
   | false=>rfl
   | true=>exact absurd ⟨t,ht,hs⟩ hex
theorem GT_185 {parts:List T} (h:NFs parts) (hk:∀ p∈flatS parts,Dk 8 p) (hb:Hts parts≤2 ^ 108):GT 20 7 185 parts :=
 GT_of 185 parts h hk hb (Nat.le_trans (Nat.mul_le_mul_right _ hb) (by decide +kernel))
theorem Hq_num {q:Rat}{A B:Nat} (h:(if q=1 then 1 else Hq q) * A≤B) (hA:1≤A):Hq q≤3+B:=by
 by_cases h1:q=1
 ·refine h1▸?_;refine Hq_one▸?_;lia
 ·rw [if_neg h1] at h
  have:=Nat.le_trans (Nat.le_mul_of_pos_right (Hq q) hA) h
  lia
theorem POk_of {ps:List T} (h:Pfs ps) (hb:Hts ps≤2 ^ 108) (hk:∀ p∈ps,p.base.dp≤8):POk ps∧POk2 20 7 ps:=by
 have nf:NFs ps:=fun p hp=>(h p hp).nf
 have hl:=len_le nf hb
 have each:∀ p∈ps,Ht p≤2 ^ 108:=fun p hp=>Nat.le_trans (Hts_mem nf.pos p hp) hb
 have take:∀ i,Pfs (ps.take i):=fun i p hp=>h p (List.mem_of_mem_take hp)
 have nums:∀ i,numP' (ps.take i)=numP' (ps.take i)∧1≤Hts ((ps.take i).filter fun p=>!p.isNum):=fun i=>⟨rfl,Hts_pos fun t ht=>by
  obtain ⟨ht,_⟩:=List.mem_filter.mp ht
  exact nf.pos t (List.mem_of_mem_take ht)⟩
 have tk:∀ i,Hts (ps.take i)≤2 ^ 108:=fun i=>Nat.le_trans (Hts_take nf.pos i) hb
 have filt:∀ i,Hts ((ps.take i).filter fun p=>!p.isNum)≤2 ^ 108:=fun i=>by
  refine Nat.le_trans (Nat.le_mul_of_pos_left _ ?_) (Nat.le_trans (numP_Ht (take i)) (tk i))
  split
  ·decide
  ·have:=Hq_two (numP' (ps.take i));lia
 refine ⟨⟨fun p hp hn=>?_,fun p hp hn=>⟨hk p hp,?_⟩,fun i=>?_,fun i t r hlk=>?_,by lia⟩,⟨fun x hx=>?_,?_,by lia,by decide⟩⟩
 ·obtain ⟨r,rfl⟩:=(nf p hp).numEq hn
  have:=each _ hp
  rw [Ht_nm] at this
  exact ⟨r,rfl,sq_of1 this⟩
 ·obtain ⟨nfp,fc⟩:=(h p hp).nonnum hn
  obtain ⟨_,_,_,j,e,h1,h2⟩:=fc.facts
  have h3:=each p hp
  rw [fac_Ht fc,e,T.val_nm] at h3
  have:=exp_le (Ht_NF (nfp.base fc)).1 h3
  exact ⟨j,e,sq_exp h1 (by lia)⟩
 ·refine sq_of3 ?_
  have h1:=Hq_num (numP_Ht (take i)) (nums i).2
  have h2:=tk i
  generalize (2:Nat) ^ 108=B at *
  lia
 ·obtain ⟨f1,f2,_⟩:=foldP_Ht (take i)
  have hm:=(look_mem (countE_keys _)).mp hlk
  have pos:∀ x∈countE (ps.take i),1≤Vp x.1 x.2:=fun x hx=>Vp_pos (by have:=f2 x hx;lia) _
  have h1:=Nat.le_trans (fold_mem pos hm) (Nat.le_trans f1 (filt i))
  have h2:=f2 _ hm
  have:=exp_le (show 2≤Ht t by have h2:16≤Ht t:=h2;lia) h1
  exact sq_exp (countE_entry (take i) _ hm).2.2 (by lia)
 ·obtain ⟨a1,a2,a3⟩:=countE_entry h x hx
  refine ⟨a1,?_,a3⟩
  obtain ⟨p,hp,_,e⟩:=countE_src (show (x.1,x.2)∈countE ps from hx)
  have:=hk p hp
  replace this:=e▸this
  lia
 ·obtain ⟨f1,f2,f3⟩:=foldP_Ht h
  have h2:=filt ps.length
  replace h2:=List.take_length▸h2
  refine rows_of (fun t ht=>(foundP_mem h t ht).1) (Nat.le_trans f3 (Nat.le_trans f1 h2)) fun t ht=>?_
  obtain ⟨x,hx,rfl⟩:=List.mem_map.mp ht
  obtain ⟨hx,h0⟩:=List.mem_filter.mp hx
  obtain ⟨p,hp,_,e⟩:=countE_src (show (x.1,x.2)∈countE ps from hx)
  have hd:=hk p hp
  replace hd:=e▸hd
  unfold powT
  split
  ·show (T.nm 1).dp≤10;refine (dp_nm ..)▸?_;lia
  ·split
   ·lia
   ·refine (dp_pow ..)▸?_;lia
theorem Pf.facs {p:T} (h:Pf p):p.facs=[p]:=by
 rcases h with ⟨r,rfl⟩ | ⟨_,fc⟩
 ·rfl
 ·exact fc.bare.2.2.2.2
theorem flatP_id {l:List T} (h:Pfs l):flatP l=l:=flatMap_single fun x hx=>(h x hx).facs
theorem EOk_of {e:Rat} (he:e.den=1) (h:mx e≤108):EOk 108 e:=by
 have:e.num.natAbs≤mx e:=Nat.le_max_left _ _
 exact ⟨he,by decide,by lia,by lia⟩
theorem Kbase:KeepsP fun f=>f.base.dp≤8 where
 pow f e ha h0 h:=by
  unfold powT
  refine (if_neg h0)▸?_
  split
  ·refine ha.base.symm▸?_;exact h
  ·exact h
 num r:=by show (T.nm r).dp≤8;refine (dp_nm ..)▸?_;decide
theorem PFac_of {e:Rat}{p:T} (h:Pf p) (he:e.den=1) (hm:mx e≤108) (hb:Ht p≤2 ^ 108) (hk:p.base.dp≤8) (h0:p≠ZERO):PFac 108 e p:=by
 rcases h with ⟨r,rfl⟩ | ⟨nf,fc⟩
 ·rw [Ht_nm] at hb
  unfold Hq at hb
  have:=r.den_pos
  refine .num (fun h=>h0 (by refine h▸?_;rfl)) ?_ ?_ <;> (generalize (2:Nat) ^ 108=B at *;lia)
 ·have hn:Nf p.base:=nf.base fc
  rcases fc with ha | ⟨b,j,rfl,hb',hj,j0,j1⟩
  ·rw [ha.base] at hk
   exact .atom ha (by lia)
  ·rw [Ht,T.val_nm] at hb
   have h3:=exp_le (Ht_NF hn).1 hb
   have h4:(T.pow b (T.nm j)).base=b:=rfl
   rw [h4] at hk
   have h5:mx j * mx e≤108 * 108:=Nat.mul_le_mul h3 hm
   have h6:=mx_mul hj he
   exact .pow hb' (by lia) hj (sq_exp hj (by lia)) (sq_exp (den_mul hj he) (by lia))
theorem PwOk_of {b:T}{e:Rat} (hb:Nf b) (he:e.den=1) (hm:mx e≤108) (hB:Ht b ^ mx e≤2 ^ 108) (hk:∀ f∈b.facs,f.base.dp≤8):PwOk 108 20 7 e b:=by
 have h1:Ht b≤2 ^ 108:=Nat.le_trans (pow_ge (by have:=(Ht_NF hb).1;lia) (mx_pos e)) hB
 have one:b.isNum=false->b.isProd=false->PwOk 108 20 7 e b:=fun n1 n2=>by
  have e1:b.facs=[b]:=by
   cases b with
   | prod ts=>cases n2
   | _=>rfl
  refine .inr (.inl (PFac_of (hb.facs_Pf b (by refine (e1 ..)▸?_;exact .head _)) he hm h1 (hk b (by refine (e1 ..)▸?_;exact .head _)) ?_))
  rintro rfl
  cases n1
 cases b with
 | num p q =>
  obtain ⟨r,e1⟩:=hb.numEq rfl
  rw [e1,Ht_nm] at h1
  unfold Hq at h1
  have:=r.den_pos
  refine .inl ⟨r,e1,?_,?_⟩ <;> (generalize (2:Nat) ^ 108=B at *;lia)
 | sym x=>exact one rfl rfl
 | sum ts=>exact one rfl rfl
 | pow x y=>exact one rfl rfl
 | prod ps =>
  have hp2:∀ p∈ps,Pf p∧p≠ZERO:=fun p hp=>by
   refine ⟨hb.facs_Pf p hp,?_⟩
   obtain ⟨us,q,h0,R,rfl,_⟩:=prod_parts hb
   rcases List.mem_append.mp hp with hp | hp
   ·obtain ⟨rfl,_⟩:=hdP_mem p hp
    exact fun e=>h0 (nm_inj.mp e)
   ·have:=(R.fc p hp).facts.1
    rintro rfl
    cases this
  have nf:NFs ps:=fun p hp=>(hp2 p hp).1.nf
  rw [Ht] at h1 hB
  refine .inr (.inr ⟨ps,rfl,fun p hp=>PFac_of (hp2 p hp).1 he hm (Nat.le_trans (Hts_mem nf.pos p hp) h1) (hk p hp) (hp2 p hp).2,fun e0 e1=>?_,by have:=len_le nf h1;lia,?_⟩)
  ·have pf:=powF_parts hb he e0
   refine (flatP_id pf).symm▸?_
   refine POk_of pf (Nat.le_trans (powFs_Ht (fun p hp=>(hp2 p hp).1) he e0) hB) fun p hp=>?_
   obtain ⟨x,hx,rfl⟩:=List.mem_map.mp hp
   exact powF_ind Kbase (hp2 x hx).1 (hk x hx) e0
  ·refine (dp_prod ..)▸?_
   have:=dps_le (ts:=ps) (n:=9) fun p hp=>by
    have hk:=hk p hp
    rcases (hp2 p hp).1 with ⟨r,rfl⟩ | ⟨nf,fc⟩
    ·refine (dp_nm ..)▸?_;lia
    ·rcases fc with ha | ⟨b,j,rfl,hb',hj,j0,j1⟩
     ·rw [ha.base] at hk;lia
     ·have h4:(T.pow b (T.nm j)).base=b:=rfl
      rw [h4] at hk
      refine (dp_pow ..)▸?_;lia
   lia
end
section
noncomputable abbrev SO (t:T):Prop:=SOk 108 20 7 185 t
theorem soks_iff:∀ {ts:List T},SOks 108 20 7 185 ts↔∀ t∈ts,SO t
 | []=>by simp [SOks]
 | t :: ts=>by rw [SOks];rw [soks_iff];simp
theorem RB_up {n:Nat} (h:n≤3):RB n≤2 ^ 108:=by refine RB_3▸?_;exact RB_le h
theorem sm_small {q:Int} (h:q.natAbs≤2 ^ 108):Sm q:=by
 have h1:(2:Nat) ^ 108 < 2 ^ 4200:=(Nat.pow_lt_pow_iff_right (by decide)).mpr (by decide)
 unfold Sm
 lia
theorem Raw_SO {n:Nat}{t:T} (h:Raw n t):n≤3->SO t:=by
 induction h with
 | @sym n x h=>intro _;unfold SO;rw [SOk];trivial
 | @num n p q a b c d =>
  intro _
  unfold SO
  rw [SOk]
  have h1:(3:Nat)≤2 ^ 108:=by decide +kernel
  exact ⟨by lia,sm_small (by generalize (2:Nat) ^ 108=B at *;lia)⟩
 | @pow n b j hb a c ih =>
  intro hn
  unfold SO
  refine (nm_int ..)▸?_;rw [SOk]
  have hm:=mx_raw a c
  refine ⟨ih (by lia),(j:Rat),rfl,EOk_of rfl (by lia),fun b' hs=>?_⟩
  have nb:=hb.simpNF hs
  have:=(Ht_NF nb).1
  obtain ⟨_,i2⟩:=lv_in (by lia) (Raw_Lv hb (by lia) b' hs)
  obtain ⟨_,_,_,q2,_⟩:=PN_le (n:=n) (by lia)
  exact PwOk_of nb rfl (by lia) (Nat.le_trans (RB_pow (Raw_SHt hb b' hs) (by lia) a c) (RB_up hn)) fun f hf=>by have:=(i2 f hf).1;lia
 | @sum n ts hb a b ih =>
  intro hn
  unfold SO
  rw [SOk];rw [soks_iff]
  refine ⟨fun t ht=>ih t ht (by lia),by lia,fun us hs=>?_⟩
  obtain ⟨_,p2,_,_,_⟩:=PN_le (n:=n) (by lia)
  refine GT_185 (Raw.simpsNF hb hs) (fun p hp=>(Simps.inS (n:=n) (by lia) (fun u hu=>?_) p hp).mono p2) (Nat.le_trans (Raw_SHts hb hs b) (RB_up hn))
  obtain ⟨t,ht,hs⟩:=hs.mem u hu;exact Raw_Lv (hb t ht) (by lia) u hs
 | @prod n ts hb a b ih =>
  intro hn
  unfold SO
  rw [SOk];rw [soks_iff]
  refine ⟨fun t ht=>ih t ht (by lia),by lia,fun us hs=>?_⟩
  obtain ⟨_,_,_,q2,_⟩:=PN_le (n:=n) (by lia)
  have nf:=Raw.simpsNF hb hs
  refine POk_of (flatP_Pf nf) (by rw [flatP_Ht];exact Nat.le_trans (Raw_SHts hb hs b) (RB_up hn)) fun p hp=>?_
  have:=(Simps.inP (n:=n) (us:=us) (by lia) (fun u hu=>by obtain ⟨t,ht,hs⟩:=hs.mem u hu;exact Raw_Lv (hb t ht) (by lia) u hs) p hp).1
  lia
theorem Nf.idem {ts us:List T} (h:NFs ts) (s:Simps ts us):us=ts:=Simps.id (fun t ht u hu=>(h t ht).twice.1 u hu) s
theorem SO_nm {r:Rat} (h:Hq r≤2 ^ 108):SO (T.nm r):=by
 show SO (.num _ _)
 unfold SO
 rw [SOk]
 have:=r.den_pos
 unfold Hq at h
 exact ⟨by lia,sm_small (by generalize (2:Nat) ^ 108=B at *;lia)⟩
theorem SO_pow {b:T}{j:Rat} (h:Nf (.pow b (T.nm j))) (hb:Ht (.pow b (T.nm j))≤2 ^ 108) (hk:b.dp≤8) (hs:SO b):SO (.pow b (T.nm j)):=by
 generalize e:T.pow b (T.nm j)=t at h
 cases h with
 | @pow b' j' ha hn hj h0 h1 =>
  injection e with e1 e2
  obtain rfl:=nm_inj.mp e2
  subst e1
  unfold SO
  rw [Ht,T.val_nm] at hb
  have hm:=exp_le (Ht_NF hn).1 hb
  rw [SOk]
  refine ⟨hs,j,rfl,EOk_of hj hm,fun b' s=>?_⟩
  refine (hn.twice.1 b' s).symm▸?_
  refine PwOk_of hn hj hm hb fun f hf=>?_
  have:b.facs=[b]:=by
   rcases atom_cases ha with ⟨x,rfl⟩ | ⟨ts,rfl⟩ <;> rfl
  rw [this] at hf
  obtain rfl:=List.mem_singleton.mp hf
  refine ha.base.symm▸?_;exact hk
 | _=>cases e
theorem SO_sum {ts:List T} (h:Nf (.sum ts)) (hb:Ht (.sum ts)≤2 ^ 108) (hk:∀ p∈ts,Dk 8 p) (hs:∀ t∈ts,SO t):SO (.sum ts):=by
 have nf:NFs ts:=fun t ht=>(h.sumParts t ht).1
 unfold SO
 rw [Ht] at hb
 rw [SOk];rw [soks_iff]
 refine ⟨hs,by have:=len_le nf hb;lia,fun us s=>?_⟩
 rw [Nf.idem nf s]
 refine GT_185 nf (fun p hp=>?_) hb
 obtain ⟨t,ht,hp⟩:=List.mem_flatMap.mp hp
 exact (Dk_keeps (by decide)).sumsOf (hk t ht) p hp
theorem SO_prod {ts:List T} (h:Nf (.prod ts)) (hb:Ht (.prod ts)≤2 ^ 108) (hk:∀ p∈ts,p.base.dp≤8) (hs:∀ t∈ts,SO t):SO (.prod ts):=by
 have pf:Pfs ts:=h.facs_Pf
 have nf:NFs ts:=fun t ht=>(pf t ht).nf
 unfold SO
 rw [Ht] at hb
 rw [SOk];rw [soks_iff]
 refine ⟨hs,by have:=len_le nf hb;lia,fun us s=>?_⟩
 refine (Nf.idem nf s)▸?_;refine (flatP_id pf).symm▸?_
 exact POk_of pf hb hk
theorem Ht_part {ts:List T} (h:NFs ts) {t:T} (ht:t∈ts) (hb:Hts ts≤2 ^ 108):Ht t≤2 ^ 108:=Nat.le_trans (Hts_mem h.pos t ht) hb
theorem Nf.powParts {b e:T} (h:Nf (.pow b e)):∃ j,e=T.nm j∧Atom b∧Nf b∧j.den=1∧j≠0∧j≠1:=by
 generalize q:T.pow b e=t at h
 cases h with
 | @pow b' j ha hn hj h0 h1=>injection q with e1 e2;subst e1;exact ⟨j,e2,ha,hn,hj,h0,h1⟩
 | _=>cases q
theorem NF_SO:∀ (n:Nat) (t:T),t.dp≤n->n≤8->Nf t->Ht t≤2 ^ 108->SO t:=by
 intro n
 induction n with
 | zero=>intro t h;have:=dp_pos t;lia
 | succ n ih =>
  intro t hd hn h hb
  cases t with
  | num p q =>
   obtain ⟨r,e⟩:=h.numEq rfl
   rw [e] at hb ⊢
   rw [Ht_nm] at hb
   exact SO_nm hb
  | sym x=>unfold SO;rw [SOk];trivial
  | pow b e =>
   obtain ⟨j,rfl,ha,hnb,hj,_⟩:=h.powParts
   rw [dp_pow] at hd
   refine SO_pow h hb (by lia) (ih b (by lia) (by lia) hnb ?_)
   rw [Ht,T.val_nm] at hb
   exact Nat.le_trans (pow_ge (by have:=(Ht_NF hnb).1;lia) (mx_pos j)) hb
  | sum ts =>
   have nf:NFs ts:=fun t ht=>(h.sumParts t ht).1
   rw [dp_sum] at hd
   have dp:∀ t∈ts,t.dp≤n - 1:=fun t ht=>by have:=dps_mem t ht;lia
   have hb':=hb
   rw [Ht] at hb'
   exact SO_sum h hb (fun p hp=>Dk.all (by have:=dp p hp;have:=dp_pos p;lia)) fun t ht=>ih t (by have:=dp t ht;lia) (by lia) (nf t ht) (Ht_part nf ht hb')
  | prod ts =>
   have nf:NFs ts:=fun t ht=>(h.facs_Pf t ht).nf
   rw [dp_prod] at hd
   have dp:∀ t∈ts,t.dp≤n - 1:=fun t ht=>by have:=dps_mem t ht;lia
   have hb':=hb
   rw [Ht] at hb'
   exact SO_prod h hb (fun p hp=>by have:=dp p hp;have:=dp_base p;lia) fun t ht=>ih t (by have:=dp t ht;lia) (by lia) (nf t ht) (Ht_part nf ht hb')
structure Fin (u:T):Prop where
 nf:Nf u
 ht:Ht u≤2 ^ 108
 lv:Lv 8 6 u
 sy:Sy u
theorem Raw.fin {t u:T} (h:Raw 3 t) (s:Simp t u):Fin u :=
 ⟨h.simpNF s,Nat.le_trans (Raw_SHt h u s) (RB_up (Nat.le_refl _)),Raw_Lv h (Nat.le_refl _) u s,Raw_Sy h u s⟩
theorem Fin.so {u:T} (h:Fin u):SO u:=by
 obtain ⟨nf,hb,lv,_⟩:=h
 have easy:u.dp≤8->SO u:=fun h=>NF_SO 8 u h (Nat.le_refl _) nf hb
 cases u with
 | num p q=>exact easy (by have:=lv.2;lia)
 | sym x=>exact easy (by have:=lv.2;lia)
 | pow b e=>exact easy (by have:=lv.2;lia)
 | sum ts =>
  have nfs:NFs ts:=fun t ht=>(nf.sumParts t ht).1
  have hb':=hb
  rw [Ht] at hb'
  exact SO_sum nf hb lv fun t ht=>NF_SO 8 t (lv t ht).1 (Nat.le_refl _) (nfs t ht) (Ht_part nfs ht hb')
 | prod ts =>
  have nfs:NFs ts:=fun t ht=>(nf.facs_Pf t ht).nf
  have hb':=hb
  rw [Ht] at hb'
  exact SO_prod nf hb (fun p hp=>by have:=(lv p hp).1;lia) fun t ht=>NF_SO 8 t (by have:=(lv t ht).2;lia) (Nat.le_refl _) (nfs t ht) (Ht_part nfs ht hb')
theorem Fin.dp {u:T} (h:Fin u):u.dp≤10:=by
 obtain ⟨nf,hb,lv,_⟩:=h
 cases u with
 | num p q=>have:=lv.2;lia
 | sym x=>have:=lv.2;lia
 | pow b e=>have:=lv.2;lia
 | sum ts=>refine (dp_sum ..)▸?_;have:=dps_le fun p hp=>(lv p hp).1;lia
 | prod ts=>refine (dp_prod ..)▸?_;have:=dps_le fun p hp=>(lv p hp).2;lia
theorem ht_dp:∀ (n:Nat) (t:T),t.dp≤n->t.ht≤n:=by
 intro n
 induction n with
 | zero=>intro t h;have:=dp_pos t;lia
 | succ n ih =>
  intro t h
  cases t with
  | num p q=>rw [T.ht];lia
  | sym x=>rw [T.ht];lia
  | pow b e=>rw [T.dp] at h;rw [T.ht];have:=ih b (by lia);lia
  | sum ts=>rw [dp_sum] at h;rw [T.ht];have:=hts_le (ts:=ts) (n:=n) fun t ht=>ih t (by have:=dps_mem t ht;lia);lia
  | prod ts=>rw [dp_prod] at h;rw [T.ht];have:=hts_le (ts:=ts) (n:=n) fun t ht=>ih t (by have:=dps_mem t ht;lia);lia
section
variable {c:Cx}
theorem fin_twice (P:Pg c) (K:Rc c) {u:T} (h:Fin u):Fn c 620 "simplify" [.val u.enc] (fun r=>r=⟨.val u.enc,true⟩) False :=
 Fn.up (fn_simplify P K 10 u (Nat.le_trans (ht_dp _ u (Nat.le_refl _)) h.dp) h.so _ _ (fun w s=>congrArg (fun u=>(⟨.val (T.enc u),true⟩:RV)) (h.nf.twice.1 w s)) h.nf.twice.2) (by decide)
theorem raw_simp (P:Pg c) (K:Rc c) {t:T} (h:Raw 3 t):SimpFn c 620 t:=fun Q X k hX =>
 Fn.up (fn_simplify P K 3 t h.hts (Raw_SO h (Nat.le_refl _)) Q X k hX) (by decide)
theorem raw_back (P:Pg c) (K:Rc c) {t u:T} (h:Raw 3 t) (s:Simp t u):Fn c 620 "simplify" [.val (turned t).enc] (fun r=>r=⟨.val u.enc,true⟩) False :=
 raw_simp P K h.turned _ _ (fun w s'=>congrArg (fun u=>(⟨.val (T.enc u),true⟩:RV)) ((Simp_det _ t (Nat.le_refl _) h.wf).2 u w s s').symm) (nofail _ t (Nat.le_refl _) h.wf u s).2
end
end
section
mutual
noncomputable def Wq:T->Prop
 | .num _ q=>Sm q
 | .sym x=>x="x"∨x="y"∨x="z"
 | .pow b e=>Wq b∧∃ j:Int,e=T.nm (j:Rat)∧j.natAbs≤4096
 | .sum ts=>Wqs ts∧ts≠[]∧ts.length≤1000000
 | .prod ts=>Wqs ts∧ts≠[]∧ts.length≤1000000
noncomputable def Wqs:List T->Prop
 | []=>True
 | t :: ts=>Wq t∧Wqs ts
end
theorem wqs_mk:∀ {ts:List T},(∀ t∈ts,Wq t)->Wqs ts
 | [],_=>trivial
 | t :: ts,h=>⟨h t (.head _),wqs_mk fun u hu=>h u (.tail _ hu)⟩
theorem wqs_mem:∀ {ts:List T},Wqs ts->∀ t∈ts,Wq t
 | t :: ts,h,u,hu=>(List.mem_cons.mp hu).elim (fun e=>e▸h.1) (wqs_mem h.2 u)
theorem woka_mk {v:Str->Rat}:∀ {ts:List T},(∀ t∈ts,WOk v t)->WOkA v ts
 | [],_=>trivial
 | t :: ts,h=>⟨h t (.head _),woka_mk fun u hu=>h u (.tail _ hu)⟩
theorem Hq_pos (r:Rat):1≤Hq r:=Nat.le_add_left ..
mutual
theorem Ht_pos:∀ t:T,1≤Ht t
 | .num p q=>Hq_pos _
 | .sym x=>Nat.le_add_left 1 15
 | .pow b e=>Nat.pow_pos (Ht_pos b)
 | .sum ts=>Hts_pos' ts
 | .prod ts=>Hts_pos' ts
theorem Hts_pos':∀ ts:List T,1≤Hts ts
 | []=>Nat.le_refl 1
 | t :: ts=>Nat.mul_pos (Ht_pos t) (Hts_pos' ts)
end
theorem hq_sm {r:Rat} (h:Hq r≤2 ^ 108):Sm r.den:=sm_small (Nat.le_trans (Nat.le_trans (Nat.le_add_left _ _) (Nat.le_add_right _ 1)) h)
theorem Raw.wq {n:Nat}{t:T} (h:Raw n t):Wq t:=by
 induction h with
 | sym h=>exact h
 | num a b c d =>
  have h1:(3:Nat)≤2 ^ 108:=by decide +kernel
  exact sm_small (by generalize (2:Nat) ^ 108=B at *;lia)
 | pow _ a c ih=>exact ⟨ih,_,rfl,by lia⟩
 | sum _ a b ih=>exact ⟨wqs_mk ih,fun e=>by rw [e] at a;exact absurd a (by decide),Nat.le_trans b (by decide)⟩
 | prod _ a b ih=>exact ⟨wqs_mk ih,fun e=>by rw [e] at a;exact absurd a (by decide),Nat.le_trans b (by decide)⟩
theorem Nf.sumLen {ts:List T} (h:Nf (.sum ts)):2≤ts.length:=by
 generalize e:T.sum ts=t at h
 cases h with
 | sum _ _ _ _ h5=>exact T.sum.inj e▸h5
 | _=>cases e
theorem sys_mem:∀ {ts:List T},Sys ts->∀ t∈ts,Sy t
 | t :: ts,h,u,hu=>(List.mem_cons.mp hu).elim (fun e=>e▸h.1) (sys_mem h.2 u)
theorem Nf.wq {t:T}:Nf t->Ht t≤2 ^ 108->Sy t->Wq t:=by
 have list:∀ (ts:List T),(∀ t∈ts,Nf t->Ht t≤2 ^ 108->Sy t->Wq t)->NFs ts->2≤ts.length->Hts ts≤2 ^ 108->Sys ts->Wqs ts∧ts≠[]∧ts.length≤1000000:=fun ts ih nf h2 hb hs =>
  ⟨wqs_mk fun t ht=>ih t ht (nf t ht) (Ht_part nf ht hb) (sys_mem hs t ht),fun e=>by rw [e] at h2;exact absurd h2 (by decide),Nat.le_trans (len_le nf hb) (by decide)⟩
 refine T.ind (p:=fun t=>Nf t->Ht t≤2 ^ 108->Sy t->Wq t) (fun p q h hb _=>?_) (fun x _ _ h=>h) (fun b e ih _ h hb hs=>?_) (fun ts ih h=>list ts ih (fun t ht=>(h.sumParts t ht).1) h.sumLen) (fun ts ih h=>list ts ih (fun t ht=>(h.facs_Pf t ht).nf) h.prodLen) t
 ·obtain ⟨r,e⟩:=h.numEq rfl
  obtain ⟨rfl,rfl⟩:=T.num.inj e
  rw [show Ht (.num r.num r.den)=Hq r from Ht_nm r] at hb
  exact hq_sm hb
 ·obtain ⟨j,rfl,ha,hnb,hj,_⟩:=h.powParts
  rw [show Ht (.pow b (T.nm j))=Ht b ^ mx j from congrArg (fun r=>Ht b ^ mx r) (T.val_nm j)] at hb
  exact ⟨ih hnb (Nat.le_trans (pow_ge (Ht_pos b) (mx_pos j)) hb) hs,j.num,by exact (int_of hj)▸rfl,Nat.le_trans (Nat.le_trans (Nat.le_max_left _ 1) (exp_le (Ht_NF hnb).1 hb)) (by decide)⟩
theorem opR_Hq:∀ (s:Bool) (r x:Rat),Hq (opR s r x)≤Hq r * Hq x
 | true,r,x=>Hq_add r x
 | false,r,x=>Hq_mul r x
theorem wok_L {v:Str->Rat}{s:Bool}:∀ (ts:List T) (r:Rat),(∀ t∈ts,∀ x,ev v t=some x->Hq x≤Ht t)->Hq r * Hts ts≤2 ^ 200->WOkL v s ts r∧∀ y,evL v s ts r=some y->Hq y≤Hq r * Hts ts
 | [],r,_,hb=>⟨sq_of (Nat.le_trans (Nat.le_of_eq (Nat.mul_one _).symm) hb),fun y h=>Option.some.inj h▸Nat.le_of_eq (Nat.mul_one _).symm⟩
 | t :: ts,r,h,hb =>
  have h1:=Hts_pos' ts
  have up:∀ x,ev v t=some x->Hq (opR s r x) * Hts ts≤Hq r * Hts (t :: ts):=fun x hx=>Nat.le_trans (Nat.mul_le_mul_right _ (Nat.le_trans (opR_Hq s r x) (Nat.mul_le_mul_left _ (h t (.head _) x hx)))) (Nat.le_of_eq (Nat.mul_assoc ..))
  have ih:=fun x hx=>wok_L (s:=s) ts (opR s r x) (fun t ht=>h t (.tail _ ht)) (Nat.le_trans (up x hx) hb)
  ⟨⟨sq_of (Nat.le_trans (Nat.le_mul_of_pos_right _ (Nat.mul_pos (Ht_pos t) h1)) hb),fun x hx=>⟨sq_of (Nat.le_trans (Nat.le_trans (h t (.head _) x hx) (Nat.le_trans (Nat.le_mul_of_pos_right _ h1) (Nat.le_mul_of_pos_left _ (Hq_pos r)))) hb),(ih x hx).1⟩⟩,fun y hy=>(Option.bind_eq_some_iff.mp hy).elim fun x q=>Nat.le_trans ((ih x q.1).2 y q.2) (up x q.1)⟩
theorem wok_L1 {v:Str->Rat}{s:Bool}:∀ {ts:List T},ts≠[]->(∀ t∈ts,∀ x,ev v t=some x->Hq x≤Ht t)->Hts ts≤2 ^ 108->WOkL v s ts (uR s)∧∀ y,evL v s ts (uR s)=some y->Hq y≤Hts ts
 | [],h,_,_=>(h rfl).elim
 | t :: ts,_,h,hb =>
  have up:∀ x,ev v t=some x->Hq (opR s (uR s) x) * Hts ts≤Hts (t :: ts):=fun x hx=>Nat.mul_le_mul_right _ (Nat.le_trans (Nat.le_of_eq (congrArg Hq (opR_unit s x))) (h t (.head _) x hx))
  have ih:=fun x hx=>wok_L (s:=s) ts (opR s (uR s) x) (fun t ht=>h t (.tail _ ht)) (Nat.le_trans (Nat.le_trans (up x hx) hb) b108)
  ⟨⟨s.rec sq_one sq_zero,fun x hx=>⟨sq_of1 (Nat.le_trans (h t (.head _) x hx) (Nat.le_trans (Nat.le_mul_of_pos_right _ (Hts_pos' ts)) hb)),(ih x hx).1⟩⟩,fun y hy=>(Option.bind_eq_some_iff.mp hy).elim fun x q=>Nat.le_trans ((ih x q.1).2 y q.2) (up x q.1)⟩
theorem vok_Hq {v:Str->Rat} (h:VOk v) (x:Str):Hq (v x)≤16:=by
 obtain ⟨q,p1,p2,p3,⟨hq,h1,h2,h3⟩,rfl⟩:=h
 have one:∀ p:Int,-4≤p∧p≤4->Hq (Rat.divInt p q)≤16:=fun p hp=>Nat.le_trans (Hq_divInt (by omega)) (by omega)
 unfold qv
 split
 ·exact one _ h1
 ·split
  ·exact one _ h2
  ·exact one _ h3
theorem sm_pow {a:Int}{n H m:Nat} (ha:a.natAbs≤H) (h1:1≤H) (hn:n≤m) (hb:H ^ m≤2 ^ 108):Sm (a ^ n):=by
 refine sm_small ?_
 refine (Int.natAbs_pow ..)▸?_
 exact Nat.le_trans (Nat.pow_le_pow_left ha n) (Nat.le_trans (Nat.pow_le_pow_right h1 hn) hb)
theorem ratioO_some {p q:Int}{x:Rat} (h:ratioO p q=some x):Rat.divInt p q=x:=by
 unfold ratioO at h
 split at h
 ·exact non h
 ·exact Option.some.inj h
theorem worth_powH {v:Str->Rat}{b:T}{j:Int} (hj:j.natAbs≤4096) (ih:Ht b≤2 ^ 108->WOk v b∧∀ x,ev v b=some x->Hq x≤Ht b) (hb:Ht b ^ mx (j:Rat)≤2 ^ 108) :
  WOk v (.pow b (T.nm (j:Rat)))∧∀ y,ev v (.pow b (T.nm (j:Rat)))=some y->Hq y≤Ht b ^ mx (j:Rat):=by
 have hp:=Ht_pos b
 have hb1:=Nat.le_trans (pow_ge hp (mx_pos (j:Rat))) hb
 have hjm:j.natAbs≤mx (j:Rat):=Nat.le_max_left _ _
 have i2:=(ih hb1).2
 refine ⟨⟨(ih hb1).1,j,rfl,hj,fun x hx=>?_⟩,fun y hy=>?_⟩
 ·have n1:=Nat.le_trans (Nat.le_trans (Nat.le_add_right _ _) (Nat.le_add_right _ 1)) (i2 x hx)
  have n2:(x.den:Int).natAbs≤Ht b:=Nat.le_trans (Nat.le_trans (Nat.le_add_left _ _) (Nat.le_add_right _ 1)) (i2 x hx)
  exact ⟨sm_small (Nat.le_trans n1 hb1),sm_small (Nat.le_trans n2 hb1),sm_pow n1 hp hjm hb,sm_pow n2 hp hjm hb⟩
 ·obtain ⟨x,hx,h0,rfl⟩:=(ev_pow (e:=(j:Rat)) rfl).mp hy
  have hq:=i2 x hx
  by_cases hj0:j=0
  ·have hx0:x≠0:=h0.resolve_right (by refine hj0.symm▸?_;decide)
   refine hj0▸?_
   exact Nat.le_trans (Nat.le_of_eq ((congrArg Hq (Rat.zpow_zero x)).trans Hq_one)) (Nat.le_trans (Hq_three hx0) (Nat.le_trans hq (pow_ge hp (mx_pos _))))
  ·exact Nat.le_trans (Hq_zpow x hj0) (Nat.le_trans (Nat.pow_le_pow_left hq _) (Nat.pow_le_pow_right hp hjm))
theorem worth_ok {v:Str->Rat} (hv:VOk v):∀ (t:T),Wq t->Ht t≤2 ^ 108->WOk v t∧∀ x,ev v t=some x->Hq x≤Ht t:=by
 have list:∀ s (ts:List T),(∀ t∈ts,Wq t->Ht t≤2 ^ 108->WOk v t∧∀ x,ev v t=some x->Hq x≤Ht t)->(Wqs ts∧ts≠[]∧ts.length≤1000000)->Hts ts≤2 ^ 108 ->
   (ts.length≤1000000∧WOkA v ts∧WOkL v s ts (uR s))∧∀ x,evL v s ts (uR s)=some x->Hq x≤Hts ts:=fun s ts ih h hb =>
  have each:=fun t hm=>ih t hm (wqs_mem h.1 t hm) (Nat.le_trans (Hts_mem (fun t _=>Ht_pos t) t hm) hb)
  have k:=wok_L1 (s:=s) h.2.1 (fun t ht=>(each t ht).2) hb
  ⟨⟨h.2.2,woka_mk fun t ht=>(each t ht).1,k.1⟩,k.2⟩
 refine T.ind (p:=fun t=>Wq t->Ht t≤2 ^ 108->WOk v t∧∀ x,ev v t=some x->Hq x≤Ht t) (fun p q h _=>⟨h,fun x hx=>ratioO_some hx▸Nat.le_refl _⟩) (fun x h _=>⟨h,fun y hy=>Option.some.inj hy▸vok_Hq hv x⟩) (fun b e ih _ h hb=>?_) (list true) (list false)
 obtain ⟨hw,j,rfl,hj⟩:=h
 have e:Ht (.pow b (T.nm (j:Rat)))=Ht b ^ mx (j:Rat):=congrArg (fun r=>Ht b ^ mx r) (T.val_nm (j:Rat))
 rw [e] at hb ⊢
 exact worth_powH hj (ih hw) hb
section
variable {c:Cx}
theorem raw_worth (P:Pg c) {t:T} (h:Raw 3 t) {v:Str->Rat} (hv:VOk v) (a:Addr):WorthFn c 620 v a t :=
 Fn.up (fn_worth P 3 t h.hts (worth_ok hv t h.wq (Nat.le_trans (Raw_Ht h).2 (RB_up (Nat.le_refl _)))).1) (by decide)
theorem fin_worth (P:Pg c) {u:T} (h:Fin u) {v:Str->Rat} (hv:VOk v) (a:Addr):WorthFn c 620 v a u :=
 Fn.up (fn_worth P 10 u (ht_dp 10 u h.dp) (worth_ok hv u (h.nf.wq h.ht h.sy) h.ht).1) (by decide)
end
end
section
theorem adj_of {us:List T} (nf:NFs us) (so:us.Pairwise Le) (nd:us.Nodup) {i:Nat}{a b:T} (ha:us[i]?=some a) (hb:us[i+1]?=some b):O.cmp a.code b.code=.lt:=by
 obtain ⟨h1,rfl⟩:=List.getElem?_eq_some_iff.mp ha
 obtain ⟨h2,rfl⟩:=List.getElem?_eq_some_iff.mp hb
 have le:Le us[i] us[i+1]:=List.pairwise_iff_getElem.mp so i (i+1) h1 h2 (Nat.lt_succ_self i)
 have ne:us[i]≠us[i+1]:=List.pairwise_iff_getElem.mp nd i (i+1) h1 h2 (Nat.lt_succ_self i)
 unfold Le T.le at le
 cases q:O.cmp (us[i]).code (us[i+1]).code with
 | lt=>rfl
 | gt=>replace le:=q▸le;cases le
 | eq=>exact absurd ((nf _ (List.getElem_mem h1)).code_inj (nf _ (List.getElem_mem h2)) ((O.cmp_eq _ _).mp q)) ne
theorem nodup_map {us:List T}{f:T->T} (h:(us.map f).Nodup):us.Nodup:=by
 induction us with
 | nil=>exact List.nodup_nil
 | cons u us ih =>
  rw [List.map_cons,List.nodup_cons] at h
  rw [List.nodup_cons]
  exact ⟨fun hm=>h.1 (List.mem_map.mpr ⟨u,hm,rfl⟩),ih h.2⟩
theorem Nf.sumCases {ts:List T} (h:Nf (.sum ts)):∃ us q,ts=us ++ tailS q∧(∀ u∈us,Nf u)∧(∀ u∈us,u.isNum=false∧u.isSum=false)∧(us.map T.rest).Nodup∧us.Pairwise Le∧2≤ts.length:=by
 generalize e:T.sum ts=t at h
 cases h with
 | @sum us q h1 h2 h3 h4 h5=>injection e with e;exact ⟨us,q,e,h1,h2,h3,h4,e▸h5⟩
 | _=>cases e
theorem sub_Ht {ts us:List T} (h:NFs ts) (s:us.Sublist ts) (hb:Hts ts≤2 ^ 108):Hts us≤2 ^ 108:=by
 refine Nat.le_trans ?_ hb
 clear hb
 induction s with
 | slnil=>exact Nat.le_refl _
 | cons x _ ih =>
  rw [Hts]
  exact Nat.le_trans (ih fun p hp=>h p (.tail _ hp)) (Nat.le_mul_of_pos_left _ (Ht_pos x))
 | cons_cons x _ ih =>
  rw [Hts];rw [Hts]
  exact Nat.mul_le_mul_left _ (ih fun p hp=>h p (.tail _ hp))
section
variable {c:Cx}
theorem form_nm (P:Pg c) {d:Nat}{r:Rat} (h:Hq r≤2 ^ 108):FormFn c (d+3) (T.nm r):=by
 unfold Hq at h
 exact form_num P (sm_small (by generalize (2:Nat) ^ 108=B at *;lia))
theorem form_sum (P:Pg c) {d:Nat} (hd:170≤d) {ts:List T} (h:Nf (.sum ts)) (hb:Ht (.sum ts)≤2 ^ 108) (hk:∀ p∈ts,Dk 8 p) (hf:∀ p∈ts,FormFn c d p):FormFn c (d+3) (.sum ts):=by
 have nf:NFs ts:=fun t ht=>(h.sumParts t ht).1
 have hs:=h.sumParts
 obtain ⟨us,q,e,h1,h2,h3,h4,h5⟩:=h.sumCases
 rw [Ht] at hb
 have hl:=len_le nf hb
 have hus:ts.filter (fun t=>!t.isNum)=us:=by
  refine e.symm▸?_;rw [List.filter_append]
  have e1:us.filter (fun t=>!t.isNum)=us:=List.filter_eq_self.mpr fun u hu=>by refine ((h2 u hu).1).symm▸?_;rfl
  have e2:(tailS q).filter (fun t=>!t.isNum)=[]:=List.filter_eq_nil_iff.mpr fun u hu=>by
   obtain ⟨rfl,_⟩:=tail_one u hu
   show ¬ (!true)=true
   decide
  refine e1.symm▸?_;refine e2.symm▸?_;rw [List.append_nil]
 have sub:us.Sublist ts:=by refine e.symm▸?_;exact List.sublist_append_left _ _
 refine form_list P (n:=20) (by lia) (T.enc_sum ts) (kd:="sum") (kf:=T.rest) ⟨.inl ⟨rfl,rfl⟩,h5,by lia,fun p hp=>kind_sum (hs p hp).2,hf,?_,?_,?_,?_,?_⟩
 ·by_cases hq:q=0
  ·left
   have e2:tailS q=[]:=if_pos hq
   refine e.symm▸?_;refine e2.symm▸?_;rw [List.append_nil]
   exact fun p hp=>(h2 p hp).1
  ·right
   have e2:tailS q=[T.nm q]:=if_neg hq
   exact ⟨q,us,hq,fun e=>absurd e (by decide),fun u hu=>(h2 u hu).1,by refine (if_pos rfl).symm▸?_;refine e.symm▸?_;exact e2.symm▸rfl⟩
 ·refine hus.symm▸?_;exact fun i a b ha hb=>adj_of h1 h4 (nodup_map h3) ha hb
 ·refine hus.symm▸?_
  exact rows_of h1 (sub_Ht nf sub hb) fun t ht=>by have:=(hk t (sub.subset ht)).1;lia
 ·refine hus.symm▸?_;exact h3
 ·refine hus.symm▸?_
  intro u hu
  have hm:=sub.subset hu
  refine ⟨(rest_Dk (hk u hm) (h2 u hu).1).1,(h1 u hu).nok,?_⟩
  rintro vs rfl
  have:=prod_len (h1 _ hu) (Ht_part nf hm hb)
  lia
theorem form_prod (P:Pg c) {d:Nat} (hd:170≤d) {ts:List T} (h:Nf (.prod ts)) (hb:Ht (.prod ts)≤2 ^ 108) (hk:∀ p∈ts,p.base.dp≤8∧p.dp≤10) (hf:∀ p∈ts,FormFn c d p):FormFn c (d+3) (.prod ts):=by
 have nf:NFs ts:=fun t ht=>(h.facs_Pf t ht).nf
 obtain ⟨us,q,h0,R,e,h5⟩:=prod_parts h
 have np:∀ p∈ts,p.isProd=false:=fun p hp=>by
  rcases h.facs_Pf p hp with ⟨r,rfl⟩ | ⟨_,fc⟩
  ·rfl
  ·exact fc.facts.2.1
 rw [Ht] at hb
 have hl:=len_le nf hb
 have hn:∀ u∈us,u.isNum=false:=fun u hu=>(R.fc u hu).facts.1
 have hus:ts.filter (fun t=>!t.isNum)=us:=by
  refine e.symm▸?_;rw [List.filter_append]
  have e1:us.filter (fun t=>!t.isNum)=us:=List.filter_eq_self.mpr fun u hu=>by refine (hn u hu).symm▸?_;rfl
  have e2:(hdP q).filter (fun t=>!t.isNum)=[]:=List.filter_eq_nil_iff.mpr fun u hu=>by
   obtain ⟨rfl,_⟩:=hdP_mem u hu
   show ¬ (!true)=true
   decide
  refine e1.symm▸?_;refine e2.symm▸?_;rw [List.nil_append]
 have sub:us.Sublist ts:=by refine e.symm▸?_;exact List.sublist_append_right _ _
 refine form_list P (n:=20) (by omega) (T.enc_prod ts) (kd:="prod") (kf:=T.base) ⟨.inr ⟨rfl,rfl⟩,by refine e.symm▸?_;exact h5,by omega,fun p hp=>kind_prod (np p hp),hf,?_,?_,?_,?_,?_⟩
 ·by_cases hq:q=1
  ·left
   have e2:hdP q=[]:=if_pos hq
   refine e.symm▸?_;refine e2.symm▸?_;rw [List.nil_append]
   exact hn
  ·right
   have e2:hdP q=[T.nm q]:=if_neg hq
   exact ⟨q,us,h0,fun _=>hq,hn,by rw [if_neg (by decide)];refine e.symm▸?_;refine e2.symm▸?_;rfl⟩
 ·refine hus.symm▸?_;exact fun i a b ha hb=>adj_of R.nf R.so (nodup_map R.nd) ha hb
 ·refine hus.symm▸?_
  exact rows_of R.nf (sub_Ht nf sub hb) fun t ht=>(hk t (sub.subset ht)).2
 ·refine hus.symm▸?_;exact R.nd
 ·refine hus.symm▸?_
  intro u hu
  have hm:=sub.subset hu
  refine ⟨(hk u hm).1,(R.nf u hu).nok,?_⟩
  rintro vs rfl
  have:=np _ hm
  cases this
theorem form_powN (P:Pg c) {d:Nat}{b:T}{j:Rat} (ha:Atom b) (hj:j.den=1) (h0:j≠0) (h1:j≠1) (hb:FormFn c d b):FormFn c (d+3) (.pow b (T.nm j)):=by
 have e:j=((j.num:Int):Rat):=int_of hj
 refine e▸?_
 refine form_pow P hb (fun h=>h0 (by refine e▸?_;refine h▸?_;rfl)) (fun h=>h1 (by refine e▸?_;refine h▸?_;rfl)) ?_
 rcases atom_cases ha with ⟨x,rfl⟩ | ⟨ts,rfl⟩
 ·exact .inl rfl
 ·exact .inr rfl
theorem FormFn.up {d d':Nat}{t:T} (h:FormFn c d t) (hd:d≤d'):FormFn c d' t:=h.mono hd (fun r _ h=>h) _root_.id
theorem NF_form (P:Pg c):∀ (n:Nat) (t:T),t.dp≤n->n≤8->Nf t->Ht t≤2 ^ 108->FormFn c (170+3 * n) t:=by
 intro n
 induction n with
 | zero=>intro t h;have:=dp_pos t;lia
 | succ n ih =>
  intro t hd hn h hb
  refine (show 170+3 * (n+1)=(170+3 * n)+3 from by lia).symm▸?_
  cases t with
  | num p q =>
   obtain ⟨r,e⟩:=h.numEq rfl
   rw [e] at hb ⊢
   rw [Ht_nm] at hb
   exact form_nm P hb
  | sym x=>exact form_sym P
  | pow b e =>
   obtain ⟨j,rfl,ha,hnb,hj,h0,h1⟩:=h.powParts
   rw [dp_pow] at hd
   refine form_powN P ha hj h0 h1 (ih b (by lia) (by lia) hnb ?_)
   rw [Ht,T.val_nm] at hb
   exact Nat.le_trans (pow_ge (Ht_pos b) (mx_pos j)) hb
  | sum ts =>
   have nf:NFs ts:=fun t ht=>(h.sumParts t ht).1
   rw [dp_sum] at hd
   have dp:∀ t∈ts,t.dp≤n - 1:=fun t ht=>by have:=dps_mem t ht;lia
   have hb':=hb
   rw [Ht] at hb'
   exact form_sum P (by lia) h hb (fun p hp=>Dk.all (by have:=dp p hp;have:=dp_pos p;lia)) fun t ht=>ih t (by have:=dp t ht;lia) (by lia) (nf t ht) (Ht_part nf ht hb')
  | prod ts =>
   have nf:NFs ts:=fun t ht=>(h.facs_Pf t ht).nf
   rw [dp_prod] at hd
   have dp:∀ t∈ts,t.dp≤n - 1:=fun t ht=>by have:=dps_mem t ht;lia
   have hb':=hb
   rw [Ht] at hb'
   exact form_prod P (by lia) h hb (fun p hp=>by have:=dp p hp;have:=dp_base p;lia) fun t ht=>ih t (by have:=dp t ht;lia) (by lia) (nf t ht) (Ht_part nf ht hb')
theorem fin_form (P:Pg c) {u:T} (h:Fin u):FormFn c 620 u:=by
 obtain ⟨nf,hb,lv,_⟩:=h
 have easy:u.dp≤8->FormFn c 620 u:=fun h=>(NF_form P 8 u h (Nat.le_refl _) nf hb).up (by lia)
 cases u with
 | num p q=>exact easy (by have:=lv.2;lia)
 | sym x=>exact easy (by have:=lv.2;lia)
 | pow b e=>exact easy (by have:=lv.2;lia)
 | sum ts =>
  have nfs:NFs ts:=fun t ht=>(nf.sumParts t ht).1
  have hb':=hb
  rw [Ht] at hb'
  exact (form_sum P (d:=194) (by lia) nf hb lv fun t ht=>NF_form P 8 t (lv t ht).1 (Nat.le_refl _) (nfs t ht) (Ht_part nfs ht hb')).up (by lia)
 | prod ts =>
  have nfs:NFs ts:=fun t ht=>(nf.facs_Pf t ht).nf
  have hb':=hb
  rw [Ht] at hb'
  exact (form_prod P (d:=194) (by lia) nf hb (fun p hp=>by have:=(lv p hp).1;have:=(lv p hp).2;lia) fun t ht=>NF_form P 8 t (by have:=(lv t ht).2;lia) (Nat.le_refl _) (nfs t ht) (Ht_part nfs ht hb')).up (by lia)
theorem law_ok (P:Pg c) (K:Rc c) {t:T} (h:Raw 3 t):LawOk c 620 t where
 worth v hv a:=raw_worth P h hv a
 turned:=(fn_turned P 3 t h).mono (by lia) (fun r _ h=>h) _root_.id
 simp:=raw_simp P K h
 bad hf v hv:=(Simp_val _ t (Nat.le_refl _) h.wf).2 hf
 good u s :=
  have fu:=h.fin s
  ⟨fun v hv a=>fin_worth P fu hv a,fun v hv x hx=>(Simp_val _ t (Nat.le_refl _) h.wf).1 u s x hx,fin_twice P K fu,raw_back P K h s,fin_form P fu,by refine (T.enc_depth ..)▸?_;have:=fu.dp;lia⟩
end
end
section
theorem pairs_rk {prog:Program}{w:World}:∀ l:List (Str×Int×Tok×Tok),Pairs (strKind prog w) (l.map (rkE w.params)) (l.map fun x=>(x.1,Value.int x.2.1 x.2.2.2))
 | []=>.nil
 | x :: l=>.cons (decide_eq_true rfl) rfl (pairs_rk l)
theorem ents_rk {h:Heap}:∀ l:List (Str×Int×Tok×Tok),TEnts h (l.map fun x=>(x.1,Value.int x.2.1 x.2.2.2)) (l.map fun x=>(x.1,PV.int x.2.1))
 | []=>.nil
 | x :: l=>.cons (.int _ _) (ents_rk l)
theorem im_num {h:Heap}{p q:Int}{t u v:Tok}{a:Addr} (e:h.get? a=some ⟨.type "tuple",none,.seq #[.str "num" t,.int p u,.int q v] 0,#[]⟩):Im h (.ref a) (numP p q) :=
 .tup e rfl rfl (.cons (.str _ _ (by decide +kernel)) (.cons (.int _ _) (.cons (.int _ _) .nil)))
theorem def_of {x:Str×Nat} (h:(defOf vw x.1).map (fun d=>(d.1.name,d.1.params,d.1.body,d.1.scope,d.2))=some (x.1,(dfn x.2).params,(dfn x.2).body,(dfn x.2).scope,[])):∃ pos,defOf vw x.1=some (⟨x.1,(dfn x.2).params,(dfn x.2).body,(dfn x.2).scope,pos⟩,[]):=by
 obtain ⟨⟨⟨n,p,b,s,pos⟩,kw⟩,e,q⟩:=Option.map_eq_some_iff.mp h
 cases q
 exact ⟨pos,e⟩
section
variable {w:World}{s₀:Shared}{mg mb:Str->Option Value}{h:Heap}{K:Frag}{R:WRecords}{XP:(Str->Option Value)->Heap->Prop}
theorem mgs_of (G:Ground vw lose R XP w s₀ mg mb h) (X:K.In h) (g:good K=true) (x:Str) (v:Value) (hx:(x,v)∈gTab):mg x=some v :=
 have e:(nsIn K mainGlobals x == some (some v))=true:=List.all_eq_true.mp (and_of g).1 (x,v) hx
 mg_of X G.T.g (eq_of_beq e)
theorem pg_of (G:Ground vw lose R XP w s₀ mg mb h) (X:K.In h) (g:good K=true) (Y:(kp w.params).In h):Pg ⟨prg,w,h,mg,mb,31⟩ :=
 have mgs:∀ x v,(x,v)∈gTab->mg x=some v:=mgs_of G X g
 {
  defs:=fun x hx=>by
   obtain ⟨pos,e⟩:=def_of (List.map_inj_left.mp (show fnTab.map (fun x=>(defOf vw x.1).map fun d=>(d.1.name,d.1.params,d.1.body,d.1.scope,d.2))=fnTab.map (fun x=>some (x.1,(dfn x.2).params,(dfn x.2).body,(dfn x.2).scope,[])) by kernel_rfl) x hx)
   obtain ⟨a,o,pm,cd,doc,dV,kV,h1,h2,h3,h4,h5⟩:=G.fn e
   have hd:(dfn x.2).params.defaults=[]:=List.isEmpty_iff.mp (List.all_eq_true.mp (show fnTab.all (fun x=>(dfn x.2).params.defaults.isEmpty)=true by kernel_rfl) x hx)
   obtain rfl:dV=.none:=h5.pos.elim (·.2) fun y=>absurd hd y.1
   obtain rfl:kV=.none:=h5.kw.elim (·.2) fun y=>absurd rfl y.1
   exact ⟨a,o,pm,cd,doc,h1,h2,h3,h4⟩
  consts:=List.forall_mem_cons.mpr ⟨⟨_,mgs _ _ (.head _),.int _ _⟩,List.forall_mem_cons.mpr ⟨⟨_,mgs _ _ (.tail _ (.head _)),im_num (Y 105 _ rfl)⟩,List.forall_mem_cons.mpr ⟨⟨_,mgs _ _ (.tail _ (.tail _ (.head _))),im_num (Y 210 _ rfl)⟩, List.forall_mem_cons.mpr ⟨⟨_,mgs _ _ (.tail _ (.tail _ (.tail _ (.head _)))),im_num (Y 211 _ rfl)⟩,List.forall_mem_cons.mpr ⟨⟨_,mgs _ _ (.tail _ (.tail _ (.tail _ (.tail _ (.head _))))),.tup (Y 215 _ rfl) rfl rfl (.cons (.str _ _ (by decide +kernel)) (.cons (.str _ _ (by decide +kernel)) (.cons (.tup (Y 214 _ rfl) rfl rfl (.cons (im_num (Y 211 _ rfl)) .nil)) .nil)))⟩, List.forall_mem_cons.mpr ⟨⟨_,mgs _ _ (.tail _ (.tail _ (.tail _ (.tail _ (.tail _ (.head _)))))),.int _ _⟩,fun x hx=>(List.not_mem_nil hx).elim⟩⟩⟩⟩⟩⟩
  ranks:=⟨127,mgs _ _ (.tail _ (.tail _ (.tail _ (.tail _ (.tail _ (.tail _ (.head _))))))),_,⟨_,_,8,Y 127 _ rfl,⟨rfl,rfl,rfl⟩,rfl,fun e he=>by
    obtain ⟨x,_,rfl⟩:=List.mem_map.mp (List.mem_toArray.mp he)
    exact ⟨x.1,decide_eq_true rfl,rfl⟩,pairs_rk rkT,by decide +kernel⟩,ents_rk rkT⟩ }
theorem cx_of (G:Ground vw lose R XP w s₀ mg mb h) (X:K.In h) (g:good K=true):(⟨prg,w,h,mg,mb,31⟩:Cx).Ok where
 hb:=G.T.builtins
 free x hx:=ns_none_of X G.T.g (eq_of_beq (List.all_eq_true.mp (and_of g).2 x hx))
 g:=G.T.g
 b:=G.T.b
 nolimit:=G.T.nolimit
theorem rc_of (G:Ground vw lose R XP w s₀ mg mb h) (X:K.In h) (g:good K=true) (Y:(kp w.params).In h):Rc ⟨prg,w,h,mg,mb,31⟩ :=
 have ns:h.Ns 30 (h.nsMap 30):=.of_isNs (isNs_of_in Y (by kernel_rfl))
 {
  hC:=Y _ _ rfl
  hN:=ns
  hi:=by
   unfold Heap.nsMap
   rw [Y 30 _ rfl]
   kernel_rfl
  h1:=ns_none_of Y ns (by kernel_rfl)
  h2:=ns_none_of Y ns (by kernel_rfl)
  h3:=ns_none_of Y ns (by kernel_rfl)
  hf:=Y _ _ rfl
  cd:=⟨27,_,_,_,rfl,Y 27 _ rfl,rfl,rfl⟩
  name:=mgs_of G X g _ _ (.tail _ (.tail _ (.tail _ (.tail _ (.tail _ (.tail _ (.tail _ (.head _)))))))) }
end
theorem ints_im {h:Heap}{vs:List Value}{ks:List Int} (x:IntsAre vs ks):Ims h vs (ks.map PV.int):=by
 induction x with
 | nil=>exact .nil
 | cons n t _ ih=>exact .cons (.int n t) ih
theorem list_at {h:Heap}{P:Params}{a:Addr}{ks:List Int}{vs:List Value} (x:Well P h (.ref a) (ofPy (PyData.list (ks.map PyData.int)))) (hL:h.IsList a vs.toArray) (hI:IntsAre vs ks):ListAt h a (ks.map PV.int):=by
 refine ⟨⟨vs.toArray,hL,by simpa using ints_im hI⟩,fun o ho=>?_⟩
 generalize e:ofPy (PyData.list (ks.map PyData.int))=d at x
 cases x with
 | list hg _=>cases sinj ho hg;exact ⟨rfl,rfl⟩
 | _=>cases e
end
noncomputable def lawD : DefRec := ⟨"law", (dfn 71).params, (dfn 71).body, (dfn 71).scope, ((defOf vw "law").map fun x => x.1.pos).getD default⟩
end Mine
set_option tactic.hygienic true
open PySem PySem.W PyProof.Rows
theorem PySem.Challenge.cw_xm0108_01_holds : PySem.Challenge.rw_xm0108_01.Holds := by
  refine holds_law Mine.said fun said => ?_
  refine holds_open (q := Mine.vw) (loose := Mine.lose) (Xt := Mine.xt) (XP := XL Mine.vw []) (Yf := Mine.obs) (Ya := Mine.obsV) (YP := Mine.says) (d := Mine.lawD) (kwd := []) (N := 4442) Mine.left Mine.obs_says Mine.says_keeps (fun s e => xl_of s (Bool.and_eq_true_iff.mp e).1) XL.keeps (by kernel_rfl) (by kernel_rfl) (by kernel_rfl) (fun s e => recFacts_of (Bool.and_eq_true_iff.mp e).2) (by kernel_rfl) (by first | assumption | decide +kernel) (by decide +kernel) ⟨rfl, rfl, rfl, rfl, rfl, by decide +kernel⟩ ?hw ?hc
  case hw => w_witness2
  case hc =>
  intro w s₀ s₁ mg mb G Y fa o pm cd doc dV kV ho hd' hcd hD hmg hg args vals as hpre hlay hrd hwl hlo
  obtain ⟨Y2, KX, hKX, hgood⟩ := Y
  have hmg' : mg "law" = some (.ref fa) := hmg
  clear hmg hd' ho hcd hD
  wrow_args hpre hlay hrd hwl hlo
  rename (List Int) => ks
  rename (IntsAre _ _) => hI
  rename (Well _ _ _ _) => hW
  rename (Heap.IsList _ _ _) => hL
  rename (¬ _ < _) => hlen
  have P := Mine.pg_of G hKX hgood Y2
  have Rk := Mine.rc_of G hKX hgood Y2
  have E : Mine.CallEnv ⟨PySem.Challenge.rw_xm0108_01.row.prog, w, s₁.heap, mg, mb, 31⟩ callerA [] (620 + 2) s₁ := ⟨Mine.cx_of G hKX hgood, rfl, rfl, by decide +kernel, by decide +kernel, fun _ _ e => e, trivial⟩
  refine wpAny_mono (Mine.law_walk (n := 620) (by decide) P Rk (fun t ht => Mine.law_ok P Rk ht) (fun _ _ e => e) hmg' E (Mine.list_at hW hL hI) (by omega)) (fun v s' l => ?_) (fun _ _ x => x.elim)
  obtain ⟨hv, ⟨h', tk, rfl⟩, keep⟩ := l
  cases hv
  exact GoodW.toG ⟨.inl ⟨_, .bool true, [], rfl, fun _ => rfl, .bool true, by first | kernel_rfl | with_unfolding_all rfl | decide +kernel, unshared_nil⟩, keep, rfl, hg⟩
