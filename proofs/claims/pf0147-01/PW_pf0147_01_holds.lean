import PyProof.Rows.All
import Wide.All
import OpenK.AllK
import Wide.FinOn
import Lean
import PySem.Challenge.RW_pf0147_01
set_option Elab.async false
set_option linter.unusedVariables false
set_option linter.unusedSimpArgs false
set_option autoImplicit false
set_option maxRecDepth 20000
set_option compiler.extract_closed false
set_option tactic.hygienic false
namespace Mine
theorem lap{α:Type _}{as bs:List α}:(as++bs).length=as.length+bs.length:=List.length_append
theorem asc{α:Type _}(as bs cs:List α):as++bs++cs=as++(bs++cs):=List.append_assoc as bs cs
theorem lmp{α:Type _}{β:Type _}{as:List α}(f:α→β):(as.map f).length=as.length:=List.length_map f
theorem apn{α:Type _}(as:List α):as++[]=as:=List.append_nil as
theorem lcn{α:Type _}{a:α}{as:List α}:(a::as).length=as.length+1:=List.length_cons
theorem mpa{α:Type _}{β:Type _}{f:α→β}{l₁ l₂:List α}:(l₁++l₂).map f=l₁.map f++l₂.map f:=List.map_append
theorem bTl{n m:Nat}(h:Nat.ble n m=true):n≤m:=Nat.le_of_ble_eq_true h
theorem ltr{n m k:Nat}(h:n≤m)(g:m≤k):n≤k:=Nat.le_trans h g
theorem gqe{α:Type _}{l:List α}{i:Nat}(h:i < l.length):l[i]?=some l[i]:=List.getElem?_eq_getElem h
section
open PySem PySem.W PyProof.Rows
section
set_option maxRecDepth 100000
set_option maxHeartbeats 0
abbrev law0:OpenLaw:=PySem.Challenge.rw_pf0147_01
abbrev prog0:Program:=PySem.Challenge.pw_pf0147_01
theorem said:law0.wellSaid=true:=(congrFun Fast.te9446332074065402090 law0).trans (by kernel_rfl)
noncomputable def T0(P:Params):BT:=(BT.node (boot_o_0 P) (BT.node (boot_o_1 P) (BT.node (boot_o_3 P) (BT.node (boot_o_7 P) BT.nil BT.nil) BT.nil) (BT.node (boot_o_5 P) (BT.node (boot_o_9 P) BT.nil BT.nil) BT.nil)) (BT.node (boot_o_2 P) (BT.node (boot_o_4 P) (BT.node (boot_o_8 P) BT.nil BT.nil) BT.nil) (BT.node (boot_o_6 P) (BT.node (boot_o_10 P) BT.nil BT.nil) BT.nil)))
noncomputable def topRunF(f:SharedT→Thread→Option (SharedT×Thread))(ok:Thread→Bool)(n:Nat):SharedT→Thread→Option SharedT:=
 Nat.rec (fun o0 o0=>none) (fun o0 go s t=>Bool.rec (Bool.rec none ((f s t).bind fun r=>go r.1 r.2) (ok t)) (some s) (through t)) n
theorem topRunF_of{p:Program}{w:World}{m:Nat}{ann:Option Value}(n:Nat):∀{s s':SharedT} {t:Thread},topRunF (stepT (denote treeTable) p w) (stepOk m ann) n s t=some s'→topRun treeTable p w m ann n s.abs t=some s'.abs:=by
 induction n with
 |zero=>intro s s' t e;cases e
 |succ n ih=>
  intro s s' t e
  replace e:Bool.rec (Bool.rec none ((stepT (denote treeTable) p w s t).bind fun r=>topRunF (stepT (denote treeTable) p w) (stepOk m ann) n r.1 r.2) (stepOk m ann t)) (some s) (through t)=some s':=e
  unfold topRun
  cases h1:through t with
  |true=>rw[h1]at e;exact congrArg (Option.map SharedT.abs) e
  |false=>
   rw[h1]at e
   cases h2:stepOk m ann t with
   |false=>rw[h2]at e;cases e
   |true=>
    rw[h2]at e
    obtain⟨r,h3,e⟩:=Option.bind_eq_some_iff.mp e
    rw[stepT_spec h3]
    exact ih e
noncomputable def s0(w:World)(os:OsState):SharedT:=⟨T0 w.params,11,(boot_heap w.params).life,#[],boot_drawn,boot_toks,os⟩
theorem fence_of{p:Program}{s:Shared}(h:importedModules p.main.body=[]):fenceModules? p s=some s:=by
 unfold fenceModules?
 rw[h]
 exact ite_self (some s)
theorem imps:importedModules prog0.main.body=[]:=(congrFun Fast.te5923862056798008813 _).trans (by kernel_rfl)
theorem open0(w:World):(fencedOpening treeTable prog0 w 3500).map (fun s=>(s.heap,s.gens,s.drawn,s.toks))=some (boot_heap w.params,Array.mk [],boot_drawn,boot_toks):=
 boot_open (p:=prog0) (N:=3500) (by kernel_rfl) rfl (fun s=>fence_of imps) w
theorem size0(w:World):((boot_heap w.params).isNs mainGlobals&&(Array.mk []:Array GenState).size==0,(boot_heap w.params).objs.size,(boot_heap w.params).nsMap mainGlobals "__annotations__")=(true,11,some (.ref 6)):=by
 rw[Fast.te8920871248978507458];kernel_rfl
theorem left_of{p q:Program}{loose:List Str}{Xt:Shared→Bool}{α:Type}{Yf:Shared→α}{Ya:World→α}{g0:Bool}{N:Nat}
  (op:∀w:World,(fencedOpening treeTable p w N).map (fun s=>(s.heap,s.gens,s.drawn,s.toks))=some (boot_heap w.params,Array.mk [],boot_drawn,boot_toks)) {mods:List Str} (im:importedModules p.main.body=mods)
  (run:∀(w:World) (os:OsState),(topRunF (stepT (denote treeTable) p w) (stepOk 11 (some (.ref 6))) N (s0 w os) (topStub p)).map (fun s=>(staticsOk mods (boot_heap w.params) s.abs.heap&&namesBound p s.abs.heap&&gensDone s.abs&&laidKept (boot_heap w.params) s.abs.heap,
    openSeen q loose mods Xt g0 s.abs,Yf s.abs))=some (true,openGood q loose,Ya w)):LeftO p q loose Xt Yf Ya N g0:=fun w=>by
 obtain⟨⟨h,gs,d,k,os⟩,e,e'⟩:=Option.map_eq_some_iff.mp (op w)
 obtain⟨rfl,rfl,rfl,rfl⟩:h=_∧gs=_∧d=_∧k=_:=by simpa using e'
 obtain⟨z1,z2,z3⟩:_∧_∧_:=by simpa only[Prod.mk.injEq] using size0 w
 obtain⟨s,r,l⟩:=Option.map_eq_some_iff.mp (run w os)
 obtain⟨l1,l2,l3⟩:_∧_∧_:=by simpa only[Prod.mk.injEq] using l
 have r:topRun treeTable p w 11 (some (.ref 6)) N ⟨boot_heap w.params,#[],boot_drawn,boot_toks,os⟩ (topStub p)=some s.abs:=topRunF_of N r
 have t:topFrom treeTable p w N ⟨boot_heap w.params,#[],boot_drawn,boot_toks,os⟩=some s.abs:=by
  unfold topFrom
  dsimp only
  rw[z1,z2,z3,r,im]
  show(match _ with | true=>_ | false=>_)=_
  rw[l1]
 unfold openEnds
 rw[e]
 show(topFrom treeTable p w N _).map _=_
 rw[t,im]
 exact congrArg some (Prod.ext l2 l3)
end
section
set_option maxRecDepth 100000
set_option maxHeartbeats 0
noncomputable def q0:Program:=view prog0 [50]
noncomputable def loose0:List Str:=prog0.boundNames.filter fun n=>!(n==("law" :Str))
noncomputable def mkW(p:Params):World:=⟨fun o0 o0=>0,p⟩
noncomputable def fin0(p:Params):SharedT:=Option.rec (s0 (mkW p) default) (fun s=>s) (topRunF (Fast.tw10156331382660048174 (Fast.tw11892475500146522536 Fast.tw14364793385576792824) prog0 (mkW p)) (Fast.tw6613529449190102663 11 (some (.ref 6))) 3500 (s0 (mkW p) default) (topStub prog0))
noncomputable def as0:List Nat:=[2,3,15,17,18,20,21,22,25,30,31,32,34,35,37,38,39,41,42,44,45,46,47,48,49,52,59,60,61,64,72,74,75,77,78,79,82,83,84,87,88,89,90,91,92,93,103,105,106,108,109,110,113,114,115,117,118,120,121,122,124,125,127,128,129,130,131,132,133,143,145,146,148,149,150,152,153,155,156,157,159,160,162,163,164,166,167,169,170,171,172,173,174,175,185,187,188,190,191,192,194,195,197,198,199,200,201,202,203,206,208,209,211,212,213,215,216,218,219,220,222,223,225,226,227,229,230,232,233,234,236,237,239,240,248,250,251,253,254,255,257,258,260,261,262,264,265,267,268,269,271,272,274,275,276,278,279,281,282,283,285,286,288,289,290,292,293,295,296,297,299,300,302,303,304,306,307,309,310,311,313,314,316,317,318,319,320,321,322,325,327,328,330,331,332,334,335,337,338,339,341,342,344,345,346,348,349,351,352,353,356,357,358,360,361,363,364,365,368,369,370,373,374,375,378,379,380,383,384,385,387,388,390,391,392,394,395,397,398,399,402,403,404,406,407,409,410,411,413,414,416,417,418,420,421,423,424,425,426,428,429,431,432,433,435,436,438,439,440,442,443,445,446,447,450,451,452,455,456,457,459,460,462,463,464,466,467,469,470,471,473,474,476,477,478,481,482]
noncomputable def K0(p:Params):Frag:=as0.map fun a=>(a,((fin0 p).tree.get a).getD default)
noncomputable def Yf0(s:Shared):List (Option Obj)×Nat×Bool:=(as0.map s.heap.get?,s.heap.objs.size,(List.range 483).all fun a=>(s.heap.get? a).isSome)
noncomputable def Ya0(w:World):List (Option Obj)×Nat×Bool:=((K0 w.params).map fun p=>some p.2,483,true)
noncomputable def liveT(s:SharedT)(a:Nat):Option Obj:=(s.tree.get a).bind alive
noncomputable def Yt0(s:SharedT):List (Option Obj)×Nat×Bool:=(as0.map (liveT s),s.n,(List.range 483).all fun a=>(liveT s a).isSome)
theorem live_of{s:SharedT}{a:Nat}(ha:a < s.n)(h:(liveT s a).isSome=true):s.abs.heap.get? a=liveT s a:=by
 unfold liveT at h ⊢
 cases g:s.tree.get a with
 |none=>rw[g]at h;cases h
 |some o=>exact abs_get ha g
theorem all_map_eq{l:List Nat}{f g:Nat→Option Obj}(h:∀a∈l,f a=g a):l.map f=l.map g:=List.map_congr_left h
theorem Yt_of{s:SharedT}{l:List (Option Obj)}(h:Yt0 s=(l,483,true)):Yf0 s.abs=Yt0 s:=by
 have h1:=Prod.mk.inj h
 have h2:=Prod.mk.inj h1.2
 have hn:s.n=483:=h2.1
 have ha:=List.all_eq_true.mp h2.2
 have hl:∀a,a < 483→s.abs.heap.get? a=liveT s a:=fun a h=>live_of (hn▸h) (ha a (List.mem_range.mpr h))
 have hs:s.abs.heap.objs.size=s.n:=absHeap_size ..
 have h0:∀a∈as0,a < 483:=fun a h=>of_decide_eq_true (List.all_eq_true.mp (show as0.all (fun a=>decide (a < 483))=true by decide+kernel) a h)
 unfold Yf0 Yt0
 rw[hs,all_map_eq fun a h=>hl a (h0 a h)]
 exact congrArg (fun b=>(_,_,b)) (Bool.eq_iff_iff.mpr ⟨fun h=>List.all_eq_true.mpr fun a m=>hl a (List.mem_range.mp m)▸List.all_eq_true.mp h a m,fun h=>List.all_eq_true.mpr fun a m=>(hl a (List.mem_range.mp m)).symm▸List.all_eq_true.mp h a m⟩)
theorem runA(w:World)(os:OsState):(topRunF (stepT (denote treeTable) prog0 w) (stepOk 11 (some (.ref 6))) 3500 (s0 w os) (topStub prog0)).map (fun s=>staticsOk [] (boot_heap w.params) s.abs.heap&&namesBound prog0 s.abs.heap&&gensDone s.abs&&laidKept (boot_heap w.params) s.abs.heap)=some true:=by
 unfold staticsOk namesBound laidKept
 rw[Fast.te10156331382660048174,Fast.te14364793385576792824,Fast.te11892475500146522536,Fast.te6613529449190102663,Fast.te8920871248978507458]
 kernel_rfl
theorem runB(w:World)(os:OsState):(topRunF (stepT (denote treeTable) prog0 w) (stepOk 11 (some (.ref 6))) 3500 (s0 w os) (topStub prog0)).map (fun s=>openSeen q0 loose0 [] (fun o0=>true) true s.abs)=some (openGood q0 loose0):=by
 rw[Fast.te10156331382660048174,Fast.te14364793385576792824,Fast.te11892475500146522536,Fast.te6613529449190102663,Fast.te4187177175401517315]
 kernel_rfl
theorem runC(w:World)(os:OsState):(topRunF (stepT (denote treeTable) prog0 w) (stepOk 11 (some (.ref 6))) 3500 (s0 w os) (topStub prog0)).map Yt0=some (Ya0 w):=by
 rw[Fast.te10156331382660048174,Fast.te14364793385576792824,Fast.te11892475500146522536,Fast.te6613529449190102663]
 kernel_rfl
theorem run0(w:World)(os:OsState):(topRunF (stepT (denote treeTable) prog0 w) (stepOk 11 (some (.ref 6))) 3500 (s0 w os) (topStub prog0)).map (fun s=>(staticsOk [] (boot_heap w.params) s.abs.heap&&namesBound prog0 s.abs.heap&&gensDone s.abs&&laidKept (boot_heap w.params) s.abs.heap,
  openSeen q0 loose0 [] (fun o0=>true) true s.abs,Yf0 s.abs))=some (true,openGood q0 loose0,Ya0 w):=by
 have a:=runA w os
 have b:=runB w os
 have c:=runC w os
 revert a b c
 cases (topRunF (stepT (denote treeTable) prog0 w) (stepOk 11 (some (.ref 6))) 3500 (s0 w os) (topStub prog0))with
 |none=>exact fun a=>nomatch a
 |some s=>
  intro a b c
  exact congrArg some (Prod.ext (Option.some.inj a) (Prod.ext (Option.some.inj b) ((Yt_of (Option.some.inj c)).trans (Option.some.inj c))))
theorem left0:LeftO prog0 q0 loose0 (fun o0=>true) Yf0 Ya0 3500:=left_of open0 imps run0
end
end
section
noncomputable section
inductive V where
 |none | bool (b:Bool) | int (i:Int) | str (l:List Nat) | tup (l:List V) | list (l:List V) | inst (c:Nat) (l:List V) | exc (a:V)
 deriving Inhabited
inductive W where
 |v (x:V) | l (i:Nat) | o (c i:Nat)
 deriving Inhabited
inductive AO where
 |list (l:List V) | obj (c:Nat) (fs:List (Option W)) | dead
 deriving Inhabited
structure St where
 loc:List (Option W)
 mem:List AO
 deriving Inhabited
abbrev R(α:Type):=Option (Except V α×St)
abbrev M(α:Type):=St→R α
noncomputable def bR{α β:Type}(r:R α)(f:α→St→R β):R β:=
 match r with
 |none=>none
 |some (.error x,st)=>some (.error x,st)
 |some (.ok a,st)=>f a st
noncomputable def retO{α:Type}(o:Option α)(st:St):R α:=match o with | none=>none | some a=>some (.ok a,st)
abbrev CallT:=Nat→List W→List AO→Option (Except V W×List AO)
inductive Op where | add | sub | mul | fdiv | mod | pow
 deriving DecidableEq
inductive Cmp where | eq | ne | lt | le | gt | ge | in_ | notin | is_
 deriving DecidableEq
set_option genSizeOf false
set_option genInjectivity false
mutual
inductive X where
 |none | bool (b:Bool) | int (i:Int) | str (l:List Nat)
 |loc (i:Nat)
 |glob (k:Nat)
 |and (l:List X) | or (l:List X) | not (a:X)
 |ite (c a b:X)
 |bin (o:Op) (a b:X) | neg (a:X)
 |cmp (o:Cmp) (a b:X) | chain (a:X) (o:Cmp) (b:X) (o':Cmp) (c:X)
 |call (f:Nat) (args:List X)
 |new (c:Nat) (args:List X)
 |newExc (a b:X)
 |meth (m:Nat) (o:X) (args:List X)
 |append (o x:X) | join (o x:X) | index (o:X) (args:List X)
 |attr (o:X) (f:Nat)
 |sub (o i:X)
 |sliceTo (o hi:X) | sliceFrom (o lo:X) | slice (o lo hi:X)
 |tup (l:List X) | list (mu:Bool) (l:List X)
 |len (a:X) | toInt (a:X) | toStr (a:X) | abs (a:X) | sum (a:X) | tuple (a:X) | isInt (a:X)
 |comp (slots:List (Option Nat)) (pat:List Nat) (one:Bool) (it:It) (cond elt:X)
 |flat (it:It)
inductive It where
 |x (e:X) | rng (l:List X) | enum (e:X)
end
inductive S where
 |expr (e:X) | assign (i:Nat) (e:X) | unpack (is:List Nat) (e:X) | assign2 (i j:Nat) (a b:X)
 |setattr (o:X) (f:Nat) (e:X) | setitem (o i e:X)
 |ite (c:X) (a b:List S) | while_ (c:X) (b:List S) | for_ (pat:List Nat) (one:Bool) (it:It) (b:List S)
 |ret (e:X) | raise (e:X) | tryAt (body:List S) (fslot slot:Nat)
inductive Flow where | next | ret(w:W)
noncomputable def vI:V→Option Int:=fun v=>V.casesOn v .none (fun o0=>.none) .some (fun o0=>.none) (fun o0=>.none) (fun o0=>.none) (fun o0 o0=>.none) (fun o0=>.none)
noncomputable def vS:V→Option (List Nat):=fun v=>V.casesOn v .none (fun o0=>.none) (fun o0=>.none) .some (fun o0=>.none) (fun o0=>.none) (fun o0 o0=>.none) (fun o0=>.none)
noncomputable def vT:V→Option (List V):=fun v=>V.casesOn v .none (fun o0=>.none) (fun o0=>.none) (fun o0=>.none) .some (fun o0=>.none) (fun o0 o0=>.none) (fun o0=>.none)
noncomputable def vL:V→Option (List V):=fun v=>V.casesOn v .none (fun o0=>.none) (fun o0=>.none) (fun o0=>.none) (fun o0=>.none) .some (fun o0 o0=>.none) (fun o0=>.none)
noncomputable def plain1(f:List V→Bool):V→Bool:=fun v=>V.casesOn v true (fun o0=>false) (fun o0=>true) (fun o0=>true) f f (fun o0 o0=>false) (fun o0=>false)
noncomputable def plain(d:Nat):V→Bool:=Nat.rec (plain1 fun o0=>false) (fun o0 p=>plain1 fun l=>l.all p) d
noncomputable def lnil(x y:V):Bool:=Option.elim (vL x) false fun o0=>Option.elim (vL y) false fun l=>l.isEmpty
noncomputable def dep:Nat:=20
noncomputable def top:Nat:=2 ^ 20
noncomputable def isNone:V→Bool:=fun v=>V.casesOn v true (fun o0=>false) (fun o0=>false) (fun o0=>false) (fun o0=>false) (fun o0=>false) (fun o0 o0=>false) (fun o0=>false)
open Classical in
noncomputable def eqS(x y:V):Bool:=V.casesOn x (isNone y) (fun o0=>decide (x=y)) (fun a=>Option.elim (vI y) false fun b=>decide (a=b)) (fun a=>Option.elim (vS y) false fun b=>decide (a=b)) (fun a=>Option.elim (vT y) false fun b=>decide (a=b)) (fun a=>Option.elim (vL y) false fun b=>decide (a=b)) (fun o0 o0=>decide (x=y)) (fun o0=>decide (x=y))
noncomputable def eqV(d:Nat)(x y:V):Option Bool:=bif lnil x y || (plain d x&&plain d y)then some (eqS x y)else none
noncomputable def anyEq(x:V)(l:List V):Option Bool:=bif plain dep x&&l.all (plain dep)then some (l.any fun y=>eqS y x)else none
noncomputable def findEq(x:V)(l:List V):Option (Option Nat):=bif plain dep x&&l.all (plain dep)then some (l.findIdx? fun y=>eqS y x)else none
noncomputable def isPre(x:List Nat):List Nat→Bool:=List.rec (fun o0=>true) (fun a o0 r y=>List.casesOn y false fun b y=>decide (a=b)&&r y) x
noncomputable def iSb(x y:List Nat):Bool:=List.rec (isPre x []) (fun b y r=>isPre x (b::y) || r) y
noncomputable def aoL(o:Option AO):Option (List V):=o.bind fun a=>AO.casesOn a .some (fun o0 o0=>.none) .none
noncomputable def aoO(o:Option AO):Option (Nat×List (Option W)):=o.bind fun a=>AO.casesOn a (fun o0=>.none) (fun c fs=>.some (c,fs)) .none
noncomputable def deref(mem:List AO)(w:W):Option V:=W.casesOn w .some (fun i=>(aoL mem[i]?).map .list) fun o0 o0=>.none
noncomputable def int2(a b:V)(f:Int→Int→Option V):Option V:=(vI a).bind fun x=>(vI b).bind fun y=>f x y
noncomputable def cmpI(a b:V)(f:Int→Int→Bool):Option Bool:=(vI a).bind fun x=>(vI b).map fun y=>f x y
noncomputable def inV(a b:V):Option Bool:=V.casesOn b .none (fun o0=>.none) (fun o0=>.none) (fun y=>(vS a).map fun x=>iSb x y) (anyEq a) (anyEq a) (fun o0 o0=>.none) (fun o0=>.none)
noncomputable def isV(a b:V):Option Bool:=bif isNone b then(bif isNone a then some true else(vI a).map fun o0=>false)else none
noncomputable def cmpV(o:Cmp)(a b:V):Option Bool:=Cmp.casesOn o (eqV dep a b) ((eqV dep a b).map (!·)) (cmpI a b fun x y=>decide (x < y)) (cmpI a b fun x y=>decide (x≤y)) (cmpI a b fun x y=>decide (x > y)) (cmpI a b fun x y=>decide (x≥y))
 (inV a b) ((inV a b).map (!·)) (isV a b)
noncomputable def cmpW(o:Cmp)(mem:List AO)(a b:W):Option Bool:=(deref mem a).bind fun x=>(deref mem b).bind fun y=>cmpV o x y
noncomputable def capL(x y:List V)(f:List V→V):Option V:=if x.length+y.length≤top then some (f (x++y))else none
noncomputable def addV(a b:V):Option V:=V.casesOn a .none (fun o0=>.none) (fun x=>(vI b).map fun y=>.int (x+y)) (fun x=>(vS b).bind fun y=>if x.length+y.length≤top then some (.str (x++y))else none)
 (fun x=>(vT b).bind fun y=>capL x y .tup) (fun x=>(vL b).bind fun y=>capL x y .list) (fun o0 o0=>.none) (fun o0=>.none)
noncomputable def mulV(a b:V):Option V:=V.casesOn a .none (fun o0=>.none) (fun x=>(vI b).bind fun y=>if x.natAbs≤2 ^ 60 then some (.int (x*y))else none) (fun o0=>.none) (fun o0=>.none)
 (fun x=>(vI b).bind fun n=>if x.length≤8∧0≤n∧n≤8 then some (.list (List.replicate n.toNat x).flatten)else none) (fun o0 o0=>.none) (fun o0=>.none)
noncomputable def binV(o:Op)(a b:V):Option V:=Op.casesOn o (addV a b) (int2 a b fun x y=>some (.int (x - y))) (mulV a b)
 (int2 a b fun x y=>if y=0∨2 ^ 8000≤y.natAbs then none else some (.int (x.fdiv y))) (int2 a b fun x y=>if y=0 then none else some (.int (x.fmod y)))
 (int2 a b fun x y=>if x=30∧0≤y∧y≤1500 then some (.int (30 ^ y.toNat))else none)
noncomputable def truthyW(w:W):Option Bool:=W.casesOn w (fun x=>V.casesOn x .none .some (fun o0=>.none) (fun o0=>.none) (fun o0=>.none) (fun o0=>.none) (fun o0 o0=>.none) (fun o0=>.none)) (fun o0=>.none) fun o0 o0=>.none
noncomputable def idx(i:Int)(n:Nat):Option Nat:=if 0≤i then(if i < n then some i.toNat else none)else(if 0≤i+n then some (i+n).toNat else none)
noncomputable def atL(i:V)(l:List V):Option V:=(vI i).bind fun i=>(idx i l.length).bind fun k=>l[k]?
noncomputable def subV(o i:V):Option V:=V.casesOn o .none (fun o0=>.none) (fun o0=>.none) (fun l=>(vI i).bind fun i=>(idx i l.length).bind fun k=>l[k]?.map fun c=>.str [c]) (atL i) (atL i) (fun o0 o0=>.none) (fun o0=>.none)
noncomputable def cut{α:Type}(l:List α)(lo hi:Nat):List α:=(l.drop lo).take (hi - lo)
noncomputable def sliceF(o:V)(a:Int):Option V:=(vL o).bind fun l=>if 0≤a then some (.list (l.drop a.toNat))else none
noncomputable def sliceT(o:V)(b:Int):Option V:=Option.elim (vL o) ((vT o).bind fun l=>if 0≤b∧b < l.length then some (.tup (l.take b.toNat))else none) fun l=>if 0≤b then some (.list (l.take b.toNat))else none
noncomputable def sliceB(o:V)(a b:Int):Option V:=Option.elim (vL o) ((vS o).bind fun l=>if 0≤a∧a≤b∧b≤l.length then some (.str (cut l a.toNat b.toNat))else none) fun l=>if 0≤a∧0≤b then some (.list (cut l a.toNat b.toNat))else none
noncomputable def sliceV(o:V)(lo hi:Option V):Option V:=Option.casesOn lo (Option.casesOn hi .none fun b=>(vI b).bind (sliceT o)) fun a=>Option.casesOn hi ((vI a).bind (sliceF o)) fun b=>(vI a).bind fun a=>(vI b).bind (sliceB o a)
noncomputable def isDigit(c:Nat):Bool:=decide (48≤c)&&decide (c≤57)
noncomputable def natOf(l:List Nat):Nat:=l.foldl (fun a c=>10*a+(c - 48)) 0
noncomputable def intOf(l:List Nat):Option Int:=
 if l.length≤6 then
  match l with
  |[]=>none
  |c::r=>if c=45 then(if r.isEmpty || !r.all isDigit then none else some (-(natOf r:Int)))else if(c::r).all isDigit then some (natOf (c::r):Int)else none
 else none
noncomputable def natTo(n:Nat):List Nat:=(Nat.toDigits 10 n).map Char.toNat
noncomputable def intTo(i:Int):List Nat:=if i < 0 then 45::natTo i.natAbs else natTo i.natAbs
noncomputable def lenV(v:V):Option V:=V.casesOn v .none (fun o0=>.none) (fun o0=>.none) (fun l=>some (.int l.length)) (fun l=>some (.int l.length)) (fun l=>some (.int l.length)) (fun o0 o0=>.none) (fun o0=>.none)
noncomputable def toIntV(v:V):Option V:=V.casesOn v .none (fun b=>some (.int (if b then 1 else 0))) (fun i=>some (.int i)) (fun l=>(intOf l).map .int) (fun o0=>.none) (fun o0=>.none) (fun o0 o0=>.none) (fun o0=>.none)
noncomputable def toStrV(v:V):Option V:=(vI v).bind fun i=>if i.natAbs < 10 ^ 6 then some (.str (intTo i))else none
noncomputable def intsOf(l:List V):Option (List Int):=List.rec (some []) (fun x o0 r=>(vI x).bind fun i=>r.map (i:: ·)) l
noncomputable def sumV(l:List V):Option Int:=(intsOf l).map fun l=>l.foldr (· + ·) 0
noncomputable def isIntV(v:V):Option Bool:=V.casesOn v .none (fun o0=>.none) (fun o0=>some true) (fun o0=>.none) (fun o0=>some false) (fun o0=>.none) (fun o0 o0=>.none) (fun o0=>.none)
noncomputable def strsOf(l:List V):Option (List (List Nat)):=List.rec (some []) (fun x o0 r=>(vS x).bind fun i=>r.map (i:: ·)) l
noncomputable def listsOf(l:List V):Option (List (List V)):=List.rec (some []) (fun x o0 r=>(vL x).bind fun i=>r.map (i:: ·)) l
noncomputable def joinS(s:List Nat)(l:List (List Nat)):List Nat:=List.casesOn l [] fun x r=>x++r.flatMap (s++ ·)
noncomputable def joinV(s:List Nat)(l:List V):Option (List Nat):=(strsOf l).map (joinS s)
noncomputable def fieldV(n:Nat)(mem:List AO)(w:W):Option V:=W.casesOn w .some (fun j=>if n≤j then(aoL mem[j]?).map .list else none) fun o0 o0=>.none
noncomputable def fieldsV(n:Nat)(mem:List AO)(l:List (Option W)):Option (List V):=List.rec (some []) (fun w o0 r=>w.bind fun w=>(fieldV n mem w).bind fun x=>r.map (x:: ·)) l
noncomputable def handBack(n:Nat)(mem:List AO)(w:W):Option W:=W.casesOn w (fun x=>some (.v x)) (fun i=>if n≤i then(aoL mem[i]?).map fun l=>.v (.list l)else none)
 fun c i=>if n≤i then(aoO mem[i]?).bind fun p=>if p.1=c then(fieldsV n mem p.2).map fun xs=>.v (.inst c xs)else none else none
structure ClsDef where
 fields:List Nat
 init:Nat
 meths:List (Nat×Nat)
structure FnDef where
 np:Nat
 nl:Nat
 body:List S
structure Prog where
 globs:List V
 cls:List ClsDef
 fns:List FnDef
noncomputable def clsOf(w:W):Option Nat:=W.casesOn w (fun x=>V.casesOn x .none (fun o0=>.none) (fun o0=>.none) (fun o0=>.none) (fun o0=>.none) (fun o0=>.none) (fun c o0=>some c) (fun o0=>.none)) (fun o0=>.none) fun c o0=>some c
noncomputable def okField(i:Nat)(w:W):Bool:=W.casesOn w (fun o0=>true) (fun j=>decide (j < i)) fun o0 o0=>false
noncomputable def range(a b:Int):List V:=(List.range (b - a).toNat).map fun(k:Nat)=>V.int (a+(k:Int))
noncomputable def enumFrom(n:Nat)(l:List V):List V:=List.rec (fun o0=>[]) (fun x o0 r n=>.tup [.int n,x]::r (n+1)) l n
@[reducible] noncomputable def setLoc(i:Nat)(x:V)(st:St):St:=⟨st.loc.set i (some (.v x)),st.mem⟩
noncomputable def bindL2(pat:List Nat)(l:List V)(st:St):St:=List.rec (fun o0 st=>st) (fun i o0 r l st=>List.casesOn l st fun x xs=>r xs (setLoc i x st)) pat l st
noncomputable def bindPat(pat:List Nat)(one:Bool)(x:V)(st:St):R Unit:=Bool.casesOn one
 (Option.casesOn (vT x) .none fun l=>if l.length=pat.length then some (.ok (),bindL2 pat l st)else none)
 (List.casesOn pat .none fun i r=>List.casesOn r (some (.ok (),setLoc i x st)) fun o0 o0=>.none)
noncomputable def openIt(w:W)(st:St):R (List V):=W.casesOn w (fun x=>(vL x).map fun l=>(.ok l,st)) (fun i=>(aoL st.mem[i]?).map fun l=>(.ok l,⟨st.loc,st.mem.set i .dead⟩)) fun o0 o0=>.none
noncomputable def shutIt(w:W)(l:List V)(st:St):R Unit:=W.casesOn w (fun o0=>some (.ok (),st)) (fun i=>some (.ok (),⟨st.loc,st.mem.set i (.list l)⟩)) fun o0 o0=>some (.ok (),st)
noncomputable def subLoc(slots:List (Option Nat))(loc:List (Option W)):List (Option W):=slots.map fun o=>o.bind fun i=>(loc[i]?).join
noncomputable def appendM(o:W)(x:V)(st:St):R W:=W.casesOn o (fun o0=>.none) (fun i=>(aoL st.mem[i]?).bind fun l=>if l.length < top then some (.ok (.v .none),⟨st.loc,st.mem.set i (.list (l++[x]))⟩)else none) fun o0 o0=>.none
noncomputable def setitemM(o i:W)(x:V)(st:St):R Unit:=W.casesOn o (fun o0=>.none) (fun a=>W.casesOn i (fun k=>(vI k).bind fun k=>(aoL st.mem[a]?).bind fun l=>if 0≤k∧k < l.length then some (.ok (),⟨st.loc,st.mem.set a (.list (l.set k.toNat x))⟩)else none)
 (fun o0=>.none) (fun o0 o0=>.none)) fun o0 o0=>.none
end
end
section
noncomputable def g_WORDS:V:=.tup [.str [108,111,111,107,117,112],.str [102,108,97,103],.str [115,117,98],.str [98,121],.str [102,114,111,109],.str [78,85,76,76],.str [112,111,115],.str [102,101,97,116,117,114,101],.str [115,99,114,105,112,116],.str [108,97,110,103,117,97,103,101]]
noncomputable def g_LETTERS:V:=.str [97,98,99,100,101,102,103,104,105,106,107,108,109,110,111,112,113,114,115,116,117,118,119,120,121,122,65,66,67,68,69,70,71,72,73,74,75,76,77,78,79,80,81,82,83,84,85,86,87,88,89,90,95,46]
noncomputable def g_FIGURES:V:=.str [48,49,50,51,52,53,54,55,56,57]
noncomputable def g_SIGNS:V:=.str [123,125,91,93,59,39,60,62]
noncomputable def g_BLANKS:V:=.str [32,9,13,10]
noncomputable def g_LINE_ENDS:V:=.str [13,10]
noncomputable def g_MOST_SIGNS:V:=.int 6
noncomputable def g_MOST_FLAG:V:=.int 65535
noncomputable def g_MOST_VALUE:V:=.int 32767
noncomputable def gLG:V:=.list [.str [97],.str [98],.str [99],.str [102,95,105],.str [120,46,97,108,116],.str [78,49]]
noncomputable def globs:List V:=[g_WORDS,g_LETTERS,g_FIGURES,g_SIGNS,g_BLANKS,g_LINE_ENDS,g_MOST_SIGNS,g_MOST_FLAG,g_MOST_VALUE,gLG]
noncomputable def f_RuleTree_init:FnDef:={np:=3,nl:=3,body:=[
 .setattr (.loc 0) 1 (.loc 1),
 .setattr (.loc 0) 2 (.loc 2)]}
noncomputable def f_RuleTree_told:FnDef:={np:=1,nl:=1,body:=[
 .ret (.tup [(.tuple (.comp [none,none] [1] true (.x (.attr (.loc 0) 1)) (.bool true) (.meth 0 (.loc 1) []))),(.tuple (.comp [none,none] [1] true (.x (.attr (.loc 0) 2)) (.bool true) (.meth 0 (.loc 1) [])))])]}
noncomputable def fRl:FnDef:={np:=2,nl:=3,body:=[
 .assign 2 (.comp [none,none] [1] true (.x (.attr (.loc 0) 1)) (.bool true) (.attr (.loc 1) 3)),
 .ret (.ite (.cmp .in_ (.loc 1) (.loc 2)) (.index (.loc 2) [(.loc 1)]) (.neg (.int 1)))]}
noncomputable def f_LookupBlock_init:FnDef:={np:=4,nl:=4,body:=[
 .setattr (.loc 0) 3 (.loc 1),
 .setattr (.loc 0) 4 (.loc 2),
 .setattr (.loc 0) 5 (.loc 3)]}
noncomputable def f_LookupBlock_told:FnDef:={np:=1,nl:=1,body:=[
 .ret (.tup [(.attr (.loc 0) 3),(.attr (.loc 0) 4),(.tuple (.comp [none,none] [1] true (.x (.attr (.loc 0) 5)) (.bool true) (.meth 0 (.loc 1) [])))])]}
noncomputable def f_LookupBlock_kind:FnDef:={np:=1,nl:=1,body:=[
 .ret (.attr (.sub (.attr (.loc 0) 5) (.int 0)) 6)]}
noncomputable def f_RuleRow_init:FnDef:={np:=3,nl:=3,body:=[
 .setattr (.loc 0) 6 (.loc 1),
 .setattr (.loc 0) 7 (.loc 2)]}
noncomputable def f_RuleRow_told:FnDef:={np:=1,nl:=1,body:=[
 .ret (.tup [(.attr (.loc 0) 6),(.attr (.loc 0) 7)])]}
noncomputable def f_RuleRow_word:FnDef:={np:=1,nl:=1,body:=[
 .ite (.cmp .eq (.attr (.loc 0) 6) (.str [99,104,97,105,110])) [.ret (.sub (.attr (.loc 0) 7) (.int 0))] [],
 .ret (.ite (.cmp .in_ (.attr (.loc 0) 6) (.tup [(.str [97,100,106,117,115,116]),(.str [112,97,105,114])])) (.str [112,111,115]) (.str [115,117,98]))]}
noncomputable def f_RuleRow_left:FnDef:={np:=1,nl:=1,body:=[
 .ite (.cmp .eq (.attr (.loc 0) 6) (.str [99,104,97,105,110])) [.ret .none] [],
 .ret (.ite (.cmp .eq (.attr (.loc 0) 6) (.str [112,97,105,114])) (.sliceTo (.attr (.loc 0) 7) (.int 2)) (.sliceTo (.attr (.loc 0) 7) (.int 1)))]}
noncomputable def f_FeatureRow_init:FnDef:={np:=5,nl:=5,body:=[
 .setattr (.loc 0) 8 (.loc 1),
 .setattr (.loc 0) 9 (.loc 2),
 .setattr (.loc 0) 10 (.loc 3),
 .setattr (.loc 0) 1 (.loc 4)]}
noncomputable def f_FeatureRow_told:FnDef:={np:=1,nl:=1,body:=[
 .ret (.tup [(.attr (.loc 0) 8),(.attr (.loc 0) 9),(.attr (.loc 0) 10),(.attr (.loc 0) 1)])]}
noncomputable def f_run_end:FnDef:={np:=3,nl:=4,body:=[
 .assign 3 (.loc 1),
 .while_ (.and [(.cmp .lt (.loc 3) (.len (.loc 0))),(.cmp .in_ (.sub (.loc 0) (.loc 3)) (.loc 2))]) [.assign 3 (.bin .add (.loc 3) (.int 1))],
 .ret (.loc 3)]}
noncomputable def f_skipped:FnDef:={np:=2,nl:=3,body:=[
 .assign 2 (.loc 1),
 .while_ (.and [(.cmp .lt (.loc 2) (.len (.loc 0))),(.or [(.cmp .in_ (.sub (.loc 0) (.loc 2)) (.glob 4)),(.cmp .eq (.sub (.loc 0) (.loc 2)) (.str [35]))])]) [.ite (.cmp .eq (.sub (.loc 0) (.loc 2)) (.str [35])) [.while_ (.and [(.cmp .lt (.loc 2) (.len (.loc 0))),(.cmp .notin (.sub (.loc 0) (.loc 2)) (.glob 5))]) [.assign 2 (.bin .add (.loc 2) (.int 1))]] [.assign 2 (.bin .add (.loc 2) (.int 1))]],
 .ret (.loc 2)]}
noncomputable def f_word_end:FnDef:={np:=2,nl:=3,body:=[
 .assign 2 (.sub (.loc 0) (.loc 1)),
 .ite (.cmp .in_ (.loc 2) (.glob 1)) [.ret (.call 12 [(.loc 0),(.loc 1),(.bin .add (.glob 1) (.glob 2))])] [],
 .ite (.cmp .in_ (.loc 2) (.glob 2)) [.ret (.call 12 [(.loc 0),(.loc 1),(.glob 2)])] [],
 .ite (.and [(.cmp .eq (.loc 2) (.str [45])),(.cmp .gt (.call 12 [(.loc 0),(.bin .add (.loc 1) (.int 1)),(.glob 2)]) (.bin .add (.loc 1) (.int 1)))]) [.ret (.call 12 [(.loc 0),(.bin .add (.loc 1) (.int 1)),(.glob 2)])] [],
 .ite (.cmp .in_ (.loc 2) (.glob 3)) [.ret (.bin .add (.loc 1) (.int 1))] [],
 .raise (.newExc (.str [97,32,115,105,103,110,32,116,104,97,116,32,109,101,97,110,115,32,110,111,116,104,105,110,103]) (.loc 1))]}
noncomputable def f_words_of_text:FnDef:={np:=1,nl:=4,body:=[
 .assign 1 (.list true []),
 .assign 2 (.call 13 [(.loc 0),(.int 0)]),
 .while_ (.cmp .lt (.loc 2) (.len (.loc 0))) [.assign 3 (.call 14 [(.loc 0),(.loc 2)]),.expr (.append (.loc 1) (.tup [(.slice (.loc 0) (.loc 2) (.loc 3)),(.loc 2)])),.assign 2 (.call 13 [(.loc 0),(.loc 3)])],
 .expr (.append (.loc 1) (.tup [(.str []),(.len (.loc 0))])),
 .ret (.loc 1)]}
noncomputable def f_is_name:FnDef:={np:=1,nl:=1,body:=[
 .ret (.and [(.cmp .ne (.loc 0) (.str [])),(.cmp .in_ (.sub (.loc 0) (.int 0)) (.glob 1)),(.cmp .notin (.loc 0) (.glob 0))])]}
noncomputable def fRi:FnDef:={np:=3,nl:=3,body:=[
 .setattr (.loc 0) 11 (.call 15 [(.loc 1)]),
 .setattr (.loc 0) 12 (.loc 2),
 .setattr (.loc 0) 0 (.int 0)]}
noncomputable def f_RuleReader_word:FnDef:={np:=1,nl:=1,body:=[
 .ret (.sub (.sub (.attr (.loc 0) 11) (.attr (.loc 0) 0)) (.int 0))]}
noncomputable def f_RuleReader_fault:FnDef:={np:=2,nl:=2,body:=[
 .ret (.newExc (.loc 1) (.sub (.sub (.attr (.loc 0) 11) (.attr (.loc 0) 0)) (.int 1)))]}
noncomputable def f_RuleReader_take:FnDef:={np:=1,nl:=2,body:=[
 .assign 1 (.sub (.sub (.attr (.loc 0) 11) (.attr (.loc 0) 0)) (.int 0)),
 .setattr (.loc 0) 0 (.bin .add (.attr (.loc 0) 0) (.int 1)),
 .ret (.loc 1)]}
noncomputable def fRs:FnDef:={np:=2,nl:=2,body:=[
 .ite (.cmp .ne (.meth 3 (.loc 0) []) (.loc 1)) [.ret (.bool false)] [],
 .expr (.meth 6 (.loc 0) []),
 .ret (.bool true)]}
noncomputable def fRd:FnDef:={np:=2,nl:=2,body:=[
 .ite (.not (.meth 7 (.loc 0) [(.loc 1)])) [.raise (.meth 5 (.loc 0) [(.bin .add (.loc 1) (.str [32,105,115,32,109,105,115,115,105,110,103]))])] []]}
noncomputable def fRm:FnDef:={np:=1,nl:=1,body:=[
 .ite (.not (.call 16 [(.meth 3 (.loc 0) [])])) [.raise (.meth 5 (.loc 0) [(.str [97,32,110,97,109,101,32,105,115,32,109,105,115,115,105,110,103])])] [],
 .ret (.meth 6 (.loc 0) [])]}
noncomputable def fRg:FnDef:={np:=1,nl:=1,body:=[
 .ite (.or [(.not (.call 16 [(.meth 3 (.loc 0) [])])),(.cmp .notin (.meth 3 (.loc 0) []) (.attr (.loc 0) 12))]) [.raise (.meth 5 (.loc 0) [(.str [110,111,32,107,110,111,119,110,32,103,108,121,112,104])])] [],
 .ret (.meth 6 (.loc 0) [])]}
noncomputable def fRn:FnDef:={np:=3,nl:=4,body:=[
 .assign 3 (.meth 3 (.loc 0) []),
 .ite (.or [(.cmp .eq (.loc 3) (.str [])),(.cmp .notin (.sub (.loc 3) (.neg (.int 1))) (.glob 2)),(.cmp .in_ (.sub (.loc 3) (.int 0)) (.glob 1)),(.cmp .gt (.len (.loc 3)) (.glob 6)),(.not (.chain (.loc 1) .le (.toInt (.loc 3)) .le (.loc 2)))]) [.raise (.meth 5 (.loc 0) [(.bin .add (.bin .add (.bin .add (.bin .add (.str [97,32,110,117,109,98,101,114,32,102,114,111,109,32]) (.toStr (.loc 1))) (.str [32,116,111,32])) (.toStr (.loc 2))) (.str [32,105,115,32,109,105,115,115,105,110,103]))])] [],
 .expr (.meth 6 (.loc 0) []),
 .ret (.toInt (.loc 3))]}
noncomputable def fRt:FnDef:={np:=1,nl:=1,body:=[
 .ite (.or [(.not (.call 16 [(.meth 3 (.loc 0) [])])),(.cmp .gt (.len (.meth 3 (.loc 0) [])) (.int 4))]) [.raise (.meth 5 (.loc 0) [(.str [97,32,116,97,103,32,105,115,32,109,105,115,115,105,110,103])])] [],
 .ret (.meth 6 (.loc 0) [])]}
noncomputable def f_read_glyph_set:FnDef:={np:=1,nl:=2,body:=[
 .assign 1 (.list true []),
 .while_ (.not (.meth 7 (.loc 0) [(.str [93])])) [.ite (.cmp .in_ (.meth 3 (.loc 0) []) (.loc 1)) [.raise (.meth 5 (.loc 0) [(.str [97,32,103,108,121,112,104,32,116,119,105,99,101,32,105,110,32,97,32,115,101,116])])] [],.expr (.append (.loc 1) (.meth 10 (.loc 0) []))],
 .ite (.cmp .eq (.loc 1) (.list true [])) [.setattr (.loc 0) 0 (.bin .sub (.attr (.loc 0) 0) (.int 1)),.raise (.meth 5 (.loc 0) [(.str [97,110,32,101,109,112,116,121,32,115,101,116])])] [],
 .ret (.tuple (.loc 1))]}
noncomputable def f_read_item:FnDef:={np:=1,nl:=3,body:=[
 .assign 1 (.ite (.meth 7 (.loc 0) [(.str [91])]) (.call 27 [(.loc 0)]) (.tup [(.meth 10 (.loc 0) [])])),
 .ite (.not (.meth 7 (.loc 0) [(.str [39])])) [.ret (.tup [(.loc 1),(.bool false),(.list true [])])] [],
 .assign 2 (.list true []),
 .while_ (.meth 7 (.loc 0) [(.str [108,111,111,107,117,112])]) [.expr (.append (.loc 2) (.sub (.attr (.loc 0) 11) (.attr (.loc 0) 0))),.expr (.meth 9 (.loc 0) [])],
 .ret (.tup [(.loc 1),(.bool true),(.loc 2)])]}
noncomputable def f_starts_item:FnDef:={np:=1,nl:=1,body:=[
 .ret (.or [(.cmp .eq (.meth 3 (.loc 0) []) (.str [91])),(.call 16 [(.meth 3 (.loc 0) [])])])]}
noncomputable def f_read_items:FnDef:={np:=1,nl:=4,body:=[
 .assign 1 (.list true [(.call 28 [(.loc 0)])]),
 .assign 2 (.bool false),
 .while_ (.call 29 [(.loc 0)]) [.assign 3 (.attr (.loc 0) 0),.expr (.append (.loc 1) (.call 28 [(.loc 0)])),.assign 2 (.or [(.loc 2),(.and [(.sub (.sub (.loc 1) (.neg (.int 2))) (.int 1)),(.not (.sub (.sub (.loc 1) (.neg (.int 1))) (.int 1)))])]),.ite (.and [(.loc 2),(.sub (.sub (.loc 1) (.neg (.int 1))) (.int 1))]) [.setattr (.loc 0) 0 (.loc 3),.raise (.meth 5 (.loc 0) [(.str [119,104,97,116,32,105,115,32,109,97,114,107,101,100,32,100,111,101,115,32,110,111,116,32,115,116,97,110,100,32,105,110,32,97,32,114,111,119])])] []],
 .ret (.loc 1)]}
noncomputable def f_chain_row:FnDef:={np:=3,nl:=10,body:=[
 .assign 4 (.comp [none,none,some 1] [1] true (.rng [(.len (.loc 1))]) (.sub (.sub (.loc 2) (.loc 1)) (.int 1)) (.loc 1)),
 .assign 5 (.list true []),
 .for_ [3] true (.x (.loc 4)) [.for_ [6,7] false (.x (.sub (.sub (.loc 1) (.loc 3)) (.int 2))) [.expr (.append (.loc 5) (.tup [(.bin .sub (.loc 3) (.sub (.loc 4) (.int 0))),(.loc 6)])),.expr (.append (.loc 2) (.tup [(.loc 6),(.loc 7)]))]],
 .assign 8 (.comp [none,none] [1] true (.x (.loc 1)) (.bool true) (.sub (.loc 1) (.int 0))),
 .assign 9 (.tuple (.sliceTo (.loc 8) (.sub (.loc 4) (.int 0)))),
 .ret (.new 2 [(.str [99,104,97,105,110]),(.tup [(.loc 0),(.loc 9),(.tuple (.slice (.loc 8) (.sub (.loc 4) (.int 0)) (.bin .add (.sub (.loc 4) (.neg (.int 1))) (.int 1)))),(.tuple (.sliceFrom (.loc 8) (.bin .add (.sub (.loc 4) (.neg (.int 1))) (.int 1)))),(.tuple (.loc 5))])])]}
noncomputable def f_read_names:FnDef:={np:=1,nl:=2,body:=[
 .assign 1 (.list true [(.meth 10 (.loc 0) [])]),
 .while_ (.call 16 [(.meth 3 (.loc 0) [])]) [.expr (.append (.loc 1) (.meth 10 (.loc 0) []))],
 .ret (.tuple (.loc 1))]}
noncomputable def f_is_marked:FnDef:={np:=1,nl:=1,body:=[
 .ret (.cmp .ne (.comp [none,none] [1] true (.x (.loc 0)) (.sub (.loc 1) (.int 1)) (.loc 1)) (.list true []))]}
noncomputable def fRr:FnDef:={np:=2,nl:=4,body:=[
 .assign 2 (.tuple (.comp [none,none] [1] true (.x (.loc 1)) (.bool true) (.sub (.sub (.loc 1) (.int 0)) (.int 0)))),
 .ite (.and [(.cmp .eq (.len (.loc 2)) (.int 1)),(.meth 7 (.loc 0) [(.str [102,114,111,109])])]) [.expr (.meth 8 (.loc 0) [(.str [91])]),.ret (.new 2 [(.str [97,108,116,101,114,110,97,116,101]),(.tup [(.sub (.loc 2) (.int 0)),(.call 27 [(.loc 0)])])])] [],
 .expr (.meth 8 (.loc 0) [(.str [98,121])]),
 .ite (.cmp .gt (.len (.loc 2)) (.int 1)) [.ret (.new 2 [(.str [108,105,103,97,116,117,114,101]),(.tup [(.loc 2),(.meth 10 (.loc 0) [])])])] [],
 .ite (.meth 7 (.loc 0) [(.str [78,85,76,76])]) [.ret (.new 2 [(.str [109,117,108,116,105,112,108,101]),(.tup [(.sub (.loc 2) (.int 0)),(.tup [])])])] [],
 .assign 3 (.call 32 [(.loc 0)]),
 .ite (.cmp .eq (.len (.loc 3)) (.int 1)) [.ret (.new 2 [(.str [115,105,110,103,108,101]),(.tup [(.sub (.loc 2) (.int 0)),(.sub (.loc 3) (.int 0))])])] [],
 .ret (.new 2 [(.str [109,117,108,116,105,112,108,101]),(.tup [(.sub (.loc 2) (.int 0)),(.loc 3)])])]}
noncomputable def f_read_worth:FnDef:={np:=1,nl:=3,body:=[
 .assign 1 (.bin .sub (.neg (.glob 8)) (.int 1)),
 .ite (.not (.meth 7 (.loc 0) [(.str [60])])) [.ret (.tup [(.int 0),(.int 0),(.meth 11 (.loc 0) [(.loc 1),(.glob 8)]),(.int 0)])] [],
 .assign 2 (.comp [none,none,some 1,some 0] [1] true (.rng [(.int 4)]) (.bool true) (.meth 11 (.loc 3) [(.loc 2),(.glob 8)])),
 .expr (.meth 8 (.loc 0) [(.str [62])]),
 .ret (.tuple (.loc 2))]}
noncomputable def f_read_position_row:FnDef:={np:=2,nl:=3,body:=[
 .assign 2 (.tuple (.comp [none,none] [1] true (.x (.loc 1)) (.bool true) (.sub (.sub (.loc 1) (.int 0)) (.int 0)))),
 .ite (.cmp .gt (.len (.loc 2)) (.int 2)) [.raise (.meth 5 (.loc 0) [(.str [97,116,32,109,111,115,116,32,116,119,111,32,103,108,121,112,104,115,32,104,97,118,101,32,97,32,112,108,97,99,101])])] [],
 .ret (.new 2 [(.ite (.cmp .eq (.len (.loc 2)) (.int 1)) (.str [97,100,106,117,115,116]) (.str [112,97,105,114])),(.bin .add (.loc 2) (.tup [(.call 35 [(.loc 0)])]))])]}
noncomputable def f_refuse_sets:FnDef:={np:=2,nl:=3,body:=[
 .for_ [2] true (.rng [(.loc 1),(.attr (.loc 0) 0)]) [.ite (.cmp .eq (.sub (.sub (.attr (.loc 0) 11) (.loc 2)) (.int 0)) (.str [91])) [.setattr (.loc 0) 0 (.loc 2),.raise (.meth 5 (.loc 0) [(.str [97,32,115,101,116,32,111,117,116,115,105,100,101,32,111,102,32,97,32,99,104,97,105,110])])] []]]}
noncomputable def f_read_row:FnDef:={np:=2,nl:=6,body:=[
 .assign 2 (.meth 6 (.loc 0) []),
 .assign 3 (.attr (.loc 0) 0),
 .assign 4 (.call 30 [(.loc 0)]),
 .ite (.call 33 [(.loc 4)]) [.assign 5 (.call 31 [(.loc 2),(.loc 4),(.loc 1)])] [.expr (.call 37 [(.loc 0),(.loc 3)]),.assign 5 (.ite (.cmp .eq (.loc 2) (.str [115,117,98])) (.call 34 [(.loc 0),(.loc 4)]) (.call 36 [(.loc 0),(.loc 4)]))],
 .expr (.meth 8 (.loc 0) [(.str [59])]),
 .ret (.loc 5)]}
noncomputable def f_check_row:FnDef:={np:=4,nl:=5,body:=[
 .assign 4 (.attr (.loc 0) 0),
 .setattr (.loc 0) 0 (.loc 3),
 .ite (.and [(.cmp .ne (.loc 1) (.list true [])),(.or [(.cmp .ne (.attr (.loc 2) 6) (.attr (.sub (.loc 1) (.int 0)) 6)),(.cmp .ne (.meth 3 (.loc 2) []) (.meth 3 (.sub (.loc 1) (.int 0)) []))])]) [.raise (.meth 5 (.loc 0) [(.str [97,32,114,111,119,32,111,102,32,97,110,111,116,104,101,114,32,107,105,110,100])])] [],
 .ite (.and [(.cmp .ne (.attr (.loc 2) 6) (.str [99,104,97,105,110])),(.cmp .in_ (.meth 4 (.loc 2) []) (.comp [none,none] [1] true (.x (.loc 1)) (.bool true) (.meth 4 (.loc 1) [])))]) [.raise (.meth 5 (.loc 0) [(.str [97,32,115,101,99,111,110,100,32,114,111,119,32,102,111,114,32,116,104,101,32,115,97,109,101,32,103,108,121,112,104,115])])] [],
 .setattr (.loc 0) 0 (.loc 4)]}
noncomputable def f_read_lookup:FnDef:={np:=2,nl:=7,body:=[
 .assign 2 (.meth 9 (.loc 0) []),
 .assign 3 (.ite (.meth 7 (.loc 0) [(.str [102,108,97,103])]) (.meth 11 (.loc 0) [(.int 0),(.glob 7)]) (.int 0)),
 .expr (.meth 8 (.loc 0) [(.str [123])]),
 .assign 4 (.list true []),
 .while_ (.cmp .in_ (.meth 3 (.loc 0) []) (.tup [(.str [115,117,98]),(.str [112,111,115])])) [.assign 5 (.attr (.loc 0) 0),.assign 6 (.call 38 [(.loc 0),(.loc 1)]),.expr (.call 39 [(.loc 0),(.loc 4),(.loc 6),(.loc 5)]),.expr (.append (.loc 4) (.loc 6))],
 .ite (.cmp .eq (.loc 4) (.list true [])) [.raise (.meth 5 (.loc 0) [(.str [97,32,108,111,111,107,117,112,32,119,105,116,104,111,117,116,32,114,111,119,115])])] [],
 .expr (.meth 8 (.loc 0) [(.str [125])]),
 .ret (.new 1 [(.loc 2),(.loc 3),(.loc 4)])]}
noncomputable def f_read_feature:FnDef:={np:=2,nl:=6,body:=[
 .assign 2 (.meth 12 (.loc 0) []),
 .assign 3 (.ite (.meth 7 (.loc 0) [(.str [115,99,114,105,112,116])]) (.meth 12 (.loc 0) []) (.str [68,70,76,84])),
 .assign 4 (.ite (.meth 7 (.loc 0) [(.str [108,97,110,103,117,97,103,101])]) (.meth 12 (.loc 0) []) (.str [100,102,108,116])),
 .expr (.meth 8 (.loc 0) [(.str [123])]),
 .assign 5 (.list true []),
 .while_ (.call 16 [(.meth 3 (.loc 0) [])]) [.expr (.append (.loc 1) (.sub (.attr (.loc 0) 11) (.attr (.loc 0) 0))),.expr (.append (.loc 5) (.meth 6 (.loc 0) []))],
 .ite (.cmp .eq (.loc 5) (.list true [])) [.raise (.meth 5 (.loc 0) [(.str [97,32,102,101,97,116,117,114,101,32,119,105,116,104,111,117,116,32,108,111,111,107,117,112,115])])] [],
 .expr (.meth 8 (.loc 0) [(.str [125])]),
 .ret (.new 3 [(.loc 2),(.loc 3),(.loc 4),(.tuple (.loc 5))])]}
noncomputable def f_read_rules:FnDef:={np:=2,nl:=7,body:=[
 .assign 2 (.new 4 [(.loc 0),(.loc 1)]),
 .assign 3 (.new 0 [(.list true []),(.list true [])]),
 .assign 4 (.list true []),
 .while_ (.cmp .ne (.meth 3 (.loc 2) []) (.str [])) [.ite (.meth 7 (.loc 2) [(.str [108,111,111,107,117,112])]) [.ite (.cmp .ge (.meth 1 (.loc 3) [(.meth 3 (.loc 2) [])]) (.int 0)) [.raise (.meth 5 (.loc 2) [(.str [97,32,108,111,111,107,117,112,32,116,111,108,100,32,116,119,105,99,101])])] [],.expr (.append (.attr (.loc 3) 1) (.call 40 [(.loc 2),(.loc 4)]))] [.expr (.meth 8 (.loc 2) [(.str [102,101,97,116,117,114,101])]),.expr (.append (.attr (.loc 3) 2) (.call 41 [(.loc 2),(.loc 4)]))]],
 .for_ [5,6] false (.x (.loc 4)) [.ite (.cmp .lt (.meth 1 (.loc 3) [(.loc 5)]) (.int 0)) [.raise (.newExc (.bin .add (.str [110,111,32,108,111,111,107,117,112,32]) (.loc 5)) (.loc 6))] []],
 .ret (.loc 3)]}
noncomputable def f_law_bars:FnDef:={np:=0,nl:=0,body:=[
 .ret (.list false [(.str [102,108,97,103]),(.str [115,117,98]),(.str [112,111,115]),(.str [102,101,97,116,117,114,101]),(.str [115,99,114,105,112,116]),(.str [108,97,110,103,117,97,103,101])])]}
noncomputable def f_law_draw:FnDef:={np:=2,nl:=4,body:=[
 .assign 2 (.sub (.loc 0) (.int 1)),
 .setitem (.loc 0) (.int 1) (.bin .add (.loc 2) (.int 1)),
 .ite (.cmp .lt (.loc 2) (.len (.sub (.loc 0) (.int 0)))) [.ret (.bin .mod (.sub (.sub (.loc 0) (.int 0)) (.loc 2)) (.loc 1))] [],
 .assign 3 (.ite (.cmp .ne (.sub (.loc 0) (.int 0)) (.list true [])) (.bin .fdiv (.sub (.sub (.loc 0) (.int 0)) (.bin .mod (.loc 2) (.len (.sub (.loc 0) (.int 0))))) (.bin .pow (.int 30) (.bin .fdiv (.loc 2) (.len (.sub (.loc 0) (.int 0)))))) (.int 0)),
 .ret (.bin .mod (.bin .add (.bin .add (.loc 3) (.loc 2)) (.bin .fdiv (.bin .mul (.loc 2) (.loc 2)) (.int 4))) (.loc 1))]}
noncomputable def f_law_glyph:FnDef:={np:=1,nl:=1,body:=[
 .ret (.tup [(.sub (.glob 9) (.call 44 [(.loc 0),(.int 6)])),(.str [110,97,109,101])])]}
noncomputable def f_law_row:FnDef:={np:=4,nl:=11,body:=[
 .assign2 4 5 (.tup [(.sub (.glob 9) (.loc 2)),(.str [110,97,109,101])]) (.list false [(.tup [(.str [59]),(.str [])])]),
 .ite (.cmp .in_ (.loc 1) (.tup [(.str [115,105,110,103,108,101]),(.str [109,117,108,116,105,112,108,101])])) [.assign 6 (.ite (.cmp .eq (.loc 1) (.str [109,117,108,116,105,112,108,101])) (.list false [(.call 45 [(.loc 0)])]) (.list true [])),.ret (.bin .add (.bin .add (.list false [(.tup [(.str [115,117,98]),(.str [114,111,119])]),(.loc 4),(.tup [(.str [98,121]),(.str [])]),(.call 45 [(.loc 0)])]) (.loc 6)) (.loc 5))] [],
 .ite (.cmp .eq (.loc 1) (.str [97,108,116,101,114,110,97,116,101])) [.assign 7 (.call 44 [(.loc 0),(.int 5)]),.ret (.bin .add (.list false [(.tup [(.str [115,117,98]),(.str [114,111,119])]),(.loc 4),(.tup [(.str [102,114,111,109]),(.str [])]),(.tup [(.str [91]),(.str [])]),(.tup [(.sub (.glob 9) (.loc 7)),(.str [110,97,109,101])]),(.tup [(.sub (.glob 9) (.int 5)),(.str [110,97,109,101])]),(.tup [(.str [93]),(.str [])])]) (.loc 5))] [],
 .ite (.cmp .eq (.loc 1) (.str [108,105,103,97,116,117,114,101])) [.ret (.bin .add (.list false [(.tup [(.str [115,117,98]),(.str [114,111,119])]),(.loc 4),(.call 45 [(.loc 0)]),(.tup [(.str [98,121]),(.str [])]),(.call 45 [(.loc 0)])]) (.loc 5))] [],
 .ite (.cmp .eq (.loc 1) (.str [97,100,106,117,115,116])) [.ret (.bin .add (.list false [(.tup [(.str [112,111,115]),(.str [114,111,119])]),(.loc 4),(.tup [(.toStr (.bin .sub (.call 44 [(.loc 0),(.int 900)]) (.int 450))),(.str [])])]) (.loc 5))] [],
 .ite (.cmp .eq (.loc 1) (.str [112,97,105,114])) [.ret (.bin .add (.list false [(.tup [(.str [112,111,115]),(.str [114,111,119])]),(.loc 4),(.call 45 [(.loc 0)]),(.tup [(.str [60]),(.str [])]),(.tup [(.str [49]),(.str [])]),(.tup [(.str [45,50]),(.str [])]),(.tup [(.str [51,48]),(.str [])]),(.tup [(.str [48]),(.str [])]),(.tup [(.str [62]),(.str [])])]) (.loc 5))] [],
 .assign 8 (.tup [(.ite (.cmp .eq (.loc 1) (.str [116,117,114,110,115])) (.str [115,117,98]) (.str [112,111,115])),(.str [99,104,97,105,110])]),
 .assign 9 (.list false [(.tup [(.str [108,111,111,107,117,112]),(.str [])]),(.tup [(.sub (.loc 3) (.call 44 [(.loc 0),(.len (.loc 3))])),(.str [117,115,101])])]),
 .assign 10 (.bin .add (.bin .add (.bin .add (.list false [(.loc 8)]) (.comp [none,none,some 0] [1] true (.rng [(.call 44 [(.loc 0),(.int 2)])]) (.bool true) (.call 45 [(.loc 2)]))) (.list false [(.loc 4),(.tup [(.str [39]),(.str [])])])) (.bin .mul (.loc 9) (.call 44 [(.loc 0),(.int 3)]))),
 .ret (.bin .add (.bin .add (.loc 10) (.bin .mul (.list false [(.tup [(.str [91]),(.str [])]),(.tup [(.sub (.glob 9) (.int 1)),(.str [110,97,109,101])]),(.tup [(.sub (.glob 9) (.int 4)),(.str [110,97,109,101])]),(.tup [(.str [93]),(.str [])])]) (.call 44 [(.loc 0),(.int 2)]))) (.loc 5))]}
noncomputable def f_law_blocks:FnDef:={np:=1,nl:=11,body:=[
 .assign2 1 2 (.sliceTo (.list false [(.str [65,49]),(.str [108,105,103,97]),(.str [107,46,50])]) (.bin .add (.int 1) (.call 44 [(.loc 0),(.int 3)]))) (.list true []),
 .for_ [3] true (.x (.loc 1)) [.assign 4 (.sub (.list false [(.str [115,105,110,103,108,101]),(.str [112,97,105,114]),(.str [108,105,103,97,116,117,114,101]),(.str [116,117,114,110,115]),(.str [97,108,116,101,114,110,97,116,101]),(.str [109,117,108,116,105,112,108,101]),(.str [109,111,118,101,115]),(.str [97,100,106,117,115,116])]) (.call 44 [(.loc 0),(.int 8)])),.assign 5 (.bin .mul (.list false [(.tup [(.str [102,108,97,103]),(.str [])]),(.tup [(.str [56]),(.str [])])]) (.call 44 [(.loc 0),(.int 2)])),.assign 6 (.bin .add (.bin .add (.list false [(.tup [(.str [108,111,111,107,117,112]),(.str [])]),(.tup [(.loc 3),(.str [111,119,110])])]) (.loc 5)) (.list false [(.tup [(.str [123]),(.str [])])])),.for_ [7] true (.rng [(.bin .add (.int 1) (.call 44 [(.loc 0),(.int 2)]))]) [.assign 6 (.bin .add (.loc 6) (.call 46 [(.loc 0),(.loc 4),(.loc 7),(.loc 1)]))],.expr (.append (.loc 2) (.bin .add (.loc 6) (.list false [(.tup [(.str [125]),(.str [])])])))],
 .for_ [8] true (.rng [(.call 44 [(.loc 0),(.int 3)])]) [.assign 9 (.bin .mul (.list false [(.tup [(.str [115,99,114,105,112,116]),(.str [])]),(.tup [(.str [108,97,116,110]),(.str [110,97,109,101])])]) (.call 44 [(.loc 0),(.int 2)])),.assign 10 (.comp [none,none,some 1,some 0] [1] true (.rng [(.bin .add (.int 1) (.call 44 [(.loc 0),(.int 2)]))]) (.bool true) (.tup [(.sub (.loc 2) (.call 44 [(.loc 3),(.len (.loc 2))])),(.str [117,115,101])])),.expr (.append (.loc 2) (.bin .add (.bin .add (.bin .add (.bin .add (.list false [(.tup [(.str [102,101,97,116,117,114,101]),(.str [])]),(.tup [(.sub (.list false [(.str [108,105,103,97]),(.str [107]),(.str [115,115,48,49])]) (.loc 8)),(.str [110,97,109,101])])]) (.loc 9)) (.list false [(.tup [(.str [123]),(.str [])])])) (.loc 10)) (.list false [(.tup [(.str [125]),(.str [])])])))],
 .ret (.tup [(.loc 2),(.loc 1)])]}
noncomputable def f_law_gap:FnDef:={np:=3,nl:=4,body:=[
 .assign 3 (.sub (.list false [(.str [32]),(.str []),(.str [10]),(.str [32,32]),(.str [32,35,32,98,121,32,59,10]),(.str [35,39,13]),(.str [9])]) (.call 44 [(.loc 0),(.int 7)])),
 .ite (.and [(.cmp .eq (.loc 3) (.str [])),(.cmp .notin (.loc 1) (.str [123,125,91,93,59,39,60,62])),(.cmp .notin (.loc 2) (.str [123,125,91,93,59,39,60,62]))]) [.ret (.str [32])] [],
 .ret (.loc 3)]}
noncomputable def f_law_spelled:FnDef:={np:=2,nl:=6,body:=[
 .assign2 2 3 (.sub (.list false [(.str []),(.str [10,32]),(.str [35,32,120,10])]) (.call 44 [(.loc 0),(.int 3)])) (.list true []),
 .for_ [4,5] false (.enum (.loc 1)) [.ite (.cmp .gt (.loc 4) (.int 0)) [.assign 2 (.bin .add (.loc 2) (.call 48 [(.loc 0),(.sub (.loc 1) (.bin .sub (.loc 4) (.int 1))),(.loc 5)]))] [],.expr (.append (.loc 3) (.len (.loc 2))),.assign 2 (.bin .add (.loc 2) (.loc 5))],
 .ret (.tup [(.loc 2),(.loc 3)])]}
noncomputable def f_law_heard:FnDef:={np:=1,nl:=4,body:=[
 .assign 1 .none,
 .tryAt [.assign 2 (.meth 0 (.call 42 [(.loc 0),(.glob 9)]) [])] 3 1,
 .ret (.ite (.cmp .is_ (.loc 1) .none) (.loc 2) (.loc 1))]}
noncomputable def f_law:FnDef:={np:=1,nl:=17,body:=[
 .assign 1 (.list true [(.comp [none,none] [1] true (.x (.sliceTo (.loc 0) (.int 60))) (.bool true) (.bin .add (.bin .mul (.int 2) (.abs (.toInt (.loc 1)))) (.toInt (.cmp .lt (.loc 1) (.int 0))))),(.int 0)]),
 .assign 2 (.call 44 [(.loc 1),(.int 7)]),
 .unpack [3,4] (.call 47 [(.loc 1)]),
 .assign 5 (.flat (.x (.loc 3))),
 .assign 6 (.comp [none,none,none] [1,2] false (.x (.loc 5)) (.bool true) (.loc 1)),
 .unpack [7,8] (.call 49 [(.loc 1),(.loc 6)]),
 .assign 9 (.call 50 [(.loc 7)]),
 .ite (.or [(.isInt (.loc 9)),(.cmp .ne (.loc 9) (.call 50 [(.join (.str [32]) (.loc 6))]))]) [.ret (.bool false)] [],
 .ite (.cmp .eq (.loc 2) (.int 1)) [.assign 10 (.call 44 [(.loc 1),(.len (.loc 3))]),.assign 11 (.sum (.comp [none,none] [1] true (.x (.sliceTo (.loc 3) (.loc 10))) (.bool true) (.len (.loc 1)))),.unpack [7,8] (.call 49 [(.loc 1),(.sliceTo (.loc 6) (.bin .add (.bin .add (.loc 11) (.int 1)) (.call 44 [(.loc 1),(.bin .sub (.len (.sub (.loc 3) (.loc 10))) (.int 1))])))]),.assign 7 (.bin .add (.loc 7) (.sub (.list false [(.str []),(.str [32,32]),(.str [32,35,32,125]),(.str [35,59,10]),(.str [10,10])]) (.call 44 [(.loc 1),(.int 5)]))),.ret (.cmp .eq (.call 50 [(.loc 7)]) (.len (.loc 7)))] [],
 .ite (.or [(.cmp .eq (.loc 2) (.int 0)),(.cmp .eq (.loc 2) (.int 5))]) [.assign 12 (.comp [none,none,some 5,some 2] [1] true (.rng [(.len (.loc 5))]) (.cmp .in_ (.sub (.sub (.loc 2) (.loc 1)) (.int 1)) (.ite (.cmp .eq (.loc 3) (.int 0)) (.tup [(.str [110,97,109,101]),(.str [111,119,110]),(.str [117,115,101])]) (.tup [(.str [117,115,101])]))) (.loc 1)),.ite (.cmp .eq (.loc 12) (.list true [])) [.ret (.bool true)] [],.assign 10 (.sub (.loc 12) (.call 44 [(.loc 1),(.len (.loc 12))])),.assign 13 (.ite (.cmp .eq (.loc 2) (.int 0)) (.sub (.call 43 []) (.call 44 [(.loc 1),(.int 6)])) (.str [110,111,119,104,101,114,101])),.unpack [7,8] (.call 49 [(.loc 1),(.bin .add (.bin .add (.sliceTo (.loc 6) (.loc 10)) (.list false [(.loc 13)])) (.sliceFrom (.loc 6) (.bin .add (.loc 10) (.int 1))))]),.ret (.cmp .eq (.call 50 [(.loc 7)]) (.sub (.loc 8) (.loc 10)))] [],
 .ite (.or [(.cmp .eq (.loc 2) (.int 2)),(.cmp .eq (.loc 2) (.int 3))]) [.assign 14 (.comp [none,none,some 5,some 2] [1] true (.rng [(.len (.loc 5))]) (.cmp .eq (.sub (.sub (.loc 2) (.loc 1)) (.int 1)) (.ite (.cmp .eq (.loc 3) (.int 2)) (.str [114,111,119]) (.str [111,119,110]))) (.loc 1)),.ite (.cmp .eq (.loc 14) (.list true [])) [.ret (.bool true)] [],.assign 10 (.sub (.loc 14) (.call 44 [(.loc 1),(.len (.loc 14))])),.ite (.cmp .eq (.loc 2) (.int 3)) [.assign2 15 16 (.list false [(.str [108,111,111,107,117,112]),(.sub (.loc 6) (.loc 10)),(.str [123]),(.str [115,117,98]),(.str [97]),(.str [98,121]),(.str [98]),(.str [59]),(.str [125])]) (.len (.loc 6))] [.assign2 15 16 (.slice (.loc 6) (.loc 10) (.bin .add (.index (.loc 6) [(.str [59]),(.loc 10)]) (.int 1))) (.index (.loc 6) [(.str [125]),(.loc 10)])],.unpack [7,8] (.call 49 [(.loc 1),(.bin .add (.bin .add (.sliceTo (.loc 6) (.loc 16)) (.loc 15)) (.sliceFrom (.loc 6) (.loc 16)))]),.ret (.cmp .eq (.call 50 [(.loc 7)]) (.sub (.loc 8) (.bin .add (.loc 16) (.ite (.cmp .eq (.loc 2) (.int 3)) (.int 1) (.int 0)))))] [],
 .assign 10 (.call 44 [(.loc 1),(.len (.loc 6))]),
 .unpack [7,8] (.call 49 [(.loc 1),(.bin .add (.bin .add (.sliceTo (.loc 6) (.loc 10)) (.list false [(.sub (.str [33,40,64,43]) (.call 44 [(.loc 1),(.int 4)]))])) (.sliceFrom (.loc 6) (.loc 10)))]),
 .ret (.cmp .eq (.call 50 [(.loc 7)]) (.sub (.loc 8) (.loc 10)))]}
noncomputable def fns:List FnDef:=[f_RuleTree_init,f_RuleTree_told,fRl,f_LookupBlock_init,f_LookupBlock_told,f_LookupBlock_kind,f_RuleRow_init,f_RuleRow_told,f_RuleRow_word,f_RuleRow_left,f_FeatureRow_init,f_FeatureRow_told,f_run_end,f_skipped,f_word_end,f_words_of_text,f_is_name,fRi,f_RuleReader_word,f_RuleReader_fault,f_RuleReader_take,fRs,fRd,fRm,fRg,fRn,fRt,f_read_glyph_set,f_read_item,f_starts_item,f_read_items,f_chain_row,f_read_names,f_is_marked,fRr,f_read_worth,f_read_position_row,f_refuse_sets,f_read_row,f_check_row,f_read_lookup,f_read_feature,f_read_rules,f_law_bars,f_law_draw,f_law_glyph,f_law_row,f_law_blocks,f_law_gap,f_law_spelled,f_law_heard,f_law]
noncomputable def clss:List ClsDef:=[{fields:=[1,2],init:=0,meths:=[(0,1),(1,2)]},{fields:=[3,4,5],init:=3,meths:=[(0,4),(2,5)]},{fields:=[6,7],init:=6,meths:=[(0,7),(3,8),(4,9)]},{fields:=[8,9,10,1],init:=10,meths:=[(0,11)]},{fields:=[11,12,0],init:=17,meths:=[(3,18),(5,19),(6,20),(7,21),(8,22),(9,23),(10,24),(11,25),(12,26)]}]
noncomputable def prog:Prog:={globs:=globs,cls:=clss,fns:=fns}
end
set_option genSizeOf false
set_option genInjectivity false
section
theorem bindR_assoc{α β γ:Type}(r:R α)(f:α→St→R β)(g:β→St→R γ):bR (bR r f) g=bR r fun a st=>bR (f a st) g:=by
 rcases r with _ | ⟨_ | _,_⟩<;>rfl
abbrev Kt(α γ:Type):=α→St→R γ
abbrev CP(γ:Type):=(Kt W γ→St→R γ)×(Kt Bool γ→St→R γ)
noncomputable section
noncomputable def fieldIx(P:Prog)(c f:Nat):Option Nat:=P.cls[c]?.bind fun d=>d.fields.idxOf? f
noncomputable def getF(P:Prog)(mem:List AO)(w:W)(f:Nat):Option W:=W.casesOn w
 (fun x=>V.casesOn x .none (fun o0=>.none) (fun o0=>.none) (fun o0=>.none) (fun o0=>.none) (fun o0=>.none) (fun c l=>(fieldIx P c f).bind fun k=>(l[k]?).map .v) (fun a=>if f=0 then some (.v a)else none)) (fun o0=>.none)
 fun c i=>(aoO mem[i]?).bind fun p=>if p.1=c then(fieldIx P c f).bind fun k=>(p.2[k]?).join else none
noncomputable def setattrM(P:Prog)(o:W)(f:Nat)(w:W)(st:St):R Unit:=W.casesOn o (fun o0=>.none) (fun o0=>.none)
 fun c i=>(aoO st.mem[i]?).bind fun p=>(fieldIx P c f).bind fun k=>if p.1=c∧okField i w=true then some (.ok (),⟨st.loc,st.mem.set i (.obj c (p.2.set k (some w)))⟩)else none
variable{γ:Type}
noncomputable def oK{α:Type}(o:Option α)(k:Kt α γ)(st:St):R γ:=match o with | none=>none | some a=>k a st
noncomputable def ifK(b:Bool)(x y:St→R γ)(st:St):R γ:=match b with | true=>x st | false=>y st
noncomputable def callK(r:Option (Except V W×List AO))(loc:List (Option W))(k:Kt W γ):R γ:=match r with
 |none=>none
 |some (.error x,mem)=>some (.error x,⟨loc,mem⟩)
 |some (.ok a,mem)=>k a ⟨loc,mem⟩
noncomputable def asV(w:W):Option V:=W.casesOn w some (fun o0=>.none) fun o0 o0=>.none
noncomputable def asInt(w:W):Option Int:=(asV w).bind vI
noncomputable def asStr(w:W):Option (List Nat):=(asV w).bind vS
noncomputable def asList(w:W):Option (List V):=(asV w).bind vL
noncomputable def asL(mem:List AO)(w:W):Option (List V):=(deref mem w).bind vL
noncomputable def bin2(o:Op)(mem:List AO)(x y:W):Option W:=(deref mem x).bind fun a=>(deref mem y).bind fun b=>(binV o a b).map .v
noncomputable def live(mem:List AO)(w:W):Bool:=W.casesOn w (fun o0=>true) (fun o0=>true) fun c i=>(aoO mem[i]?).elim false fun p=>decide (p.1=c)
noncomputable def methO(mem:List AO)(w:W)(m:Nat):Option Nat:=bif live mem w then(clsOf w).bind fun c=>clss[c]?.bind fun d=>d.meths.lookup m else none
noncomputable def subO(mem:List AO)(o:W)(i:V):Option W:=(deref mem o).bind fun x=>(subV x i).map .v
noncomputable def sliceO(mem:List AO)(o:W)(a b:Option V):Option W:=(deref mem o).bind fun x=>(sliceV x a b).map .v
noncomputable def lenO(mem:List AO)(o:W):Option W:=(deref mem o).bind fun x=>(lenV x).map .v
noncomputable def joinO(s:List Nat)(l:List V):Option W:=(joinV s l).bind fun r=>if r.length≤top∧s.length≤64 then some (.v (.str r))else none
noncomputable def rngO(m n:Int):Option (List V):=if 0≤m∧m≤top∧0≤n∧n≤top then some (range m n)else none
noncomputable def rng1O(n:Int):Option (List V):=if 0≤n∧n≤top then some (range 0 n)else none
noncomputable def rngW(ws:List W):Option (List V):=List.casesOn ws .none fun x r=>List.casesOn r ((asInt x).bind rng1O) fun y t=>List.casesOn t ((asInt x).bind fun m=>(asInt y).bind fun n=>rngO m n) fun o0 o0=>.none
noncomputable def compO(r:List V):Option W:=if r.length≤top then some (.v (.list r))else none
noncomputable def flatO(l:List V):Option (List V):=(listsOf l).map List.flatten
noncomputable def excW(ws:List W):Option W:=List.casesOn ws .none fun x r=>List.casesOn r .none fun y o0=>(asStr x).bind fun o0=>(asInt y).map fun i=>.v (.exc (.int i))
noncomputable def numW(k:Nat)(a:Int):W:=.v (.int (k+a))
noncomputable def indexO(mem:List AO)(o:W)(args:List W):Option W:=(asL mem o).bind fun l=>List.casesOn args .none fun x r=>(asV x).bind fun x=>List.casesOn r ((findEq x l).bind fun k=>k.map fun k=>numW k 0) fun a t=>List.casesOn t
 ((asInt a).bind fun a=>if 0≤a∧a≤top then(findEq x l).bind fun o0=>(findEq x (l.drop a.toNat)).bind fun k=>k.map fun k=>numW k a else none) fun o0 o0=>.none
noncomputable def indexM(o:W)(args:List W)(st:St):R W:=retO (indexO st.mem o args) st
noncomputable def frK(ws:List W):Kt (List V) γ→St→R γ:=List.rec (fun k=>k []) (fun w o0 r k=>W.casesOn w (fun x=>r fun xs=>k (x::xs)) (fun i st=>oK (aoL st.mem[i]?) (fun l st=>r (fun xs=>k (.list l::xs)) ⟨st.loc,st.mem.set i .dead⟩) st) fun o0 o0 o0=>none) ws
noncomputable def pl(m:Kt W γ→St→R γ):CP γ:=(m,fun k=>m fun w=>oK (truthyW w) k)
noncomputable def foldBK(isAnd:Bool)(l:List (CP γ)):Kt W γ→St→R γ:=List.rec (fun o0 o0=>none) (fun x r h=>List.casesOn r x.1 fun o0 o0=>Bool.casesOn isAnd (fun k=>x.1 fun w=>oK (truthyW w) fun b=>ifK b (k w) (h k)) fun k=>x.1 fun w=>oK (truthyW w) fun b=>ifK b (h k) (k w)) l
noncomputable def foldTBK(isAnd:Bool)(l:List (CP γ)):Kt Bool γ→St→R γ:=List.rec (fun k=>k isAnd) (fun x o0 h=>Bool.casesOn isAnd (fun k=>x.2 fun b=>ifK b (k true) (h k)) fun k=>x.2 fun b=>ifK b (h k) (k false)) l
noncomputable def foldVsK(l:List (CP γ)):Kt (List W) γ→St→R γ:=List.rec (fun k=>k []) (fun x o0 h k=>x.1 fun a=>h fun b=>k (a::b)) l
noncomputable def kNew2(i c:Nat)(k:Kt W γ)(w:W)(st:St):R γ:=bif Option.elim (asV w) false isNone then k (.o c i) st else none
noncomputable def newK(C:CallT)(c:Nat)(ws:List W)(k:Kt W γ)(st:St):R γ:=match clss[c]? with
 |none=>none
 |some d=>callK (C d.init (.o c st.mem.length::ws) (st.mem++[.obj c (List.replicate d.fields.length none)])) st.loc (kNew2 st.mem.length c k)
noncomputable def wiK{α:Type}(r:R α)(loc:List (Option W))(k:Kt α γ):R γ:=match r with
 |none=>none
 |some (.error x,st)=>some (.error x,⟨loc,st.mem⟩)
 |some (.ok a,st)=>k a ⟨loc,st.mem⟩
noncomputable def retK{α:Type}(a:α)(st:St):R α:=some (.ok a,st)
noncomputable def coll(f:V→St→R (List V))(l:List V):St→R (List V):=List.rec (retK []) (fun x o0 r st=>bR (f x st) fun a st=>bR (r st) fun b=>retK (a++b)) l
noncomputable def coK(pat:List Nat)(one:Bool)(t:Kt Bool (List V)→St→R (List V))(e:Kt W (List V)→St→R (List V))(x:V)(st:St):R (List V):=
 bR (bindPat pat one x st) fun o0=>t fun b=>ifK b (e fun w=>oK (asV w) fun y=>retK [y]) (retK [])
noncomputable def forR(f:V→St→R Flow)(l:List V):St→R Flow:=List.rec (retK .next) (fun x o0 r st=>bR (f x st) fun fl=>Flow.casesOn fl r fun w=>retK (.ret w)) l
noncomputable def whileM(t:St→R Bool)(b:St→R Flow)(st:St):R Flow:=
 match t st with
 |none=>none
 |some (.error x,st')=>some (.error x,st')
 |some (.ok false,st')=>some (.ok .next,st')
 |some (.ok true,st')=>
  match b st' with
  |some (.ok .next,st'')=>whileM t b st''
  |r=>r
partial_fixpoint
variable(C:CallT)
mutual
noncomputable def ck{γ:Type}:X→CP γ
 |.none=>pl fun k=>k (.v .none)
 |.bool b=>pl fun k=>k (.v (.bool b))
 |.int i=>pl fun k=>k (.v (.int i))
 |.str l=>pl fun k=>k (.v (.str l))
 |.loc i=>pl fun k st=>oK (st.loc[i]?).join k st
 |.glob i=>pl fun k=>oK (globs[i]?.map .v) k
 |.and l=>(foldBK true (cks l),foldTBK true (cks l))
 |.or l=>(foldBK false (cks l),foldTBK false (cks l))
 |.not a=>(fun k=>(ck a).1 fun w=>oK (truthyW w) fun b=>k (.v (.bool !b)),fun k=>(ck a).2 fun b=>k !b)
 |.ite c a b=>(fun k=>(ck c).2 fun t=>ifK t ((ck a).1 k) ((ck b).1 k),fun k=>(ck c).2 fun t=>ifK t ((ck a).2 k) ((ck b).2 k))
 |.bin o a b=>pl fun k=>(ck a).1 fun x=>(ck b).1 fun y st=>oK (bin2 o st.mem x y) k st
 |.neg a=>pl fun k=>(ck a).1 fun x=>oK (asInt x) fun i=>k (.v (.int (-i)))
 |.cmp o a b=>(fun k=>(ck a).1 fun x=>(ck b).1 fun y st=>oK (cmpW o st.mem x y) (fun r=>k (.v (.bool r))) st,
   fun k=>(ck a).1 fun x=>(ck b).1 fun y st=>oK (cmpW o st.mem x y) k st)
 |.chain a o b o' c=>(fun k=>(ck a).1 fun x=>(ck b).1 fun y st=>oK (cmpW o st.mem x y) (fun r=>ifK r ((ck c).1 fun z st=>oK (cmpW o' st.mem y z) (fun r=>k (.v (.bool r))) st) (k (.v (.bool false)))) st,
   fun k=>(ck a).1 fun x=>(ck b).1 fun y st=>oK (cmpW o st.mem x y) (fun r=>ifK r ((ck c).1 fun z st=>oK (cmpW o' st.mem y z) k st) (k false)) st)
 |.call f args=>pl fun k=>foldVsK (cks args) fun ws st=>callK (C f ws st.mem) st.loc k
 |.new c args=>pl fun k=>foldVsK (cks args) fun ws st=>newK C c ws k st
 |.newExc a b=>pl fun k=>foldVsK [ck a,ck b] fun ws=>oK (excW ws) k
 |.meth m o args=>pl fun k=>(ck o).1 fun ov st=>oK (methO st.mem ov m) (fun f=>foldVsK (cks args) fun ws st=>callK (C f (ov::ws) st.mem) st.loc k) st
 |.append o x=>pl fun k=>(ck o).1 fun ov st=>oK (asL st.mem ov) (fun o0=>(ck x).1 fun w=>oK (asV w) fun v st=>bR (appendM ov v st) k) st
 |.join o x=>pl fun k=>(ck o).1 fun ov=>oK (asStr ov) fun s=>(ck x).1 fun w=>oK (asList w) fun l=>oK (joinO s l) k
 |.index o args=>pl fun k=>(ck o).1 fun ov st=>oK (asL st.mem ov) (fun o0=>foldVsK (cks args) fun ws st=>bR (indexM ov ws st) k) st
 |.attr o f=>pl fun k=>(ck o).1 fun ov st=>oK (getF prog st.mem ov f) k st
 |.sub o i=>pl fun k=>(ck o).1 fun ov=>(ck i).1 fun iv=>oK (asV iv) fun iv st=>oK (subO st.mem ov iv) k st
 |.sliceTo o hi=>pl fun k=>(ck o).1 fun ov=>(ck hi).1 fun b=>oK (asV b) fun b st=>oK (sliceO st.mem ov none (some b)) k st
 |.sliceFrom o lo=>pl fun k=>(ck o).1 fun ov=>(ck lo).1 fun a=>oK (asV a) fun a st=>oK (sliceO st.mem ov (some a) none) k st
 |.slice o lo hi=>pl fun k=>(ck o).1 fun ov=>(ck lo).1 fun a=>oK (asV a) fun a=>(ck hi).1 fun b=>oK (asV b) fun b st=>oK (sliceO st.mem ov (some a) (some b)) k st
 |.tup l=>pl fun k=>foldVsK (cks l) fun ws=>frK ws fun xs=>k (.v (.tup xs))
 |.list mu l=>pl fun k=>foldVsK (cks l) fun ws=>frK ws fun xs=>Bool.casesOn mu (k (.v (.list xs))) fun st=>k (.l st.mem.length) ⟨st.loc,st.mem++[.list xs]⟩
 |.len a=>pl fun k=>(ck a).1 fun w st=>oK (lenO st.mem w) k st
 |.toInt a=>pl fun k=>(ck a).1 fun w=>oK (asV w) fun x=>oK ((toIntV x).map .v) k
 |.toStr a=>pl fun k=>(ck a).1 fun w=>oK (asV w) fun x=>oK ((toStrV x).map .v) k
 |.abs a=>pl fun k=>(ck a).1 fun x=>oK (asInt x) fun i=>k (.v (.int (if i < 0 then -i else i)))
 |.sum a=>pl fun k=>(ck a).1 fun x=>oK (asList x) fun l=>oK ((sumV l).map fun i=>W.v (.int i)) k
 |.tuple a=>pl fun k=>(ck a).1 fun w st=>oK (asL st.mem w) (fun l=>k (.v (.tup l))) st
 |.isInt a=>pl fun k=>(ck a).1 fun w=>oK (asV w) fun x=>oK (isIntV x) fun b=>k (.v (.bool b))
 |.comp slots pat one it cond elt=>pl fun k=>cit it fun w l st=>wiK (coll (coK pat one (ck cond).2 (ck elt).1) l ⟨subLoc slots st.loc,st.mem⟩) st.loc fun r st=>bR (shutIt w l st) fun o0=>oK (compO r) k
 |.flat it=>pl fun k=>cit it fun w l=>oK (flatO l) fun r st=>bR (shutIt w l st) fun o0=>oK (compO r) k
noncomputable def cks{γ:Type}:List X→List (CP γ)
 |[]=>[]
 |x::r=>ck x::cks r
noncomputable def cit{γ:Type}:It→(W→List V→St→R γ)→St→R γ
 |.x e=>fun k=>(ck e).1 fun w st=>bR (openIt w st) (k w)
 |.rng l=>fun k=>foldVsK (cks l) fun ws=>oK (rngW ws) (k (.v .none))
 |.enum e=>fun k=>(ck e).1 fun w=>oK (asList w) fun l=>k (.v .none) (enumFrom 0 l)
end
noncomputable def asExc(w:W):Option V:=(asV w).bind fun x=>V.casesOn x .none (fun o0=>.none) (fun o0=>.none) (fun o0=>.none) (fun o0=>.none) (fun o0=>.none) (fun o0 o0=>.none) some
noncomputable def tryE(fslot slot:Nat)(x:V)(st:St):R Flow:=match asExc (.v x)with
 |some a=>some (.ok .next,⟨(st.loc.set slot (some (.v a))).set fslot none,st.mem⟩)
 |none=>some (.error x,st)
noncomputable def tryR(r:R Flow)(fslot slot:Nat):R Flow:=match r with
  |some (.error x,st')=>tryE fslot slot x st'
  |r=>r
mutual
noncomputable def sk{γ:Type}:S→Kt Flow γ→St→R γ
 |.expr e=>fun k=>(ck C e).1 fun o0=>k .next
 |.assign i e=>fun k=>(ck C e).1 fun w st=>k .next ⟨st.loc.set i (some w),st.mem⟩
 |.unpack is e=>fun k=>(ck C e).1 fun w=>oK (asV w) fun x st=>bR (bindPat is false x st) fun o0=>k .next
 |.assign2 i j a b=>fun k=>(ck C a).1 fun x=>(ck C b).1 fun y st=>k .next ⟨(st.loc.set i (some x)).set j (some y),st.mem⟩
 |.setattr o f e=>fun k=>(ck C e).1 fun w=>(ck C o).1 fun ov st=>bR (setattrM prog ov f w st) fun o0=>k .next
 |.setitem o i e=>fun k=>(ck C e).1 fun w=>oK (asV w) fun x=>(ck C o).1 fun ov=>(ck C i).1 fun iv st=>bR (setitemM ov iv x st) fun o0=>k .next
 |.ite c a b=>fun k=>(ck C c).2 fun t=>ifK t (bk a k) (bk b k)
 |.while_ c b=>fun k st=>bR (whileM ((ck C c).2 retK) (bk b retK) st) k
 |.for_ pat one it b=>fun k=>cit C it fun w l st=>bR (forR (fun x st=>bR (bindPat pat one x st) fun o0=>bk b retK) l st) fun fl st=>bR (shutIt w l st) fun o0=>k fl
 |.ret e=>fun k=>(ck C e).1 fun w=>k (.ret w)
 |.raise e=>fun o0=>(ck C e).1 fun w=>oK (asExc w) fun a st=>some (.error (.exc a),st)
 |.tryAt body fslot slot=>fun k st=>bR (tryR (bk body retK st) fslot slot) k
noncomputable def bk{γ:Type}:List S→Kt Flow γ→St→R γ
 |[]=>fun k=>k .next
 |s::r=>fun k=>sk s fun fl=>Flow.casesOn fl (bk r k) fun w=>k (.ret w)
end
noncomputable def flW:Flow→W:=fun fl=>Flow.casesOn fl (.v .none) id
noncomputable def endR(r:R Flow)(n:Nat):Option (Except V W×List AO):=match r with
 |none=>none
 |some (.error x,st)=>some (.error x,st.mem.take n)
 |some (.ok fl,st)=>(handBack n st.mem (flW fl)).map fun w=>(.ok w,st.mem.take n)
noncomputable def cN(P:Prog)(n:Nat):CallT:=Nat.rec (fun o0 o0 o0=>none) (fun o0 C f args mem=>P.fns[f]?.bind fun d=>if args.length=d.np then endR (bk C d.body retK ⟨args.map some++List.replicate (d.nl - d.np) none,mem⟩) mem.length else none) n
end
end
section
abbrev Km(β:Type):={γ:Type}→Kt β γ→St→R γ
structure Nt{α:Type}(m:Km α):Prop where
 h:∀{γ δ:Type} (k:Kt α γ) (f:Kt γ δ) (st:St),bR (m k st) f=m (fun a st=>bR (k a st) f) st
section
variable{α β:Type}{m:Km α}{n:α→Km β}
theorem Nt.bind(h:Nt m)(k:∀a,Nt (n a)):Nt (fun κ=>m fun a=>n a κ):=⟨fun κ f st=>(h.h _ f st).trans (congrArg (fun g=>m g st) (funext fun a=>funext fun st=>(k a).h κ f st))⟩
theorem Nt.ret(a:α):Nt (fun κ=>κ a):=⟨fun _ _ _=>rfl⟩
theorem Nt.retS{F:St→α}{G:St→St}:Nt (fun κ st=>κ (F st) (G st)):=⟨fun _ _ _=>rfl⟩
theorem Nt.opt{o:St→Option α}(k:∀a,Nt (n a)):Nt (fun κ st=>oK (o st) (fun a=>n a κ) st):=⟨fun κ f st=>by
 cases h:o st with
 |none=>rfl
 |some a=>exact(k a).h κ f st⟩
theorem Nt.optL{o:St→Option α}:Nt (fun κ st=>oK (o st) κ st):=.opt fun a=>.ret a
theorem Nt.bnd{r:St→R α}(k:∀a,Nt (n a)):Nt (fun κ st=>bR (r st) fun a=>n a κ):=⟨fun κ f st=>(bindR_assoc ..).trans (congrArg (bR (r st)) (funext fun a=>funext fun st=>(k a).h κ f st))⟩
theorem Nt.bndL{r:St→R α}:Nt (fun κ st=>bR (r st) κ):=⟨fun κ f st=>bindR_assoc ..⟩
theorem Nt.wi{r:St→R α}(k:∀a,Nt (n a)):Nt (fun κ st=>wiK (r st) st.loc fun a=>n a κ):=⟨fun κ f st=>by
 rcases h:r st with _ | ⟨_ | a,st'⟩
 ·rfl
 ·rfl
 ·exact(k a).h κ f _⟩
theorem Nt.ite{b:Bool}{m m':Km α}(h:Nt m)(h':Nt m'):Nt (fun κ=>ifK b (m κ) (m' κ)):=⟨fun κ f st=>by
 cases b with
 |true=>exact h.h κ f st
 |false=>exact h'.h κ f st⟩
theorem Nt.call{r:St→Option (Except V W×List AO)}:Nt (fun κ st=>callK (r st) st.loc κ):=⟨fun κ f st=>by rcases h:r st with _ | ⟨_ | _,_⟩<;>rfl⟩
theorem Nt.none:Nt (fun(_:Kt α _) _=>Option.none):=⟨fun _ _ _=>rfl⟩
end
structure NP(p:{γ:Type}→CP γ):Prop where
 v:Nt (fun κ=>p.1 κ)
 t:Nt (fun κ=>p.2 κ)
theorem NP.pl{m:Km W}(h:Nt m):NP (pl m):=⟨h,h.bind fun _=>.optL⟩
structure NL(l:{γ:Type}→List (CP γ)):Prop where
 v:Nt (fun κ=>foldVsK l κ)
 t:∀i,Nt (fun κ=>foldTBK i l κ)
 b:∀i,Nt (fun κ=>foldBK i l κ)
theorem Nt.fr:∀ws:List W,Nt (fun κ=>frK ws κ):=List.rec (.ret []) fun w r h=>W.casesOn w (fun x=>h.bind fun xs=>.ret _) (fun i=>⟨fun κ f st=>by
  dsimp only[frK]
  cases aoL st.mem[i]? with
  |none=>rfl
  |some l=>exact(h.h (fun xs=>κ (.list l::xs)) f _:)⟩) fun _ _=>.none
section
variable(C:CallT)
theorem Nt.new{c:Nat}{ws:List W}:Nt (fun κ st=>newK C c ws κ st):=⟨fun κ f st=>by
 unfold newK
 cases clss[c]? with
 |none=>rfl
 |some d=>
  dsimp only
  generalize C d.init _ _=R
  rcases R with _ | ⟨_ | w,_⟩
  ·rfl
  ·rfl
  ·show bR (bif Option.elim (asV w) false isNone then _ else _) f=bif Option.elim (asV w) false isNone then _ else _
   cases Option.elim (asV w) false isNone<;>rfl⟩
abbrev NX(x:X):Prop:=NP (fun {γ}=>ck C (γ:=γ) x)
abbrev NXs(l:List X):Prop:=NL (fun {γ}=>cks C (γ:=γ) l)
noncomputable def NI(i:It):Prop:=∀{γ δ:Type} (k:W→List V→St→R γ) (f:Kt γ δ) (st:St),bR (cit C i k st) f=cit C i (fun w l st=>bR (k w l st) f) st
theorem NL.cons{x:X}{r:List X}(h:NX C x)(hr:NXs C r):NXs C (x::r) where
 v:=h.v.bind fun a=>hr.v.bind fun b=>.ret _
 t i:=by
  cases i with
  |false=>exact h.t.bind fun b=>.ite (.ret _) (hr.t _)
  |true=>exact h.t.bind fun b=>.ite (hr.t _) (.ret _)
 b i:=by
  cases r with
  |nil=>exact h.v
  |cons y r=>
   cases i with
   |false=>exact h.v.bind fun w=>.opt fun b=>.ite (.ret _) (hr.b false)
   |true=>exact h.v.bind fun w=>.opt fun b=>.ite (hr.b true) (.ret _)
theorem NI.bind{α:Type}{i:It}(h:NI C i){n:W→List V→Km α}(k:∀w l,Nt (n w l)):Nt (fun κ=>cit C i fun w l=>n w l κ):=⟨fun κ f st=>(h _ f st).trans (congrArg (fun g=>cit C i g st) (funext fun a=>funext fun b=>funext fun st=>(k a b).h κ f st))⟩
theorem nat_ix{e:X}(h:NX C e):NI C (.x e):=fun k f st=>(h.v.h _ f st).trans (congrArg (fun g=>(ck C e).1 g st) (funext fun w=>funext fun st=>bindR_assoc ..))
theorem nat_ir{l:List X}(h:NXs C l):NI C (.rng l):=fun k f st=>(h.v.bind fun _=>.optL:Nt fun κ=>foldVsK (cks C l) fun ws=>oK (rngW ws) κ).h (k (.v .none)) f st
theorem nat_ie{e:X}(h:NX C e):NI C (.enum e):=fun k f st=>(h.v.bind fun _=>.opt fun l=>.ret _:Nt fun κ=>(ck C e).1 fun w=>oK (asList w) fun l=>κ (enumFrom 0 l)).h (k (.v .none)) f st
theorem nat_x:∀x,NX C x:=X.rec (motive_1:=NX C) (motive_2:=fun i=>NI C i) (motive_3:=NXs C)
 (.pl (.ret _)) (fun _=>.pl (.ret _)) (fun _=>.pl (.ret _)) (fun _=>.pl (.ret _)) (fun _=>.pl .optL) (fun _=>.pl .optL) (fun _ h=>⟨h.b true,h.t true⟩) (fun _ h=>⟨h.b false,h.t false⟩)
 (fun _ h=>⟨h.v.bind fun _=>.opt fun _=>.ret _,h.t.bind fun _=>.ret _⟩) (fun _ _ _ h i j=>⟨h.t.bind fun _=>.ite i.v j.v,h.t.bind fun _=>.ite i.t j.t⟩)
 (fun _ _ _ h i=>.pl (h.v.bind fun _=>i.v.bind fun _=>.optL)) (fun _ h=>.pl (h.v.bind fun _=>.opt fun _=>.ret _))
 (fun _ _ _ h i=>⟨h.v.bind fun _=>i.v.bind fun _=>.opt fun _=>.ret _,h.v.bind fun _=>i.v.bind fun _=>.optL⟩)
 (fun _ _ _ _ _ h i j=>⟨h.v.bind fun _=>i.v.bind fun _=>.opt fun _=>.ite (j.v.bind fun _=>.opt fun _=>.ret _) (.ret _),h.v.bind fun _=>i.v.bind fun _=>.opt fun _=>.ite (j.v.bind fun _=>.optL) (.ret _)⟩)
 (fun _ _ h=>.pl (h.v.bind fun _=>.call)) (fun _ _ h=>.pl (h.v.bind fun _=>.new C)) (fun _ _ h i=>.pl (h.v.bind fun x=>i.v.bind fun y=>(.optL:Nt fun κ st=>oK (excW [x,y]) κ st)))
 (fun _ _ _ h i=>.pl (h.v.bind fun _=>.opt fun _=>i.v.bind fun _=>.call)) (fun _ _ h i=>.pl (h.v.bind fun _=>.opt fun _=>i.v.bind fun _=>.opt fun _=>.bndL))
 (fun _ _ h i=>.pl (h.v.bind fun _=>.opt fun _=>i.v.bind fun _=>.opt fun _=>.optL)) (fun _ _ h i=>.pl (h.v.bind fun _=>.opt fun _=>i.v.bind fun _=>.bndL)) (fun _ _ h=>.pl (h.v.bind fun _=>.optL))
 (fun _ _ h i=>.pl (h.v.bind fun _=>i.v.bind fun _=>.opt fun _=>.optL)) (fun _ _ h i=>.pl (h.v.bind fun _=>i.v.bind fun _=>.opt fun _=>.optL)) (fun _ _ h i=>.pl (h.v.bind fun _=>i.v.bind fun _=>.opt fun _=>.optL))
 (fun _ _ _ h i j=>.pl (h.v.bind fun _=>i.v.bind fun _=>.opt fun _=>j.v.bind fun _=>.opt fun _=>.optL))
 (fun _ h=>.pl (h.v.bind fun _=>(Nt.fr _).bind fun _=>.ret _)) (fun mu _ h=>.pl (h.v.bind fun _=>(Nt.fr _).bind fun _=>match mu with | false=>.ret _ | true=>.retS))
 (fun _ h=>.pl (h.v.bind fun _=>.optL)) (fun _ h=>.pl (h.v.bind fun _=>.opt fun _=>.optL)) (fun _ h=>.pl (h.v.bind fun _=>.opt fun _=>.optL)) (fun _ h=>.pl (h.v.bind fun _=>.opt fun _=>.ret _))
 (fun _ h=>.pl (h.v.bind fun _=>.opt fun _=>.optL)) (fun _ h=>.pl (h.v.bind fun _=>.opt fun _=>.ret _)) (fun _ h=>.pl (h.v.bind fun _=>.opt fun _=>.opt fun _=>.ret _))
 (fun _ _ _ _ _ _ h _ _=>.pl (NI.bind C h fun _ _=>.wi fun _=>.bnd fun _=>.optL)) (fun _ h=>.pl (NI.bind C h fun _ _=>.opt fun _=>.bnd fun _=>.optL))
 (fun _ h=>nat_ix C h) (fun _ h=>nat_ir C h) (fun _ h=>nat_ie C h)
 ⟨.ret _,fun _=>.ret _,fun _=>.none⟩ (fun _ _ h i=>.cons C h i)
theorem nat_xs:∀l,NXs C l:=List.rec ⟨.ret _,fun _=>.ret _,fun _=>.none⟩ fun x _ h=>.cons C (nat_x C x) h
theorem nat_i(i:It):NI C i:=match i with
 |.x e=>nat_ix C (nat_x C e)
 |.rng l=>nat_ir C (nat_xs C l)
 |.enum e=>nat_ie C (nat_x C e)
theorem nat_ss:∀b:List S,Nt (fun κ=>bk C b κ):=S.rec_1 (motive_1:=fun s=>Nt (fun κ=>sk C s κ)) (motive_2:=fun b=>Nt (fun κ=>bk C b κ))
 (fun e=>(nat_x C e).v.bind fun _=>.ret _) (fun _ e=>(nat_x C e).v.bind fun _=>.retS) (fun _ e=>(nat_x C e).v.bind fun _=>.opt fun _=>.bnd fun _=>.ret _)
 (fun _ _ a b=>(nat_x C a).v.bind fun _=>(nat_x C b).v.bind fun _=>.retS) (fun o _ e=>(nat_x C e).v.bind fun _=>(nat_x C o).v.bind fun _=>.bnd fun _=>.ret _)
 (fun o i e=>(nat_x C e).v.bind fun _=>.opt fun _=>(nat_x C o).v.bind fun _=>(nat_x C i).v.bind fun _=>.bnd fun _=>.ret _)
 (fun c _ _ h i=>(nat_x C c).t.bind fun _=>.ite h i) (fun _ _ _=>.bndL) (fun _ _ it _ _=>NI.bind C (nat_i C it) fun _ _=>.bnd fun _=>.bnd fun _=>.ret _)
 (fun e=>(nat_x C e).v.bind fun _=>.ret _) (fun e=>(nat_x C e).v.bind fun w=>⟨fun _ f st=>by cases h:asExc w<;>rfl⟩) (fun _ _ _ _=>.bndL)
 (.ret _) (fun _ _ h i=>h.bind fun fl=>match fl with | .next=>i | .ret _=>.ret _)
end
end
section
section
variable(C:CallT)
noncomputable def Wh(c:X)(b:List S)(st:St):R Flow:=whileM ((ck C c).2 retK) (bk C b retK) st
noncomputable def Fo(pat:List Nat)(one:Bool)(b:List S)(l:List V)(st:St):R Flow:=forR (fun x st=>bR (bindPat pat one x st) fun o0=>bk C b retK) l st
noncomputable def Co(pat:List Nat)(one:Bool)(c e:X)(l:List V)(st:St):R (List V):=coll (coK pat one (ck C c).2 (ck C e).1) l st
end
section
variable{α γ:Type}(C:CallT)
noncomputable def ek(x:X)(k:Kt W γ)(st:St):R γ:=(ck C x).1 k st
noncomputable def tk(x:X)(k:Kt Bool γ)(st:St):R γ:=(ck C x).2 k st
noncomputable def eks(l:List X)(k:Kt (List W) γ)(st:St):R γ:=foldVsK (cks C l) k st
noncomputable def tks(a:Bool)(l:List X)(k:Kt Bool γ)(st:St):R γ:=foldTBK a (cks C l) k st
noncomputable def ebs(a:Bool)(l:List X)(k:Kt W γ)(st:St):R γ:=foldBK a (cks C l) k st
noncomputable def B(l:List S)(k:Kt Flow γ)(st:St):R γ:=bk C l k st
variable(k:Kt W γ)(kb:Kt Bool γ)(st:St)
theorem optK_some(a:α)(k:Kt α γ):oK (some a) k st=k a st:=rfl
theorem bindR_ok(a:α)(k:Kt α γ):bR (some (.ok a,st)) k=k a st:=rfl
theorem ifK_t(x y:St→R γ):ifK true x y st=x st:=rfl
theorem ifK_f(x y:St→R γ):ifK false x y st=y st:=rfl
theorem ifK_nt(x y:St→R γ):ifK (!false) x y st=x st:=rfl
theorem ifK_nf(x y:St→R γ):ifK (!true) x y st=y st:=rfl
theorem callK_ok(a:W)(m:List AO)(loc:List (Option W)):callK (some (.ok a,m)) loc k=k a ⟨loc,m⟩:=rfl
noncomputable def kTru(kb:Kt Bool γ)(w:W)(st:St):R γ:=oK (truthyW w) kb st
theorem ek_none:ek C .none k st=k (.v .none) st:=rfl
theorem ek_bool(b):ek C (.bool b) k st=k (.v (.bool b)) st:=rfl
theorem ek_int(b):ek C (.int b) k st=k (.v (.int b)) st:=rfl
theorem ek_str(b):ek C (.str b) k st=k (.v (.str b)) st:=rfl
theorem ek_loc(i):ek C (.loc i) k st=oK (st.loc[i]?).join k st:=rfl
theorem ek_glob(i):ek C (.glob i) k st=oK (globs[i]?.map .v) k st:=rfl
theorem ek_and(l):ek C (.and l) k st=ebs C true l k st:=rfl
theorem ek_or(l):ek C (.or l) k st=ebs C false l k st:=rfl
noncomputable def kEq(w:W)(st:St):R γ:=k w st
noncomputable def kAnd2(r:List X)(k:Kt W γ)(w:W)(b:Bool)(st:St):R γ:=ifK b (ebs C true r k) (k w) st
noncomputable def kAnd1(r:List X)(k:Kt W γ)(w:W)(st:St):R γ:=oK (truthyW w) (kAnd2 C r k w) st
noncomputable def kOr2(r:List X)(k:Kt W γ)(w:W)(b:Bool)(st:St):R γ:=ifK b (k w) (ebs C false r k) st
noncomputable def kOr1(r:List X)(k:Kt W γ)(w:W)(st:St):R γ:=oK (truthyW w) (kOr2 C r k w) st
theorem ebs_one(a x):ebs C a [x] k st=ek C x k st:=rfl
theorem ebs_and(x y r):ebs C true (x::y::r) k st=ek C x (kAnd1 C (y::r) k) st:=rfl
theorem ebs_or(x y r):ebs C false (x::y::r) k st=ek C x (kOr1 C (y::r) k) st:=rfl
noncomputable def kTAnd(r:List X)(kb:Kt Bool γ)(b:Bool)(st:St):R γ:=ifK b (tks C true r kb) (kb false) st
noncomputable def kTOr(r:List X)(kb:Kt Bool γ)(b:Bool)(st:St):R γ:=ifK b (kb true) (tks C false r kb) st
theorem tk_and(l):tk C (.and l) kb st=tks C true l kb st:=rfl
theorem tk_or(l):tk C (.or l) kb st=tks C false l kb st:=rfl
theorem tks_nil(a):tks C a [] kb st=kb a st:=rfl
theorem tks_and(x r):tks C true (x::r) kb st=tk C x (kTAnd C r kb) st:=rfl
theorem tks_or(x r):tks C false (x::r) kb st=tk C x (kTOr C r kb) st:=rfl
noncomputable def kNot2(b:Bool)(st:St):R γ:=k (.v (.bool !b)) st
noncomputable def kNot1(w:W)(st:St):R γ:=oK (truthyW w) (kNot2 k) st
theorem ek_not(a):ek C (.not a) k st=ek C a (kNot1 k) st:=rfl
noncomputable def kTNot(b:Bool)(st:St):R γ:=kb (!b) st
theorem tk_not(a):tk C (.not a) kb st=tk C a (kTNot kb) st:=rfl
noncomputable def kIte(a b:X)(k:Kt W γ)(t:Bool)(st:St):R γ:=ifK t (ek C a k) (ek C b k) st
theorem ek_ite(c a b):ek C (.ite c a b) k st=tk C c (kIte C a b k) st:=rfl
noncomputable def kTIte(a b:X)(kb:Kt Bool γ)(t:Bool)(st:St):R γ:=ifK t (tk C a kb) (tk C b kb) st
theorem tk_ite(c a b):tk C (.ite c a b) kb st=tk C c (kTIte C a b kb) st:=rfl
noncomputable def kBin2(o:Op)(x:W)(y:W)(st:St):R γ:=oK (bin2 o st.mem x y) k st
noncomputable def kBin1(o:Op)(b:X)(k:Kt W γ)(x:W)(st:St):R γ:=ek C b (kBin2 k o x) st
theorem ek_bin(o a b):ek C (.bin o a b) k st=ek C a (kBin1 C o b k) st:=rfl
noncomputable def kNeg2(i:Int)(st:St):R γ:=k (.v (.int (-i))) st
noncomputable def kNeg1(w:W)(st:St):R γ:=oK (asInt w) (kNeg2 k) st
theorem ek_neg(a):ek C (.neg a) k st=ek C a (kNeg1 k) st:=rfl
noncomputable def kBoolW(r:Bool)(st:St):R γ:=k (.v (.bool r)) st
noncomputable def kCmp2(o:Cmp)(x y:W)(st:St):R γ:=oK (cmpW o st.mem x y) (kBoolW k) st
noncomputable def kCmp1(o:Cmp)(b:X)(k:Kt W γ)(x:W)(st:St):R γ:=ek C b (kCmp2 k o x) st
theorem ek_cmp(o a b):ek C (.cmp o a b) k st=ek C a (kCmp1 C o b k) st:=rfl
noncomputable def kTCmp2(o:Cmp)(x y:W)(st:St):R γ:=oK (cmpW o st.mem x y) kb st
noncomputable def kTCmp1(o:Cmp)(b:X)(kb:Kt Bool γ)(x:W)(st:St):R γ:=ek C b (kTCmp2 kb o x) st
theorem tk_cmp(o a b):tk C (.cmp o a b) kb st=ek C a (kTCmp1 C o b kb) st:=rfl
noncomputable def kCh3(o':Cmp)(c:X)(kb:Kt Bool γ)(y:W)(r:Bool)(st:St):R γ:=ifK r (ek C c (kTCmp2 kb o' y)) (kb false) st
noncomputable def kCh2(o o':Cmp)(c:X)(kb:Kt Bool γ)(x y:W)(st:St):R γ:=oK (cmpW o st.mem x y) (kCh3 C o' c kb y) st
noncomputable def kCh1(o:Cmp)(b:X)(o':Cmp)(c:X)(kb:Kt Bool γ)(x:W)(st:St):R γ:=ek C b (kCh2 C o o' c kb x) st
theorem tk_chain(a o b o' c):tk C (.chain a o b o' c) kb st=ek C a (kCh1 C o b o' c kb) st:=rfl
noncomputable def kEs2(kl:Kt (List W) γ)(a:W)(b:List W)(st:St):R γ:=kl (a::b) st
noncomputable def kEs1(r:List X)(kl:Kt (List W) γ)(a:W)(st:St):R γ:=eks C r (kEs2 kl a) st
theorem eks_nil(kl:Kt (List W) γ):eks C [] kl st=kl [] st:=rfl
theorem eks_cons(x r)(kl:Kt (List W) γ):eks C (x::r) kl st=ek C x (kEs1 C r kl) st:=rfl
noncomputable def kCall(f:Nat)(k:Kt W γ)(ws:List W)(st:St):R γ:=callK (C f ws st.mem) st.loc k
theorem ek_call(f l):ek C (.call f l) k st=eks C l (kCall C f k) st:=rfl
theorem tk_call(f l):tk C (.call f l) kb st=eks C l (kCall C f (kTru kb)) st:=rfl
noncomputable def kNew(c:Nat)(k:Kt W γ)(ws:List W)(st:St):R γ:=newK C c ws k st
theorem ek_new(c l):ek C (.new c l) k st=eks C l (kNew C c k) st:=rfl
noncomputable def kEx(ws:List W)(st:St):R γ:=oK (excW ws) k st
theorem ek_newExc(a b):ek C (.newExc a b) k st=eks C [a,b] (kEx k) st:=rfl
noncomputable def kMe3(f:Nat)(k:Kt W γ)(ov:W)(ws:List W)(st:St):R γ:=callK (C f (ov::ws) st.mem) st.loc k
noncomputable def kMe2(l:List X)(k:Kt W γ)(ov:W)(f:Nat)(st:St):R γ:=eks C l (kMe3 C f k ov) st
noncomputable def kMe1(m:Nat)(l:List X)(k:Kt W γ)(ov:W)(st:St):R γ:=oK (methO st.mem ov m) (kMe2 C l k ov) st
theorem ek_meth(m o l):ek C (.meth m o l) k st=ek C o (kMe1 C m l k) st:=rfl
theorem tk_meth(m o l):tk C (.meth m o l) kb st=ek C o (kMe1 C m l (kTru kb)) st:=rfl
noncomputable def kAp4(ov:W)(v:V)(st:St):R γ:=bR (appendM ov v st) k
noncomputable def kAp3(ov w:W)(st:St):R γ:=oK (asV w) (kAp4 k ov) st
noncomputable def kAp2(x:X)(k:Kt W γ)(ov:W)(_:List V)(st:St):R γ:=ek C x (kAp3 k ov) st
noncomputable def kAp1(x:X)(k:Kt W γ)(ov:W)(st:St):R γ:=oK (asL st.mem ov) (kAp2 C x k ov) st
theorem ek_append(o x):ek C (.append o x) k st=ek C o (kAp1 C x k) st:=rfl
noncomputable def kJo4(s:List Nat)(l:List V)(st:St):R γ:=oK (joinO s l) k st
noncomputable def kJo3(s:List Nat)(w:W)(st:St):R γ:=oK (asList w) (kJo4 k s) st
noncomputable def kJo2(x:X)(k:Kt W γ)(s:List Nat)(st:St):R γ:=ek C x (kJo3 k s) st
noncomputable def kJo1(x:X)(k:Kt W γ)(w:W)(st:St):R γ:=oK (asStr w) (kJo2 C x k) st
theorem ek_join(o x):ek C (.join o x) k st=ek C o (kJo1 C x k) st:=rfl
noncomputable def kIx3(ov:W)(ws:List W)(st:St):R γ:=bR (indexM ov ws st) k
noncomputable def kIx2(l:List X)(k:Kt W γ)(ov:W)(_:List V)(st:St):R γ:=eks C l (kIx3 k ov) st
noncomputable def kIx1(l:List X)(k:Kt W γ)(ov:W)(st:St):R γ:=oK (asL st.mem ov) (kIx2 C l k ov) st
theorem ek_index(o l):ek C (.index o l) k st=ek C o (kIx1 C l k) st:=rfl
noncomputable def kAtt(f:Nat)(ov:W)(st:St):R γ:=oK (getF prog st.mem ov f) k st
theorem ek_attr(o f):ek C (.attr o f) k st=ek C o (kAtt k f) st:=rfl
noncomputable def kSu3(ov:W)(iv:V)(st:St):R γ:=oK (subO st.mem ov iv) k st
noncomputable def kSu2(ov w:W)(st:St):R γ:=oK (asV w) (kSu3 k ov) st
noncomputable def kSu1(i:X)(k:Kt W γ)(ov:W)(st:St):R γ:=ek C i (kSu2 k ov) st
theorem ek_sub(o i):ek C (.sub o i) k st=ek C o (kSu1 C i k) st:=rfl
theorem tk_sub(o i):tk C (.sub o i) kb st=ek C o (kSu1 C i (kTru kb)) st:=rfl
noncomputable def kTo3(ov:W)(iv:V)(st:St):R γ:=oK (sliceO st.mem ov none (some iv)) k st
noncomputable def kTo2(ov w:W)(st:St):R γ:=oK (asV w) (kTo3 k ov) st
noncomputable def kTo1(i:X)(k:Kt W γ)(ov:W)(st:St):R γ:=ek C i (kTo2 k ov) st
theorem ek_to(o i):ek C (.sliceTo o i) k st=ek C o (kTo1 C i k) st:=rfl
noncomputable def kFr3(ov:W)(iv:V)(st:St):R γ:=oK (sliceO st.mem ov (some iv) none) k st
noncomputable def kFr2(ov w:W)(st:St):R γ:=oK (asV w) (kFr3 k ov) st
noncomputable def kFr1(i:X)(k:Kt W γ)(ov:W)(st:St):R γ:=ek C i (kFr2 k ov) st
theorem ek_from(o i):ek C (.sliceFrom o i) k st=ek C o (kFr1 C i k) st:=rfl
noncomputable def kSl5(ov:W)(a b:V)(st:St):R γ:=oK (sliceO st.mem ov (some a) (some b)) k st
noncomputable def kSl4(ov:W)(a:V)(w:W)(st:St):R γ:=oK (asV w) (kSl5 k ov a) st
noncomputable def kSl3(j:X)(k:Kt W γ)(ov:W)(a:V)(st:St):R γ:=ek C j (kSl4 k ov a) st
noncomputable def kSl2(j:X)(k:Kt W γ)(ov w:W)(st:St):R γ:=oK (asV w) (kSl3 C j k ov) st
noncomputable def kSl1(i j:X)(k:Kt W γ)(ov:W)(st:St):R γ:=ek C i (kSl2 C j k ov) st
theorem ek_slice(o i j):ek C (.slice o i j) k st=ek C o (kSl1 C i j k) st:=rfl
noncomputable def kF(x:V)(kl:Kt (List V) γ)(xs:List V)(st:St):R γ:=kl (x::xs) st
noncomputable def kFd(i:Nat)(r:List W)(kl:Kt (List V) γ)(l:List V)(st:St):R γ:=frK r (kF (.list l) kl) ⟨st.loc,st.mem.set i .dead⟩
theorem fr_nil(kl:Kt (List V) γ):frK [] kl st=kl [] st:=rfl
theorem fr_v(x r)(kl:Kt (List V) γ):frK (.v x::r) kl st=frK r (kF x kl) st:=rfl
theorem fr_l(i r)(kl:Kt (List V) γ):frK (.l i::r) kl st=oK (aoL st.mem[i]?) (kFd i r kl) st:=rfl
noncomputable def kTu2(xs:List V)(st:St):R γ:=k (.v (.tup xs)) st
noncomputable def kTu1(ws:List W)(st:St):R γ:=frK ws (kTu2 k) st
theorem ek_tup(l):ek C (.tup l) k st=eks C l (kTu1 k) st:=rfl
noncomputable def kLi2(mu:Bool)(xs:List V)(st:St):R γ:=match mu with
 |true=>k (.l st.mem.length) ⟨st.loc,st.mem++[.list xs]⟩
 |false=>k (.v (.list xs)) st
theorem kLi_t(xs):kLi2 k true xs st=k (.l st.mem.length) ⟨st.loc,st.mem++[.list xs]⟩:=rfl
theorem kLi_f(xs):kLi2 k false xs st=k (.v (.list xs)) st:=rfl
noncomputable def kLi1(mu:Bool)(ws:List W)(st:St):R γ:=frK ws (kLi2 k mu) st
theorem ek_list_t(l):ek C (.list true l) k st=eks C l (kLi1 k true) st:=rfl
theorem ek_list_f(l):ek C (.list false l) k st=eks C l (kLi1 k false) st:=rfl
noncomputable def kLen(w:W)(st:St):R γ:=oK (lenO st.mem w) k st
theorem ek_len(a):ek C (.len a) k st=ek C a (kLen k) st:=rfl
noncomputable def kTi2(x:V)(st:St):R γ:=oK ((toIntV x).map .v) k st
noncomputable def kTi1(w:W)(st:St):R γ:=oK (asV w) (kTi2 k) st
theorem ek_toInt(a):ek C (.toInt a) k st=ek C a (kTi1 k) st:=rfl
noncomputable def kTs2(x:V)(st:St):R γ:=oK ((toStrV x).map .v) k st
noncomputable def kTs1(w:W)(st:St):R γ:=oK (asV w) (kTs2 k) st
theorem ek_toStr(a):ek C (.toStr a) k st=ek C a (kTs1 k) st:=rfl
noncomputable def kAb2(i:Int)(st:St):R γ:=k (.v (.int (if i < 0 then -i else i))) st
noncomputable def kAb1(w:W)(st:St):R γ:=oK (asInt w) (kAb2 k) st
theorem ek_abs(a):ek C (.abs a) k st=ek C a (kAb1 k) st:=rfl
noncomputable def kSm2(l:List V)(st:St):R γ:=oK ((sumV l).map fun i=>W.v (.int i)) k st
noncomputable def kSm1(w:W)(st:St):R γ:=oK (asList w) (kSm2 k) st
theorem ek_sum(a):ek C (.sum a) k st=ek C a (kSm1 k) st:=rfl
noncomputable def kTp2(l:List V)(st:St):R γ:=k (.v (.tup l)) st
noncomputable def kTp1(w:W)(st:St):R γ:=oK (asL st.mem w) (kTp2 k) st
theorem ek_tuple(a):ek C (.tuple a) k st=ek C a (kTp1 k) st:=rfl
noncomputable def kIs2(x:V)(st:St):R γ:=oK (isIntV x) (kBoolW k) st
noncomputable def kIs1(w:W)(st:St):R γ:=oK (asV w) (kIs2 k) st
theorem ek_isInt(a):ek C (.isInt a) k st=ek C a (kIs1 k) st:=rfl
theorem tk_isInt(a):tk C (.isInt a) kb st=ek C a (kIs1 (kTru kb)) st:=rfl
theorem tk_bool(b):tk C (.bool b) kb st=kb b st:=rfl
theorem tk_loc(i):tk C (.loc i) kb st=ek C (.loc i) (kTru kb) st:=rfl
noncomputable def itK(i:It)(kl:W→List V→St→R γ)(st:St):R γ:=cit C i kl st
noncomputable def kIt1(kl:W→List V→St→R γ)(w:W)(st:St):R γ:=bR (openIt w st) (kl w)
noncomputable def kRg(kl:W→List V→St→R γ)(ws:List W)(st:St):R γ:=oK (rngW ws) (kl (.v .none)) st
noncomputable def kEn2(kl:W→List V→St→R γ)(l:List V)(st:St):R γ:=kl (.v .none) (enumFrom 0 l) st
noncomputable def kEn1(kl:W→List V→St→R γ)(w:W)(st:St):R γ:=oK (asList w) (kEn2 kl) st
theorem it_x(e)(kl:W→List V→St→R γ):itK C (.x e) kl st=ek C e (kIt1 kl) st:=rfl
theorem it_rng(l)(kl:W→List V→St→R γ):itK C (.rng l) kl st=eks C l (kRg kl) st:=rfl
theorem it_enum(e)(kl:W→List V→St→R γ):itK C (.enum e) kl st=ek C e (kEn1 kl) st:=rfl
noncomputable def kCp3(k:Kt W γ)(r:List V)(_:Unit)(st:St):R γ:=oK (compO r) k st
noncomputable def kCp2(k:Kt W γ)(w:W)(l r:List V)(st:St):R γ:=bR (shutIt w l st) (kCp3 k r)
noncomputable def kCp1(slots:List (Option Nat))(pat:List Nat)(one:Bool)(c e:X)(k:Kt W γ)(w:W)(l:List V)(st:St):R γ:=wiK (Co C pat one c e l ⟨subLoc slots st.loc,st.mem⟩) st.loc (kCp2 k w l)
theorem ek_comp(slots pat one it c e):ek C (.comp slots pat one it c e) k st=itK C it (kCp1 C slots pat one c e k) st:=rfl
noncomputable def kFl1(k:Kt W γ)(w:W)(l:List V)(st:St):R γ:=oK (flatO l) (kCp2 k w l) st
theorem ek_flat(it):ek C (.flat it) k st=itK C it (kFl1 k) st:=rfl
variable(kf:Kt Flow γ)(r:List S)
theorem B_nil:B C [] kf st=kf .next st:=rfl
noncomputable def kSeq(r:List S)(kf:Kt Flow γ)(fl:Flow)(st:St):R γ:=(Flow.casesOn fl (bk C r kf) (fun w=>kf (.ret w)):St→R γ) st
theorem kSeq_n:kSeq C r kf .next st=B C r kf st:=rfl
theorem kSeq_r(w):kSeq C r kf (.ret w) st=kf (.ret w) st:=rfl
noncomputable def kNx{α:Type}(r:List S)(kf:Kt Flow γ)(_:α)(st:St):R γ:=B C r kf st
theorem B_expr(e):B C (.expr e::r) kf st=ek C e (kNx C r kf) st:=rfl
noncomputable def kSet(i:Nat)(r:List S)(kf:Kt Flow γ)(w:W)(st:St):R γ:=B C r kf ⟨st.loc.set i (some w),st.mem⟩
theorem B_assign(i e):B C (.assign i e::r) kf st=ek C e (kSet C i r kf) st:=rfl
noncomputable def kUn2(is:List Nat)(r:List S)(kf:Kt Flow γ)(x:V)(st:St):R γ:=bR (bindPat is false x st) (kNx C r kf)
noncomputable def kUn1(is:List Nat)(r:List S)(kf:Kt Flow γ)(w:W)(st:St):R γ:=oK (asV w) (kUn2 C is r kf) st
theorem B_unpack(is e):B C (.unpack is e::r) kf st=ek C e (kUn1 C is r kf) st:=rfl
noncomputable def kAs2(i j:Nat)(r:List S)(kf:Kt Flow γ)(x y:W)(st:St):R γ:=B C r kf ⟨(st.loc.set i (some x)).set j (some y),st.mem⟩
noncomputable def kAs1(i j:Nat)(b:X)(r:List S)(kf:Kt Flow γ)(x:W)(st:St):R γ:=ek C b (kAs2 C i j r kf x) st
theorem B_assign2(i j a b):B C (.assign2 i j a b::r) kf st=ek C a (kAs1 C i j b r kf) st:=rfl
noncomputable def kSa2(f:Nat)(r:List S)(kf:Kt Flow γ)(w ov:W)(st:St):R γ:=bR (setattrM prog ov f w st) (kNx C r kf)
noncomputable def kSa1(o:X)(f:Nat)(r:List S)(kf:Kt Flow γ)(w:W)(st:St):R γ:=ek C o (kSa2 C f r kf w) st
theorem B_setattr(o f e):B C (.setattr o f e::r) kf st=ek C e (kSa1 C o f r kf) st:=rfl
noncomputable def kSi4(r:List S)(kf:Kt Flow γ)(x:V)(ov iv:W)(st:St):R γ:=bR (setitemM ov iv x st) (kNx C r kf)
noncomputable def kSi3(i:X)(r:List S)(kf:Kt Flow γ)(x:V)(ov:W)(st:St):R γ:=ek C i (kSi4 C r kf x ov) st
noncomputable def kSi2(o i:X)(r:List S)(kf:Kt Flow γ)(x:V)(st:St):R γ:=ek C o (kSi3 C i r kf x) st
noncomputable def kSi1(o i:X)(r:List S)(kf:Kt Flow γ)(w:W)(st:St):R γ:=oK (asV w) (kSi2 C o i r kf) st
theorem B_setitem(o i e):B C (.setitem o i e::r) kf st=ek C e (kSi1 C o i r kf) st:=rfl
noncomputable def kIf(a b:List S)(r:List S)(kf:Kt Flow γ)(t:Bool)(st:St):R γ:=ifK t (B C a (kSeq C r kf)) (B C b (kSeq C r kf)) st
theorem B_ite(c a b):B C (.ite c a b::r) kf st=tk C c (kIf C a b r kf) st:=rfl
theorem B_while(c b):B C (.while_ c b::r) kf st=bR (Wh C c b st) (kSeq C r kf):=rfl
noncomputable def kFo3(r:List S)(kf:Kt Flow γ)(fl:Flow)(_:Unit)(st:St):R γ:=kSeq C r kf fl st
noncomputable def kFo2(r:List S)(kf:Kt Flow γ)(w:W)(l:List V)(fl:Flow)(st:St):R γ:=bR (shutIt w l st) (kFo3 C r kf fl)
noncomputable def kFo1(pat:List Nat)(one:Bool)(b:List S)(r:List S)(kf:Kt Flow γ)(w:W)(l:List V)(st:St):R γ:=bR (Fo C pat one b l st) (kFo2 C r kf w l)
theorem B_for(pat one it b):B C (.for_ pat one it b::r) kf st=itK C it (kFo1 C pat one b r kf) st:=rfl
noncomputable def kRet(kf:Kt Flow γ)(w:W)(st:St):R γ:=kf (.ret w) st
theorem B_ret(e):B C (.ret e::r) kf st=ek C e (kRet kf) st:=rfl
noncomputable def kRai(w:W)(st:St):R γ:=oK (asExc w) (fun a st=>some (.error (.exc a),st)) st
theorem kRai_run(a):kRai (γ:=γ) (.v (.exc a)) st=some (.error (.exc a),st):=rfl
theorem B_raise(e):B C (.raise e::r) kf st=ek C e kRai st:=rfl
theorem B_try(b f s):B C (.tryAt b f s::r) kf st=bR (tryR (B C b retK st) f s) (kSeq C r kf):=rfl
end
section
variable(C:CallT)
noncomputable def kEnd(fl:Flow)(st:St):R Flow:=some (.ok fl,st)
theorem kEnd_n(st):kEnd .next st=some (.ok .next,st):=rfl
theorem kEnd_r(w st):kEnd (.ret w) st=some (.ok (.ret w),st):=rfl
theorem nat_t{γ δ:Type}{x:X}{k:Kt Bool γ}{f:Kt γ δ}{st:St}:bR (tk C x k st) f=tk C x (fun b st=>bR (k b st) f) st:=(nat_x C x).t.h k f st
theorem nat_e{γ δ:Type}{x:X}{k:Kt W γ}{f:Kt γ δ}{st:St}:bR (ek C x k st) f=ek C x (fun b st=>bR (k b st) f) st:=(nat_x C x).v.h k f st
theorem nat_B{γ δ:Type}{x:List S}{k:Kt Flow γ}{f:Kt γ δ}{st:St}:bR (B C x k st) f=B C x (fun b st=>bR (k b st) f) st:=(nat_ss C x).h k f st
noncomputable def kWh2(c:X)(b:List S)(fl:Flow)(st:St):R Flow:=match fl with | .next=>Wh C c b st | fl=>some (.ok fl,st)
theorem kWh2_n(c b st):kWh2 C c b .next st=Wh C c b st:=rfl
theorem kWh2_r(c b w st):kWh2 C c b (.ret w) st=some (.ok (.ret w),st):=rfl
noncomputable def kStop(st:St):R Flow:=some (.ok .next,st)
noncomputable def kWh1(c:X)(b:List S)(t:Bool)(st:St):R Flow:=ifK t (B C b (kWh2 C c b)) kStop st
theorem Wh_step(c b st):Wh C c b st=tk C c (kWh1 C c b) st:=by
 unfold Wh
 refine Eq.trans ?_ (nat_t C (k:=retK) (f:=kWh1 C c b) (x:=c))
 rw[whileM]
 show _=bR ((ck C c).2 retK st) (kWh1 C c b)
 rcases(ck C c).2 retK st with _ | ⟨_ | t,st'⟩
 ·rfl
 ·rfl
 ·cases t
  ·rfl
  ·refine Eq.trans ?_ (nat_B C (k:=retK) (f:=kWh2 C c b) (x:=b))
   show _=bR (bk C b retK st') (kWh2 C c b)
   dsimp only
   rcases bk C b retK st' with _ | ⟨_ | fl,st''⟩
   ·rfl
   ·rfl
   ·cases fl<;>rfl
theorem Fo_nil(pat one b st):Fo C pat one b [] st=some (.ok .next,st):=rfl
noncomputable def kFoN(pat:List Nat)(one:Bool)(b:List S)(r:List V)(fl:Flow)(st:St):R Flow:=match fl with | .next=>Fo C pat one b r st | fl=>some (.ok fl,st)
theorem kFoN_n(pat one b r st):kFoN C pat one b r .next st=Fo C pat one b r st:=rfl
theorem kFoN_r(pat one b r w st):kFoN C pat one b r (.ret w) st=some (.ok (.ret w),st):=rfl
noncomputable def kFoB(pat:List Nat)(one:Bool)(b:List S)(r:List V)(_:Unit)(st:St):R Flow:=B C b (kFoN C pat one b r) st
theorem Fo_cons(pat one b x r st):Fo C pat one b (x::r) st=bR (bindPat pat one x st) (kFoB C pat one b r):=by
 show bR (bR (bindPat pat one x st) fun o0=>bk C b retK) _=_
 refine(bindR_assoc ..).trans (congrArg (bR _) (funext fun o0=>funext fun st=>(nat_B C (k:=retK)).trans ?_))
 exact congrArg (fun g=>B C b g st) (funext fun fl=>by cases fl<;>rfl)
noncomputable def kCoA(a b:List V)(st:St):R (List V):=some (.ok (a++b),st)
noncomputable def kCoV(pat:List Nat)(one:Bool)(c e:X)(r:List V)(y:V)(st:St):R (List V):=bR (Co C pat one c e r st) (kCoA [y])
noncomputable def kCoE(pat:List Nat)(one:Bool)(c e:X)(r:List V)(w:W)(st:St):R (List V):=oK (asV w) (kCoV C pat one c e r) st
noncomputable def kCoT(pat:List Nat)(one:Bool)(c e:X)(r:List V)(t:Bool)(st:St):R (List V):=ifK t (ek C e (kCoE C pat one c e r)) (Co C pat one c e r) st
noncomputable def kCo(pat:List Nat)(one:Bool)(c e:X)(r:List V)(_:Unit)(st:St):R (List V):=tk C c (kCoT C pat one c e r) st
theorem Co_nil(pat one c e st):Co C pat one c e [] st=some (.ok [],st):=rfl
theorem bindR_nil(r:R (List V)):bR r (kCoA [])=r:=by rcases r with _ | ⟨_ | _,_⟩<;>rfl
theorem Co_cons(pat one c e x r st):Co C pat one c e (x::r) st=bR (bindPat pat one x st) (kCo C pat one c e r):=by
 refine(bindR_assoc ..).trans (congrArg (bR _) (funext fun o0=>funext fun st=>(nat_t C (x:=c)).trans ?_))
 refine congrArg (fun g=>tk C c g st) (funext fun t=>funext fun st=>?_)
 cases t with
 |false=>exact bindR_nil _
 |true=>
  refine(nat_e C (x:=e)).trans (congrArg (fun g=>ek C e g st) (funext fun w=>funext fun st=>?_))
  show bR (oK (asV w) _ st) _=oK (asV w) _ st
  cases asV w<;>rfl
end
noncomputable def At{γ:Type}(P:R γ→Prop)(r:R γ):Prop:=P r
abbrev Ends(n:Nat)(res:Option (Except V W×List AO))(r:R Flow):Prop:=endR r n=res
theorem call_body(n f:Nat)(args:List W)(mem:List AO)(d:FnDef)(hf:fns[f]?=some d)(ha:args.length=d.np):
  cN prog (n+1) f args mem=endR (B (cN prog n) d.body kEnd ⟨args.map some++List.replicate (d.nl - d.np) none,mem⟩) mem.length:=by
 show(fns[f]?.bind fun d=>if args.length=d.np then endR (bk (cN prog n) d.body retK ⟨args.map some++List.replicate (d.nl - d.np) none,mem⟩) mem.length else none)=_
 rw[hf];exact if_pos ha
theorem rCl{n f:Nat}{args:List W}{mem:List AO}{res}(d:FnDef)(hf:fns[f]?=some d)(ha:args.length=d.np)
  (h:At (Ends mem.length res) (B (cN prog n) d.body kEnd ⟨args.map some++List.replicate (d.nl - d.np) none,mem⟩)):cN prog (n+1) f args mem=res:=(call_body n f args mem d hf ha).trans h
section
variable{α γ:Type}{P:R γ→Prop}{st st':St}
theorem At.opt{o:Option α}{a:α}{k:Kt α γ}(h:o=some a)(hk:At P (k a st)):At P (oK o k st):=by subst h;exact hk
theorem At.call{r:Option (Except V W×List AO)}{a m loc}{k:Kt W γ}(h:r=some (.ok a,m))(hk:At P (k a ⟨loc,m⟩)):At P (callK r loc k):=by subst h;exact hk
theorem At.bnd{r:R α}{a:α}{k:Kt α γ}(h:r=some (.ok a,st))(hk:At P (k a st)):At P (bR r k):=by subst h;exact hk
theorem At.wi{r:R α}{a:α}{loc}{k:Kt α γ}(h:r=some (.ok a,st))(hk:At P (k a ⟨loc,st.mem⟩)):At P (wiK r loc k):=by subst h;exact hk
theorem At.eq{r r':R γ}(h:r=r')(hk:At P r'):At P r:=by subst h;exact hk
theorem At.t{b:Bool}{x y:St→R γ}(h:b=true)(hk:At P (x st)):At P (ifK b x y st):=by subst h;exact hk
theorem At.f{b:Bool}{x y:St→R γ}(h:b=false)(hk:At P (y st)):At P (ifK b x y st):=by subst h;exact hk
theorem At.dt{p:Prop}{_:Decidable p}{x y:St→R γ}(h:p)(hk:At P (x st)):At P (ifK (decide p) x y st):=At.t (decide_eq_true h) hk
theorem At.df{p:Prop}{_:Decidable p}{x y:St→R γ}(h:¬p)(hk:At P (y st)):At P (ifK (decide p) x y st):=At.f (decide_eq_false h) hk
theorem At.nt{b:Bool}{x y:St→R γ}(h:b=false)(hk:At P (x st)):At P (ifK (!b) x y st):=by subst h;exact hk
theorem At.nf{b:Bool}{x y:St→R γ}(h:b=true)(hk:At P (y st)):At P (ifK (!b) x y st):=by subst h;exact hk
theorem At.ndt{p:Prop}{_:Decidable p}{x y:St→R γ}(h:¬p)(hk:At P (x st)):At P (ifK (!decide p) x y st):=At.nt (decide_eq_false h) hk
theorem At.ndf{p:Prop}{_:Decidable p}{x y:St→R γ}(h:p)(hk:At P (y st)):At P (ifK (!decide p) x y st):=At.nf (decide_eq_true h) hk
theorem At.mem{k:St→R γ}{loc m m'}(h:m=m')(hk:At P (k ⟨loc,m'⟩)):At P (k ⟨loc,m⟩):=by subst h;exact hk
theorem At.wh{C:CallT}{c:X}{b:List S}{P:R Flow→Prop}(h:At P (tk C c (kWh1 C c b) st)):At P (Wh C c b st):=by rw[Wh_step];exact h
theorem At.fo{C:CallT}{pat:List Nat}{one:Bool}{b:List S}{x:V}{r:List V}{P:R Flow→Prop}(h:At P (bR (bindPat pat one x st) (kFoB C pat one b r))):At P (Fo C pat one b (x::r) st):=by rw[Fo_cons];exact h
theorem wiK_ok{α:Type}(a:α)(st:St)(loc)(k:Kt α γ):wiK (some (.ok a,st)) loc k=k a ⟨loc,st.mem⟩:=rfl
noncomputable def kPre(a:List V)(k:Kt (List V) γ)(b:List V)(st:St):R γ:=k (a++b) st
theorem At.wiCo{C:CallT}{pat one c e x r loc}{k:Kt (List V) γ}(h:At P (wiK (bR (bindPat pat one x st) (kCo C pat one c e r)) loc k)):At P (wiK (Co C pat one c e (x::r) st) loc k):=by rw[Co_cons];exact h
theorem At.wiA{r:R (List V)}{a loc}{k:Kt (List V) γ}(h:At P (wiK r loc (kPre a k))):At P (wiK (bR r (kCoA a)) loc k):=by rcases r with _ | ⟨_ | _,_⟩<;>exact h
theorem At.wiC{δ:Type}{r:Option (Except V W×List AO)}{a m l loc}{K:Kt W δ}{k:Kt δ γ}(h:r=some (.ok a,m))(hk:At P (wiK (K a ⟨l,m⟩) loc k)):At P (wiK (callK r l K) loc k):=by subst h;exact hk
theorem At.wiO{δ:Type}{o:Option α}{a:α}{K:Kt α δ}{loc}{k:Kt δ γ}(h:o=some a)(hk:At P (wiK (K a st) loc k)):At P (wiK (oK o K st) loc k):=by subst h;exact hk
theorem At.new{C:CallT}{c:Nat}{ws:List W}{k:Kt W γ}{d:ClsDef}{m}(hd:clss[c]?=some d)
  (h:C d.init (.o c st.mem.length::ws) (st.mem++[.obj c (List.replicate d.fields.length none)])=some (.ok (.v .none),m)) (hk:At P (k (.o c st.mem.length) ⟨st.loc,m⟩)):At P (newK C c ws k st):=by
 unfold newK;rw[hd];dsimp only;rw[h];exact hk
theorem At.new_err{C:CallT}{c:Nat}{ws:List W}{k:Kt W γ}{d:ClsDef}{m e}(hd:clss[c]?=some d)
  (h:C d.init (.o c st.mem.length::ws) (st.mem++[.obj c (List.replicate d.fields.length none)])=some (.error e,m)) (hk:At P (some (.error e,⟨st.loc,m⟩))):At P (newK C c ws k st):=by
 unfold newK;rw[hd];dsimp only;rw[h];exact hk
theorem At.call_err{r:Option (Except V W×List AO)}{a m loc}{k:Kt W γ}(h:r=some (.error a,m))(hk:At P (some (.error a,⟨loc,m⟩))):At P (callK r loc k):=by subst h;exact hk
end
theorem hide{A:Prop}(k:∀P:Prop,(A→P)→P):A:=k A id
end
def dsI(s:String):Lean.MacroM (Lean.TSyntax `Lean.Parser.Tactic.simpLemma):=
 `(Lean.Parser.Tactic.simpLemma| $(Lean.mkIdent s.toName):ident)
def dsL(l:String):Lean.MacroM (Lean.TSyntax `tactic):=do
 let xs←(l.splitOn " ").toArray.mapM dsI
 `(tactic| dsimp only[$xs,*])
def andS(r:Lean.TSyntax `tactic)(x:Char):Lean.MacroM (Lean.TSyntax `tactic):=do
 let y←if x=='a' then `(tactic| assumption)else if x=='r' then `(tactic| rfl)else `(tactic| exact bTl rfl)
 `(tactic| ($r; $y))
def alt1(s:String):Lean.MacroM (Lean.TSyntax `tactic):=do
 if s== "=" then return (← `(tactic| with_reducible assumption))
 if s== "@r" then return (← `(tactic| top_args))
 if s== "@h" then return (← `(tactic| top_name))
 let p:=s.splitOn ":"
 let c:=p.getD 1 ""
 if c== "d" then return (←dsL (" ".intercalate ((p.headD "").splitOn ",")))
 let n:=Lean.mkIdent ("Mine." ++p.headD "").toName
 if c== "h" then return (← `(tactic| ((with_reducible refine' $n ?_ ?_);(with_reducible assumption))))
 if c== "1" then return (← `(tactic| with_reducible refine' $n ?_))
 if c== "O" then return (← `(tactic| ((with_reducible refine' $n ?h ?_);case h=>tb_rel)))
 if c== "C" then return (← `(tactic| ((with_reducible refine' $n ?h ?_);case h=>tb_start)))
 if c== "B" then return (← `(tactic| ((with_reducible refine' $n ?h ?_);case h=>k_memK)))
 c.toList.foldlM andS (← `(tactic| with_reducible apply $n))
def altS(s:String):Lean.MacroM (Lean.TSyntax `Lean.Parser.Tactic.tacticSeq):=do
 let x←alt1 s
 `(Lean.Parser.Tactic.tacticSeq| $x:tactic)
def alts(l:String):Lean.MacroM (Lean.TSyntax `tactic):=do
 let ys←(l.splitOn " ").toArray.mapM altS
 `(tactic| first $[| $ys]*)
theorem tail_c{α:Type}(a:α)(l:List α):(a::l).tail=l:=rfl
theorem map_n{α β:Type}(f:α→β):List.map f []=[]:=rfl
theorem map_c{α β:Type}(f:α→β)(a:α)(l:List α):List.map f (a::l)=f a::List.map f l:=rfl
theorem asV_v(x):asV (.v x)=some x:=rfl
theorem asInt_i(x):asInt (.v (.int x))=some x:=rfl
theorem asStr_s(x):asStr (.v (.str x))=some x:=rfl
theorem asList_l(x):asList (.v (.list x))=some x:=rfl
theorem asL_v(m x):asL m (.v (.list x))=some x:=rfl
theorem tru_b(b):truthyW (.v (.bool b))=some b:=rfl
theorem c_eqs(m a b):cmpW .eq m (.v (.str a)) (.v (.str b))=some (decide (a=b)):=rfl
theorem c_nes(m a b):cmpW .ne m (.v (.str a)) (.v (.str b))=some (!decide (a=b)):=rfl
theorem c_eqi(m a b):cmpW .eq m (.v (.int a)) (.v (.int b))=some (decide (a=b)):=rfl
theorem c_nei(m a b):cmpW .ne m (.v (.int a)) (.v (.int b))=some (!decide (a=b)):=rfl
theorem c_lt(m a b):cmpW .lt m (.v (.int a)) (.v (.int b))=some (decide (a < b)):=rfl
theorem c_le(m a b):cmpW .le m (.v (.int a)) (.v (.int b))=some (decide (a≤b)):=rfl
theorem c_gt(m a b):cmpW .gt m (.v (.int a)) (.v (.int b))=some (decide (a > b)):=rfl
theorem c_ge(m a b):cmpW .ge m (.v (.int a)) (.v (.int b))=some (decide (a≥b)):=rfl
theorem c_is(m a b):cmpW .in_ m (.v (.str a)) (.v (.str b))=some (iSb a b):=rfl
theorem c_ns(m a b):cmpW .notin m (.v (.str a)) (.v (.str b))=some (!iSb a b):=rfl
theorem c_il(m a b):cmpW .in_ m (.v (.str a)) (.v (.list b))=anyEq (.str a) b:=rfl
theorem c_it(m a b):cmpW .in_ m (.v (.str a)) (.v (.tup b))=anyEq (.str a) b:=rfl
theorem c_nl(m a b):cmpW .notin m (.v (.str a)) (.v (.list b))=(anyEq (.str a) b).map (!·):=rfl
theorem c_nt(m a b):cmpW .notin m (.v (.str a)) (.v (.tup b))=(anyEq (.str a) b).map (!·):=rfl
theorem b_ai(m x y):bin2 .add m (.v (.int x)) (.v (.int y))=some (.v (.int (x+y))):=rfl
theorem b_si(m x y):bin2 .sub m (.v (.int x)) (.v (.int y))=some (.v (.int (x - y))):=rfl
theorem l_s(m l):lenO m (.v (.str l))=some (.v (.int l.length)):=rfl
theorem l_l(m l):lenO m (.v (.list l))=some (.v (.int l.length)):=rfl
theorem l_t(m l):lenO m (.v (.tup l))=some (.v (.int l.length)):=rfl
theorem exc_i(x:List Nat)(i:Int):excW [.v (.str x),.v (.int i)]=some (.v (.exc (.int i))):=rfl
theorem anyEq_nil(w):anyEq (.str w) []=some false:=rfl
theorem bp_one(i:Nat)(x:V)(st:St):bindPat [i] true x st=some (.ok (),⟨st.loc.set i (some (.v x)),st.mem⟩):=rfl
theorem bp_two(i j:Nat)(x y:V)(st:St):bindPat [i,j] false (.tup [x,y]) st=some (.ok (),⟨(st.loc.set i (some (.v x))).set j (some (.v y)),st.mem⟩):=rfl
theorem openIt_v(l st):openIt (.v (.list l)) st=some (.ok l,st):=rfl
theorem shutIt_v(x l st):shutIt (.v x) l st=some (.ok (),st):=rfl
theorem shutIt_l(i l st):shutIt (.l i) l st=some (.ok (),⟨st.loc,st.mem.set i (.list l)⟩):=rfl
theorem aoL_l(l):aoL (some (.list l))=some l:=rfl
theorem subLoc_0(l):subLoc [] l=[]:=rfl
theorem subLoc_n(s l):subLoc (none::s) l=none::subLoc s l:=rfl
theorem subLoc_s(i s l):subLoc (some i::s) l=(l[i]?).join::subLoc s l:=rfl
local macro_rules (kind:=PyProof.Rows.tacticTop_args) | x=>dsL "Mine.optK_some Mine.bindR_ok Mine.ifK_t Mine.ifK_f Mine.ifK_nt Mine.ifK_nf Mine.callK_ok Mine.ek_none Mine.ek_bool Mine.ek_int Mine.ek_str Mine.ek_loc Mine.ek_glob Mine.ek_and Mine.ek_or Mine.ebs_one Mine.ebs_and Mine.ebs_or Mine.tk_and Mine.tk_or Mine.tks_nil Mine.tks_and Mine.tks_or Mine.ek_not Mine.tk_not Mine.ek_ite Mine.tk_ite Mine.ek_bin Mine.ek_neg Mine.ek_cmp Mine.tk_cmp Mine.tk_chain Mine.eks_nil Mine.eks_cons Mine.ek_call Mine.tk_call Mine.ek_new Mine.ek_newExc Mine.ek_meth Mine.tk_meth Mine.ek_append Mine.ek_join Mine.ek_index Mine.ek_attr Mine.ek_sub Mine.tk_sub Mine.ek_to Mine.ek_from Mine.ek_slice Mine.fr_nil Mine.fr_v Mine.fr_l Mine.ek_tup Mine.kLi_f Mine.ek_list_t Mine.ek_list_f Mine.ek_len Mine.ek_toInt Mine.ek_toStr Mine.ek_abs Mine.ek_sum Mine.ek_tuple Mine.ek_isInt Mine.tk_isInt Mine.tk_bool Mine.tk_loc Mine.it_x Mine.it_rng Mine.it_enum Mine.ek_comp Mine.ek_flat Mine.B_nil Mine.kSeq_n Mine.kSeq_r Mine.B_expr Mine.B_assign Mine.B_unpack Mine.B_assign2 Mine.B_setattr Mine.B_setitem Mine.B_ite Mine.B_while Mine.B_for Mine.B_ret Mine.kRai_run Mine.B_raise Mine.B_try Mine.kEnd_n Mine.kEnd_r Mine.kWh2_n Mine.kWh2_r Mine.Fo_nil Mine.kFoN_n Mine.kFoN_r Mine.Co_nil Mine.kTru Mine.kEq Mine.kAnd2 Mine.kAnd1 Mine.kOr2 Mine.kOr1 Mine.kTAnd Mine.kTOr Mine.kNot2 Mine.kNot1 Mine.kTNot Mine.kIte Mine.kTIte Mine.kBin2 Mine.kBin1 Mine.kNeg2 Mine.kNeg1 Mine.kBoolW Mine.kCmp2 Mine.kCmp1 Mine.kTCmp2 Mine.kTCmp1 Mine.kCh3 Mine.kCh2 Mine.kCh1 Mine.kEs2 Mine.kEs1 Mine.kCall Mine.kNew Mine.kEx Mine.kMe3 Mine.kMe2 Mine.kMe1 Mine.kAp4 Mine.kAp3 Mine.kAp2 Mine.kAp1 Mine.kJo4 Mine.kJo3 Mine.kJo2 Mine.kJo1 Mine.kIx3 Mine.kIx2 Mine.kIx1 Mine.kAtt Mine.kSu3 Mine.kSu2 Mine.kSu1 Mine.kTo3 Mine.kTo2 Mine.kTo1 Mine.kFr3 Mine.kFr2 Mine.kFr1 Mine.kSl5 Mine.kSl4 Mine.kSl3 Mine.kSl2 Mine.kSl1 Mine.kF Mine.kFd Mine.kTu2 Mine.kTu1 Mine.kLi1 Mine.kLen Mine.kTi2 Mine.kTi1 Mine.kTs2 Mine.kTs1 Mine.kAb2 Mine.kAb1 Mine.kSm2 Mine.kSm1 Mine.kTp2 Mine.kTp1 Mine.kIs2 Mine.kIs1 Mine.kIt1 Mine.kRg Mine.kEn2 Mine.kEn1 Mine.kCp3 Mine.kCp2 Mine.kCp1 Mine.kFl1 Mine.kNx Mine.kSet Mine.kUn2 Mine.kUn1 Mine.kAs2 Mine.kAs1 Mine.kSa2 Mine.kSa1 Mine.kSi4 Mine.kSi3 Mine.kSi2 Mine.kSi1 Mine.kIf Mine.kFo3 Mine.kFo2 Mine.kFo1 Mine.kRet Mine.kStop Mine.kWh1 Mine.kFoB Mine.kCoA Mine.kCoV Mine.kCoE Mine.kCoT Mine.kCo List.getElem?_cons_succ List.getElem?_cons_zero Option.join_some Option.map_some List.set_cons_succ List.set_cons_zero Mine.exc_i Mine.asV_v Mine.asInt_i Mine.asStr_s Mine.asList_l Mine.asL_v Mine.tru_b Mine.c_eqs Mine.c_nes Mine.c_eqi Mine.c_nei Mine.c_lt Mine.c_le Mine.c_gt Mine.c_ge Mine.c_is Mine.c_ns Mine.c_il Mine.c_it Mine.c_nl Mine.c_nt Mine.b_ai Mine.b_si Mine.l_s Mine.l_l Mine.l_t Mine.anyEq_nil Mine.bp_one Mine.bp_two Mine.openIt_v Mine.shutIt_v Mine.shutIt_l Mine.wiK_ok Mine.kPre Mine.aoL_l Mine.subLoc_0 Mine.subLoc_n Mine.subLoc_s"
local macro_rules (kind:=PyProof.Rows.tacticTop_caught) | x=>dsL "Mine.tail_c Mine.map_c Mine.map_n List.cons_append List.nil_append Nat.reduceSub List.replicate_succ List.replicate_zero"
abbrev Wd:=List Nat
abbrev Tk:=Wd×Nat
abbrev Zp:=List Tk×List Tk
noncomputable def tokV(t:Tk):V:=.tup [.str t.1,.int t.2]
noncomputable def tot(z:Zp):List Tk:=z.1.reverse++z.2
noncomputable def rdr(z:Zp):AO:=.obj 4 [some (.v (.list ((tot z).map tokV))),some (.v gLG),some (.v (.int z.1.length))]
noncomputable def mk(b:List AO)(z:Zp)(us L F:List V)(ex:List AO):List AO:=
 b++(rdr z::.list L::.list F::.obj 0 [some (.l (b.length+1)),some (.l (b.length+2))]::.list us::ex)
theorem get_app(b l:List AO)(k:Nat):(b++l)[b.length+k]?=l[k]?:=by rw[List.getElem?_append_right (Nat.le_add_right ..),Nat.add_sub_cancel_left]
theorem set_app(b l:List AO)(k:Nat)(x:AO):(b++l).set (b.length+k) x=b++l.set k x:=by rw[List.set_append_right _ _ (Nat.le_add_right ..),Nat.add_sub_cancel_left]
theorem take_app(b l:List AO)(k:Nat):(b++l).take (b.length+k)=b++l.take k:=by rw[List.take_append,Nat.add_sub_cancel_left,List.take_of_length_le (Nat.le_add_right ..)]
section
variable(b:List AO)(z:Zp)(us L F:List V)(ex:List AO)
noncomputable def xa(k:Nat):Nat:=b.length+(5+(ex.length+k))
theorem mk_len:(mk b z us L F ex).length=xa b ex 0:=by
 unfold mk xa;rw[lap];simp only[lcn];lia
theorem mk_get0:(mk b z us L F ex)[b.length]?=some (rdr z):=get_app b _ 0
theorem mk_get4:(mk b z us L F ex)[b.length+4]?=some (.list us):=get_app b _ 4
theorem mk_getx(k:Nat)(l:List AO):(mk b z us L F (ex++l))[xa b ex k]?=l[k]?:=by
 unfold xa mk
 rw[get_app,Nat.add_comm 5]
 exact get_app ex l k
theorem mk_app(l:List AO):mk b z us L F ex++l=mk b z us L F (ex++l):=by simp only[mk,asc,List.cons_append]
theorem mk_set0(z':Zp):(mk b z us L F ex).set b.length (rdr z')=mk b z' us L F ex:=set_app b _ 0 _
theorem mk_set4(o:AO):(mk b z us L F ex).set (b.length+4) o=b++(rdr z::.list L::.list F::.obj 0 [some (.l (b.length+1)),some (.l (b.length+2))]::o::ex):=set_app b _ 4 _
theorem mk_setx(k:Nat)(l:List AO)(x:AO):(mk b z us L F (ex++l)).set (xa b ex k) x=mk b z us L F (ex++l.set k x):=by
 unfold xa mk
 rw[set_app,Nat.add_comm 5]
 exact congrArg (fun l=>b++(rdr z::.list L::.list F::.obj 0 [some (.l (b.length+1)),some (.l (b.length+2))]::.list us::l)) (set_app ex l k x)
theorem mk_take(l:List AO):(mk b z us L F (ex++l)).take (xa b ex 0)=mk b z us L F ex:=by
 unfold xa mk
 rw[take_app,Nat.add_comm 5]
 have:=take_app ex l 0
 rw[List.take_zero,apn]at this
 exact congrArg (fun l=>b++(rdr z::.list L::.list F::.obj 0 [some (.l (b.length+1)),some (.l (b.length+2))]::.list us::l)) this
theorem mk_nil:mk b z us L F ex=mk b z us L F (ex++[]):=by rw[apn]
theorem xa_le(k:Nat):xa b ex 0≤xa b ex k:=by unfold xa;lia
theorem xa_one(x:AO)(k:Nat):xa b (ex++[x]) k=xa b ex (k+1):=by unfold xa;rw[lap,List.length_singleton];lia
theorem top_le{k:Nat}(h:k≤1000000):k≤top:=ltr h (by unfold top;decide)
theorem asL_4:asL (mk b z us L F ex) (.l (b.length+4))=some us:=by simp only[asL,deref,mk_get4];rfl
theorem der_x{k:Nat}{l:List AO}{us':List V}(h:l[k]?=some (.list us')):deref (mk b z us L F (ex++l)) (.l (xa b ex k))=some (.list us'):=by simp only[deref,mk_getx,h];rfl
theorem asL_x{k:Nat}{l:List AO}{us':List V}(h:l[k]?=some (.list us')):asL (mk b z us L F (ex++l)) (.l (xa b ex k))=some us':=by simp only[asL,der_x _ _ _ _ _ _ h];rfl
theorem fz_x{k:Nat}{l:List AO}{us':List V}(h:l[k]?=some (.list us')):aoL (mk b z us L F (ex++l))[xa b ex k]?=some us':=by rw[mk_getx,h];rfl
theorem app_x{k:Nat}{l:List AO}{us':List V}(x:V)(loc)(h:l[k]?=some (.list us'))(hl:us'.length≤1000):appendM (.l (xa b ex k)) x ⟨loc,mk b z us L F (ex++l)⟩=some (.ok (.v .none),⟨loc,mk b z us L F (ex++l.set k (.list (us'++[x])))⟩):=by
 have e:=mk_getx b z us L F ex k l
 rw[h]at e
 dsimp only[appendM]
 rw[e]
 show(if us'.length < top then _ else none)=_
 rw[if_pos (Nat.lt_of_le_of_lt hl (by unfold top;decide):us'.length < top),mk_setx]
theorem app_us(x:V)(loc)(hl:us.length≤1000):appendM (.l (b.length+4)) x ⟨loc,mk b z us L F ex⟩=some (.ok (.v .none),⟨loc,mk b z (us++[x]) L F ex⟩):=by
 dsimp only[appendM]
 rw[mk_get4]
 show(if us.length < top then _ else none)=_
 rw[if_pos (Nat.lt_of_le_of_lt hl (by unfold top;decide):us.length < top),mk_set4]
 rfl
theorem attr_r{f k:Nat}{w:W}(h:(clss[4]?.bind fun d=>d.fields.idxOf? f)=some k)(hw:[some (W.v (.list ((tot z).map tokV))),some (W.v gLG),some (W.v (.int z.1.length))][k]?=some (some w)):getF prog (mk b z us L F ex) (.o 4 b.length) f=some w:=by
 have h':fieldIx prog 4 f=some k:=h
 simp only[getF,mk_get0,rdr,h',aoO,if_true,Option.bind_some,hw,Option.join_some]
theorem attr_words:getF prog (mk b z us L F ex) (.o 4 b.length) 11=some (.v (.list ((tot z).map tokV))):=attr_r b z us L F ex (k:=0) rfl rfl
theorem attr_at:getF prog (mk b z us L F ex) (.o 4 b.length) 0=some (.v (.int z.1.length)):=attr_r b z us L F ex (k:=2) rfl rfl
theorem set_ix(z':Zp)(h:tot z'=tot z)(loc):setattrM prog (.o 4 b.length) 0 (.v (.int z'.1.length)) ⟨loc,mk b z us L F ex⟩=some (.ok (),⟨loc,mk b z' us L F ex⟩):=by
 have e:fieldIx prog 4 0=some 2:=rfl
 unfold setattrM
 simp only[mk_get0,rdr,e,okField,aoO,Option.bind_some,and_self,if_true]
 rw[←mk_set0 b z us L F ex z',rdr,h]
 rfl
theorem set_take(d r:List Tk)(t:Tk)(loc):setattrM prog (.o 4 b.length) 0 (.v (.int ((d.length:Int)+1))) ⟨loc,mk b (d,t::r) us L F ex⟩=some (.ok (),⟨loc,mk b (t::d,r) us L F ex⟩):=
 set_ix b (d,t::r) us L F ex (t::d,r) (by unfold tot;rw[List.reverse_cons,asc];rfl) loc
theorem meth_r{m k:Nat}(h:(clss[4]?.bind fun d=>d.meths.lookup m)=some k):methO (mk b z us L F ex) (.o 4 b.length) m=some k:=by
 simp only[methO,live,mk_get0,rdr,aoO,Option.bind_some,Option.elim_some,decide_true,cond_true,clsOf,h]
theorem meth3:methO (mk b z us L F ex) (.o 4 b.length) 3=some 18:=meth_r _ _ _ _ _ _ rfl
theorem meth5:methO (mk b z us L F ex) (.o 4 b.length) 5=some 19:=meth_r _ _ _ _ _ _ rfl
theorem meth6:methO (mk b z us L F ex) (.o 4 b.length) 6=some 20:=meth_r _ _ _ _ _ _ rfl
theorem meth7:methO (mk b z us L F ex) (.o 4 b.length) 7=some 21:=meth_r _ _ _ _ _ _ rfl
theorem meth8:methO (mk b z us L F ex) (.o 4 b.length) 8=some 22:=meth_r _ _ _ _ _ _ rfl
theorem meth9:methO (mk b z us L F ex) (.o 4 b.length) 9=some 23:=meth_r _ _ _ _ _ _ rfl
theorem meth10:methO (mk b z us L F ex) (.o 4 b.length) 10=some 24:=meth_r _ _ _ _ _ _ rfl
theorem meth11:methO (mk b z us L F ex) (.o 4 b.length) 11=some 25:=meth_r _ _ _ _ _ _ rfl
theorem meth12:methO (mk b z us L F ex) (.o 4 b.length) 12=some 26:=meth_r _ _ _ _ _ _ rfl
end
theorem mk_new{b z us L F ex}{γ:Type}{P:R γ→Prop}{k:Kt W γ}{loc}{xs:List V}(h:At P (k (.l (xa b ex 0)) ⟨loc,mk b z us L F (ex++[.list xs])⟩)):At P (kLi2 k true xs ⟨loc,mk b z us L F ex⟩):=by
 show At P (k (.l (mk b z us L F ex).length) ⟨loc,mk b z us L F ex++[.list xs]⟩)
 rw[mk_len,mk_app];exact h
theorem mk_new1{b z us L F ex}{γ:Type}{P:R γ→Prop}{k:Kt W γ}{loc}{x:AO}{xs:List V}(h:At P (k (.l (xa b ex 1)) ⟨loc,mk b z us L F (ex++[x,.list xs])⟩)):At P (kLi2 k true xs ⟨loc,mk b z us L F (ex++[x])⟩):=by
 refine mk_new ?_
 rw[xa_one,asc];exact h
theorem bin_as(m)(x y:List Nat)(h:x.length+y.length≤1000000):bin2 .add m (.v (.str x)) (.v (.str y))=some (.v (.str (x++y))):=by
 show(if x.length+y.length≤top then some (V.str (x++y))else none).map W.v=_
 rw[if_pos (top_le h)];rfl
theorem bin_al(m)(x y:List V)(h:x.length+y.length≤1000000):bin2 .add m (.v (.list x)) (.v (.list y))=some (.v (.list (x++y))):=by
 show(if x.length+y.length≤top then some (V.list (x++y))else none).map W.v=_
 rw[if_pos (top_le h)];rfl
theorem bin_at(m)(x y:List V)(h:x.length+y.length≤1000000):bin2 .add m (.v (.tup x)) (.v (.tup y))=some (.v (.tup (x++y))):=by
 show(if x.length+y.length≤top then some (V.tup (x++y))else none).map W.v=_
 rw[if_pos (top_le h)];rfl
theorem le_app{α:Type}{x y:List α}{a b c:Nat}(h1:x.length≤a)(h2:y.length≤b)(h:Nat.ble (a+b) c=true):(x++y).length≤c:=by
 rw[lap];exact ltr (Nat.add_le_add h1 h2) (bTl h)
theorem le_two{a b:Nat}(h1:a≤500000)(h2:b≤500000):a+b≤1000000:=Nat.add_le_add h1 h2
noncomputable def memW(w:Wd)(l:List Wd):Bool:=l.any fun y=>decide (y=w)
theorem eqS_nil(l:List V):eqS (.list l) (.list [])=l.isEmpty:=match l with
 |[]=>rfl
 |_::_=>rfl
theorem plain_str{α:Type}(f:α→Wd)(l:List α):(l.map fun a=>V.str (f a)).all (plain dep)=true:=List.rec rfl (fun o0 o0 h=>h) l
theorem anyEq_str(w:Wd)(l:List Wd):anyEq (.str w) (l.map .str)=some (memW w l):=by
 unfold anyEq memW
 rw[plain_str (fun w=>w) l,List.any_map];rfl
theorem anyEq_not(w:Wd)(l:List Wd):(anyEq (.str w) (l.map .str)).map (fun x=>!x)=some (!memW w l):=by rw[anyEq_str];rfl
noncomputable def WORDS:List Wd:=[[108,111,111,107,117,112],[102,108,97,103],[115,117,98],[98,121],[102,114,111,109],[78,85,76,76],[112,111,115],[102,101,97,116,117,114,101],[115,99,114,105,112,116],[108,97,110,103,117,97,103,101]]
noncomputable def GLYPHS:List Wd:=[[97],[98],[99],[102,95,105],[120,46,97,108,116],[78,49]]
noncomputable def LTS:Wd:=[97,98,99,100,101,102,103,104,105,106,107,108,109,110,111,112,113,114,115,116,117,118,119,120,121,122,65,66,67,68,69,70,71,72,73,74,75,76,77,78,79,80,81,82,83,84,85,86,87,88,89,90,95,46]
noncomputable def FIGS:Wd:=[48,49,50,51,52,53,54,55,56,57]
noncomputable def SIGNS:Wd:=[123,125,91,93,59,39,60,62]
noncomputable def BLANKS:Wd:=[32,9,13,10]
noncomputable def ENDS:Wd:=[13,10]
theorem glob0:globs[0]?=some (.tup (WORDS.map .str)):=rfl
theorem glob1:globs[1]?=some (.str LTS):=rfl
theorem glob2:globs[2]?=some (.str FIGS):=rfl
theorem glob3:globs[3]?=some (.str SIGNS):=rfl
theorem glob4:globs[4]?=some (.str BLANKS):=rfl
theorem glob5:globs[5]?=some (.str ENDS):=rfl
theorem glob6:globs[6]?=some (.int 6):=rfl
theorem glob7:globs[7]?=some (.int 65535):=rfl
theorem glob8:globs[8]?=some (.int 32767):=rfl
theorem glob9:globs[9]?=some gLG:=rfl
noncomputable def iNm(w:Wd):Bool:=match w with | []=>false | c::_=>iSb [c] LTS&&!memW w WORDS
theorem attr_names(b:List AO)(z:Zp)(us L F:List V)(ex:List AO):getF prog (mk b z us L F ex) (.o 4 b.length) 12=some (.v (.list (GLYPHS.map .str))):=attr_r b z us L F ex (k:=1) rfl rfl
theorem app_m(b:List AO)(z:Zp)(us L F:List V)(ex:List AO){α:Type}(f:α→V){k:Nat}{l:List AO}{fd:List α}(a:α)(loc)(h:l[k]?=some (.list (fd.map f)))(hl:fd.length < 1000):
  appendM (.l (xa b ex k)) (f a) ⟨loc,mk b z us L F (ex++l)⟩=some (.ok (.v .none),⟨loc,mk b z us L F (ex++l.set k (.list ((fd++[a]).map f)))⟩):=by
 rw[mpa]
 exact app_x b z us L F ex (f a) loc h (by rw[lmp];exact Nat.le_of_lt hl)
theorem in_x(b:List AO)(z:Zp)(us L F:List V)(ex:List AO){k:Nat}{l:List AO}{fd:List Wd}(w:Wd)(h:l[k]?=some (.list (fd.map .str))):cmpW .in_ (mk b z us L F (ex++l)) (.v (.str w)) (.l (xa b ex k))=some (memW w fd):=by
 unfold cmpW
 rw[der_x _ _ _ _ _ _ h]
 exact anyEq_str w fd
theorem eq_nil_x(b:List AO)(z:Zp)(us L F:List V)(ex:List AO){α:Type}(f:α→V){k j:Nat}{l:List AO}{fd:List α}(h:l[k]?=some (.list (fd.map f)))(h2:l[j]?=some (.list [])):cmpW .eq (mk b z us L F (ex++l)) (.l (xa b ex k)) (.l (xa b ex j))=some fd.isEmpty:=by
 unfold cmpW
 rw[der_x _ _ _ _ _ _ h,der_x _ _ _ _ _ _ h2]
 exact(congrArg some (eqS_nil _)).trans (congrArg some List.isEmpty_map)
theorem ne_nil_x(b:List AO)(z:Zp)(us L F:List V)(ex:List AO){α:Type}(f:α→V){k j:Nat}{l:List AO}{fd:List α}(h:l[k]?=some (.list (fd.map f)))(h2:l[j]?=some (.list [])):cmpW .ne (mk b z us L F (ex++l)) (.l (xa b ex k)) (.l (xa b ex j))=some (!fd.isEmpty):=by
 unfold cmpW
 rw[der_x _ _ _ _ _ _ h,der_x _ _ _ _ _ _ h2]
 exact(congrArg (fun b=>some !b) (eqS_nil _)).trans (congrArg (fun b=>some !b) List.isEmpty_map)
theorem set_back(b:List AO)(us L F:List V)(ex:List AO)(d r:List Tk)(t:Tk)(loc):setattrM prog (.o 4 b.length) 0 (.v (.int (((t::d).length:Int) - 1))) ⟨loc,mk b (t::d,r) us L F ex⟩=some (.ok (),⟨loc,mk b (d,t::r) us L F ex⟩):=by
 have e:((t::d).length:Int) - 1=d.length:=by rw[lcn];lia
 rw[e]
 exact set_ix b (t::d,r) us L F ex (d,t::r) (by unfold tot;rw[List.reverse_cons,asc];rfl) loc
theorem der_m(m:List AO)(l:List V):deref (m++[.list l]) (.l m.length)=some (.list l):=by
 dsimp only[deref];rw[show(m++[AO.list l])[m.length]?=some (.list l)from get_app m _ 0];rfl
theorem ne_nil_m(m:List AO)(l:List V):cmpW .ne (m++[.list []]) (.v (.list l)) (.l m.length)=some (!l.isEmpty):=by
 unfold cmpW
 rw[der_m]
 exact congrArg (fun b=>some !b) (eqS_nil _)
theorem idx_nat{k n:Nat}(h:k < n):idx (k:Int) n=some k:=by
 unfold idx;rw[if_pos (Int.natCast_nonneg k),if_pos (Int.ofNat_lt.2 h)];rfl
theorem sub_l(m){l:List V}{k:Nat}{x:V}(h:l[k]?=some x):subO m (.v (.list l)) (.int k)=some (.v x):=by
 have hk:k < l.length:=(List.getElem?_eq_some_iff.1 h).1
 show((idx (k:Int) l.length).bind fun k=>l[k]?).map W.v=_
 rw[idx_nat hk,Option.bind_some,h];rfl
theorem sub_t(m){l:List V}{k:Nat}{x:V}(h:l[k]?=some x):subO m (.v (.tup l)) (.int k)=some (.v x):=by
 have hk:k < l.length:=(List.getElem?_eq_some_iff.1 h).1
 show((idx (k:Int) l.length).bind fun k=>l[k]?).map W.v=_
 rw[idx_nat hk,Option.bind_some,h];rfl
theorem sub_tok(m)(d r:List Tk)(t:Tk):subO m (.v (.list ((tot (d,t::r)).map tokV))) (.int d.length)=some (.v (tokV t)):=sub_l m (by
 unfold tot
 rw[List.getElem?_map,List.getElem?_append_right (by rw[List.length_reverse];exact Nat.le_refl _),List.length_reverse,Nat.sub_self];rfl)
theorem tok0(m)(t:Tk):subO m (.v (tokV t)) (.int 0)=some (.v (.str t.1)):=rfl
theorem tok1(m)(t:Tk):subO m (.v (tokV t)) (.int 1)=some (.v (.int t.2)):=rfl
theorem sub_str0(m)(c:Nat)(w:Wd):subO m (.v (.str (c::w))) (.int 0)=some (.v (.str [c])):=by
 show((idx ((0:Nat):Int) (c::w).length).bind fun k=>(c::w)[k]?.map fun c=>V.str [c]).map W.v=_
 rw[idx_nat (n:=(c::w).length) (Nat.zero_lt_succ _)];rfl
local macro_rules (kind:=PySem.W.tacticTb_rel) | x=>alts "= attr_words attr_at attr_names sub_tok sub_str0 ne_nil_m anyEq_str anyEq_not asL_4 asL_x:r in_x:r fz_x:r eq_nil_x:rr ne_nil_x:rr meth3 meth7 meth10 meth5 meth6 meth8 meth9 meth11 meth12"
local macro_rules (kind:=PySem.W.tacticTb_start) | x=>alts "="
local macro_rules (kind:=PySem.W.tacticK_memK) | x=>alts "= set_take set_back set_ix:a app_m:ra"
local macro_rules (kind:=PyProof.Rows.tacticTop_name) | x=>alts "At.t:h At.f:h At.dt:h At.df:h At.nt:h At.nf:h At.ndt:h At.ndf:h"
local macro_rules (kind:=PyProof.Rows.tacticMem_news) | x=>alts "= @r Mine.tok0,Mine.tok1,Mine.glob0,Mine.glob1,Mine.glob2,Mine.glob3,Mine.glob4,Mine.glob5,Mine.glob6,Mine.glob7,Mine.glob8,Mine.glob9,Option.map_some,Mine.optK_some:d mk_new1:1 mk_new:1 Mine.kLi_t:d At.opt:O At.call:C At.bnd:B At.wiCo:1 At.wiA:1 At.wiC:C At.wiO:O @h"
local macro_rules (kind:=PyProof.Rows.tacticTop_raise) | x=> `(tactic| repeat mem_news)
section
variable(n:Nat)(b:List AO)(d r:List Tk)(w:Wd)(o:Nat)(us L F:List V)(ex:List AO)
theorem tkA(m:List AO):m.take m.length=m:=List.take_length
theorem fnv{m m':List AO}{n:Nat}{x:V}{loc}(h:m'.take n=m):At (Ends n (some (.ok (.v x),m))) (some (.ok (.ret (.v x)),⟨loc,m'⟩)):=by
 show some _=_;rw[h]
theorem fin_n{m m':List AO}{n:Nat}{loc}(h:m'.take n=m):At (Ends n (some (.ok (.v .none),m))) (some (.ok .next,⟨loc,m'⟩)):=by
 show some _=_;rw[h]
theorem fin_e{m m':List AO}{n:Nat}{x:V}{loc}(h:m'.take n=m):At (Ends n (some (.error x,m))) (some (.error x,⟨loc,m'⟩)):=by
 show some _=_;rw[h]
theorem c_isname(m:List AO):cN prog (n+1) 16 [.v (.str w)] m=some (.ok (.v (.bool (iNm w))),m):=by
 refine rCl f_is_name rfl rfl ?_
 unfold f_is_name;top_caught
 cases w with
 |nil=>
  have h:([]:Wd)=[]:=rfl
  top_raise
  exact fnv (tkA m)
 |cons c w=>
  have h:¬(c::w=[]):=List.cons_ne_nil c w
  have e:iNm (c::w)=(iSb [c] LTS&&!memW (c::w) WORDS):=rfl
  rw[e]
  cases h1:iSb [c] LTS
  ·top_raise
   rw[h1]
   exact fnv (tkA m)
  ·top_raise
   exact fnv (tkA m)
theorem c_word:cN prog (n+1) 18 [.o 4 b.length] (mk b (d,(w,o)::r) us L F ex)=some (.ok (.v (.str w)),mk b (d,(w,o)::r) us L F ex):=by
 refine rCl f_RuleReader_word rfl rfl ?_
 unfold f_RuleReader_word;top_caught
 top_raise
 exact fnv (tkA _)
theorem c_fault(s:Wd):cN prog (n+1) 19 [.o 4 b.length,.v (.str s)] (mk b (d,(w,o)::r) us L F ex)=some (.ok (.v (.exc (.int o))),mk b (d,(w,o)::r) us L F ex):=by
 refine rCl f_RuleReader_fault rfl rfl ?_
 unfold f_RuleReader_fault;top_caught
 top_raise
 exact fnv (tkA _)
theorem mk_take0(z z':Zp)(us' L' F':List V):(mk b z us L F ex).take (mk b z' us' L' F' ex).length=mk b z us L F ex:=by
 rw[mk_len,←mk_len b z us L F ex];exact tkA _
theorem c_take:cN prog (n+1) 20 [.o 4 b.length] (mk b (d,(w,o)::r) us L F ex)=some (.ok (.v (.str w)),mk b ((w,o)::d,r) us L F ex):=by
 refine rCl f_RuleReader_take rfl rfl ?_
 unfold f_RuleReader_take;top_caught
 top_raise
 exact fnv (mk_take0 ..)
end
section
local macro_rules (kind:=PySem.W.tacticTb_start) | x=>alts "c_word c_fault c_take c_isname"
abbrev Pr(α:Type):=Option (Except Nat (α×Zp))
abbrev Ps(α:Type):=Zp→Pr α
noncomputable def bP{α β:Type}(r:Pr α)(f:α→Zp→Pr β):Pr β:=match r with
 |none=>none
 |some (.error e)=>some (.error e)
 |some (.ok (a,z))=>f a z
theorem bindP_ok{α β:Type}(a:α)(z:Zp)(f:α→Zp→Pr β):bP (some (.ok (a,z))) f=f a z:=rfl
noncomputable def okP{α:Type}(a:α)(z:Zp):Pr α:=some (.ok (a,z))
noncomputable def onT{α:Type}(f:Tk→List Tk→List Tk→Pr α):Ps α
 |(_,[])=>none
 |(d,t::r)=>f t d r
noncomputable def tokIf(c:Prop)[Decidable c]{α:Type}(a:α)(t:Tk)(d r:List Tk):Pr α:=if c then some (.ok (a,(t::d,r)))else some (.error t.2)
noncomputable def pTok:Ps Tk:=onT fun t d r=>some (.ok (t,(d,t::r)))
noncomputable def pFault{α:Type}:Ps α:=onT fun t o0 o0=>some (.error t.2)
noncomputable def pTake:Ps Wd:=onT fun t d r=>some (.ok (t.1,(t::d,r)))
noncomputable def pWord:Ps Wd:=onT fun t d r=>some (.ok (t.1,(d,t::r)))
noncomputable def pSkip(k:Wd):Ps Bool:=onT fun t d r=>if t.1=k then some (.ok (true,(t::d,r)))else some (.ok (false,(d,t::r)))
noncomputable def pNeed(k:Wd):Ps Unit:=onT fun t=>tokIf (t.1=k) () t
noncomputable def pName:Ps Wd:=onT fun t=>tokIf (iNm t.1=true) t.1 t
noncomputable def pGlyph:Ps Wd:=onT fun t=>tokIf (iNm t.1=true∧memW t.1 GLYPHS=true) t.1 t
noncomputable def pTag:Ps Wd:=onT fun t=>tokIf (iNm t.1=true∧t.1.length≤4) t.1 t
noncomputable def numOf(w:Wd):Option (Option Int):=
 match w with
 |[]=>some none
 |c::r=>if iSb [(c::r).getLast (List.cons_ne_nil c r)] FIGS=true∧iSb [c] LTS=false∧(c::r).length≤6 then(intOf w).map some else some none
noncomputable def pNum(lo hi:Int):Ps Int:=onT fun t d r=>match numOf t.1 with
  |none=>none
  |some none=>some (.error t.2)
  |some (some i)=>tokIf (lo≤i∧i≤hi) i t d r
noncomputable def Sat{α:Type}(b:List AO)(T:List Tk)(us L F:List V)(ex:List AO)(enc:α→V)(p:Pr α)(c:Option (Except V W×List AO)):Prop:=
 match p with
 |none=>True
 |some (.ok (a,z))=>c=some (.ok (.v (enc a)),mk b z us L F ex)∧tot z=T
 |some (.error e)=>∃m,c=some (.error (.exc (.int e)),b++m)
section
variable{α:Type}{b:List AO}{T:List Tk}{us L F:List V}{ex:List AO}{enc:α→V}
theorem Sat.ok{a z c}(ht:tot z=T)(h:c=some (.ok (.v (enc a)),mk b z us L F ex)):Sat b T us L F ex enc (some (.ok (a,z))) c:=⟨h,ht⟩
abbrev Errs(b:List AO)(n:Nat)(e:Nat)(r:R Flow):Prop:=∃m,endR r n=some (.error (.exc (.int e)),b++m)
theorem run_err{n f:Nat}{args:List W}{b:List AO}{z:Zp}{us L F:List V}{ex:List AO}{e:Nat}(d:FnDef)(hf:fns[f]?=some d)(ha:args.length=d.np)
  (h:At (Errs b (mk b z us L F ex).length e) (B (cN prog n) d.body kEnd ⟨args.map some++List.replicate (d.nl - d.np) none,mk b z us L F ex⟩)):∃m,cN prog (n+1) f args (mk b z us L F ex)=some (.error (.exc (.int e)),b++m):=
 let ⟨m,h⟩:=h
 ⟨m,(call_body n f args _ d hf ha).trans h⟩
theorem fin_er{z z':Zp}{us us' L L' F F':List V}{ex ex':List AO}{e:Nat}{loc}:At (Errs b (mk b z us L F ex).length e) (some (.error (.exc (.int e)),⟨loc,mk b z' us' L' F' ex'⟩)):=by
 rw[mk_len]
 exact⟨_,congrArg (fun l=>some (Except.error (V.exc (.int e)),l)) (take_app b _ _)⟩
theorem Sat.ite{c:Prop}{_:Decidable c}{p q:Pr α}{r}(h1:c→Sat b T us L F ex enc p r)(h2:¬c→Sat b T us L F ex enc q r):Sat b T us L F ex enc (if c then p else q) r:=by
 by_cases h:c
 ·rw[if_pos h];exact h1 h
 ·rw[if_neg h];exact h2 h
theorem Sat.onT{f:Tk→List Tk→List Tk→Pr α}{z:Zp}(C:Zp→Option (Except V W×List AO))(hT:tot z=T)(h:∀w o d r,Sat b (tot (d,(w,o)::r)) us L F ex enc (f (w,o) d r) (C (d,(w,o)::r))):Sat b T us L F ex enc (onT f z) (C z):=by
 subst hT
 exact match z with
 |(_,[])=>trivial
 |(d,(w,o)::r)=>h w o d r
end
theorem tot_take(t:Tk)(d r:List Tk):tot (t::d,r)=tot (d,t::r):=by unfold tot;rw[List.reverse_cons,asc];rfl
section
variable(n:Nat)(b:List AO)(d r:List Tk)(w:Wd)(o:Nat)(us L F:List V)(ex:List AO)
theorem c_skip_t:cN prog (n+2) 21 [.o 4 b.length,.v (.str w)] (mk b (d,(w,o)::r) us L F ex)=some (.ok (.v (.bool true)),mk b ((w,o)::d,r) us L F ex):=by
 refine rCl fRs rfl rfl ?_
 unfold fRs;top_caught
 have h:w=w:=rfl
 top_raise
 exact fnv (mk_take0 ..)
theorem c_skip_f{k:Wd}(h:¬w=k):cN prog (n+2) 21 [.o 4 b.length,.v (.str k)] (mk b (d,(w,o)::r) us L F ex)=some (.ok (.v (.bool false)),mk b (d,(w,o)::r) us L F ex):=by
 refine rCl fRs rfl rfl ?_
 unfold fRs;top_caught
 top_raise
 exact fnv (tkA _)
local macro_rules (kind:=PySem.W.tacticTb_start) | x=>alts "c_skip_t c_skip_f:a"
theorem c_skip(k:Wd){z:Zp}{T}(hT:tot z=T):Sat b T us L F ex (fun t=>.bool t) (pSkip k z) (cN prog (n+2) 21 [.o 4 b.length,.v (.str k)] (mk b z us L F ex)):=
 Sat.onT (fun z=>cN prog (n+2) 21 [.o 4 b.length,.v (.str k)] (mk b z us L F ex)) hT fun w o d r=>Sat.ite (fun h=>h▸Sat.ok (tot_take ..) (c_skip_t ..)) fun h=>Sat.ok rfl (c_skip_f _ _ _ _ _ _ _ _ _ _ h)
theorem c_need(k:Wd)(hk:k.length≤1000){z:Zp}{T}(hT:tot z=T):Sat b T us L F ex (fun o0=>.none) (pNeed k z) (cN prog (n+3) 22 [.o 4 b.length,.v (.str k)] (mk b z us L F ex)):=
 Sat.onT (fun z=>cN prog (n+3) 22 [.o 4 b.length,.v (.str k)] (mk b z us L F ex)) hT fun w o d r=>Sat.ite (fun h=>by
  cases (h:w=k)
  refine Sat.ok (tot_take ..) (rCl fRd rfl rfl ?_)
  unfold fRd;top_caught
  top_raise
  exact fin_n (mk_take0 ..)) fun h=>by
  refine run_err fRd rfl rfl ?_
  unfold fRd;top_caught
  have hb:=bin_as (mk b (d,(w,o)::r) us L F ex) k [32,105,115,32,109,105,115,115,105,110,103] (ltr (Nat.add_le_add_right hk _) (by decide))
  top_raise
  exact fin_er
theorem c_wordS{z:Zp}{T}(hT:tot z=T):Sat b T us L F ex .str (pWord z) (cN prog (n+1) 18 [.o 4 b.length] (mk b z us L F ex)):=
 Sat.onT (fun z=>cN prog (n+1) 18 [.o 4 b.length] (mk b z us L F ex)) hT fun w o d r=>Sat.ok rfl (c_word ..)
theorem c_takeS{z:Zp}{T}(hT:tot z=T):Sat b T us L F ex .str (pTake z) (cN prog (n+1) 20 [.o 4 b.length] (mk b z us L F ex)):=
 Sat.onT (fun z=>cN prog (n+1) 20 [.o 4 b.length] (mk b z us L F ex)) hT fun w o d r=>Sat.ok (tot_take ..) (c_take ..)
theorem c_name{z:Zp}{T}(hT:tot z=T):Sat b T us L F ex .str (pName z) (cN prog (n+2) 23 [.o 4 b.length] (mk b z us L F ex)):=
 Sat.onT (fun z=>cN prog (n+2) 23 [.o 4 b.length] (mk b z us L F ex)) hT fun w o d r=>Sat.ite (fun h=>by
  refine Sat.ok (tot_take ..) (rCl fRm rfl rfl ?_)
  unfold fRm;top_caught
  top_raise
  exact fnv (mk_take0 ..)) fun h=>by
  refine run_err fRm rfl rfl ?_
  unfold fRm;top_caught
  have h:=eq_false_of_ne_true h
  top_raise
  exact fin_er
theorem c_glyph{z:Zp}{T}(hT:tot z=T):Sat b T us L F ex .str (pGlyph z) (cN prog (n+2) 24 [.o 4 b.length] (mk b z us L F ex)):=
 Sat.onT (fun z=>cN prog (n+2) 24 [.o 4 b.length] (mk b z us L F ex)) hT fun w o d r=>Sat.ite (fun⟨h1,h2⟩=>by
  refine Sat.ok (tot_take ..) (rCl fRg rfl rfl ?_)
  unfold fRg;top_caught
  top_raise
  exact fnv (mk_take0 ..)) fun h=>by
  refine run_err fRg rfl rfl ?_
  unfold fRg;top_caught
  cases h1:iNm w
  ·top_raise
   exact fin_er
  ·have h2:=eq_false_of_ne_true fun q=>h ⟨h1,q⟩
   top_raise
   exact fin_er
theorem c_tag{z:Zp}{T}(hT:tot z=T):Sat b T us L F ex .str (pTag z) (cN prog (n+2) 26 [.o 4 b.length] (mk b z us L F ex)):=
 Sat.onT (fun z=>cN prog (n+2) 26 [.o 4 b.length] (mk b z us L F ex)) hT fun w o d r=>Sat.ite (fun⟨h1,h2⟩=>by
  refine Sat.ok (tot_take ..) (rCl fRt rfl rfl ?_)
  unfold fRt;top_caught
  have h3:¬((w.length:Int) > 4):=Int.not_lt.2 (Int.ofNat_le.2 h2)
  top_raise
  exact fnv (mk_take0 ..)) fun h=>by
  refine run_err fRt rfl rfl ?_
  unfold fRt;top_caught
  cases h1:iNm w
  ·top_raise
   exact fin_er
  ·have h3:(w.length:Int) > 4:=Int.ofNat_lt.2 (Nat.lt_of_not_le fun q=>h ⟨h1,q⟩)
   top_raise
   exact fin_er
theorem sub_last(m)(c:Nat)(w:Wd):subO m (.v (.str (c::w))) (.int (-1))=some (.v (.str [(c::w).getLast (List.cons_ne_nil c w)])):=by
 show((idx (-1) (c::w).length).bind fun k=>(c::w)[k]?.map fun c=>V.str [c]).map W.v=_
 have h:idx (-1) (c::w).length=some w.length:=by
  unfold idx;rw[lcn,if_neg (by decide),if_pos (by lia)];congr 1;lia
 rw[h,List.getLast_eq_getElem]
 show((c::w)[w.length]?.map fun c=>V.str [c]).map W.v=_
 rw[gqe (Nat.lt_succ_self _)];rfl
theorem msg5(m:List AO){a sl c sh e:Wd}(ha:a.length≤100)(h1:sl.length≤100)(hc:c.length≤100)(h2:sh.length≤100)(he:e.length≤100):
  bin2 .add m (.v (.str a)) (.v (.str sl))=some (.v (.str (a++sl)))∧bin2 .add m (.v (.str (a++sl))) (.v (.str c))=some (.v (.str (a++sl++c)))∧
  bin2 .add m (.v (.str (a++sl++c))) (.v (.str sh))=some (.v (.str (a++sl++c++sh)))∧bin2 .add m (.v (.str (a++sl++c++sh))) (.v (.str e))=some (.v (.str (a++sl++c++sh++e))):=
 have q1:(a++sl).length≤200:=le_app ha h1 rfl
 have q2:(a++sl++c).length≤300:=le_app q1 hc rfl
 have q3:(a++sl++c++sh).length≤400:=le_app q2 h2 rfl
 have r:∀{x y:Wd} {k:Nat},x.length≤k→y.length≤100→Nat.ble k 500000=true→bin2 .add m (.v (.str x)) (.v (.str y))=some (.v (.str (x++y))):=fun h1 h2 h3=>bin_as _ _ _ (le_two (ltr h1 (bTl h3)) (ltr h2 (by decide)))
 ⟨r ha h1 rfl,r q1 hc rfl,r q2 h2 rfl,r q3 he rfl⟩
theorem c_num(lo hi:Int)(sl sh:Wd)(h1:toStrV (.int lo)=some (.str sl))(h2:toStrV (.int hi)=some (.str sh))(hl:sl.length≤100)(hh:sh.length≤100){z:Zp}{T}(hT:tot z=T):
  Sat b T us L F ex .int (pNum lo hi z) (cN prog (n+2) 25 [.o 4 b.length,.v (.int lo),.v (.int hi)] (mk b z us L F ex)):=
 Sat.onT (fun z=>cN prog (n+2) 25 [.o 4 b.length,.v (.int lo),.v (.int hi)] (mk b z us L F ex)) hT fun w o d r=>by
  obtain⟨b1,b2,b3,b4⟩:=msg5 (mk b (d,(w,o)::r) us L F ex) (a:=[97,32,110,117,109,98,101,114,32,102,114,111,109,32]) (c:=[32,116,111,32]) (e:=[32,105,115,32,109,105,115,115,105,110,103]) (by decide) hl (by decide) hh (by decide)
  have e1:(toStrV (.int lo)).map W.v=some (.v (.str sl)):=by rw[h1];rfl
  have e2:(toStrV (.int hi)).map W.v=some (.v (.str sh)):=by rw[h2];rfl
  show Sat b _ us L F ex .int (match numOf w with | none=>none | some none=>some (.error o) | some (some i)=>tokIf (lo≤i∧i≤hi) i (w,o) d r) _
  have bad:At (Errs b (mk b (d,(w,o)::r) us L F ex).length o) (kIf (cN prog (n+1)) [.raise (.meth 5 (.loc 0) [.bin .add (.bin .add (.bin .add (.bin .add (.str [97,32,110,117,109,98,101,114,32,102,114,111,109,32]) (.toStr (.loc 1))) (.str [32,116,111,32])) (.toStr (.loc 2))) (.str [32,105,115,32,109,105,115,115,105,110,103])])] [] [.expr (.meth 6 (.loc 0) []),.ret (.toInt (.loc 3))] kEnd true
    ⟨[some (.o 4 b.length),some (.v (.int lo)),some (.v (.int hi)),some (.v (.str w))],mk b (d,(w,o)::r) us L F ex⟩):=by
   top_raise
   exact fin_er
  cases w with
  |nil=>
   refine run_err fRn rfl rfl ?_
   unfold fRn;top_caught
   have h:([]:Wd)=[]:=rfl
   top_raise
  |cons c w=>
   have h:¬(c::w=[]):=List.cons_ne_nil c w
   have hlast:=sub_last (mk b (d,(c::w,o)::r) us L F ex) c w
   unfold numOf
   dsimp only
   generalize (c::w).getLast (List.cons_ne_nil c w)=l at hlast
   by_cases q:iSb [l] FIGS=true∧iSb [c] LTS=false∧(c::w).length≤6
   ·obtain⟨q1,q2,q3⟩:=q
    rw[if_pos ⟨q1,q2,q3⟩]
    have q3:¬(((c::w).length:Int) > 6):=Int.not_lt.2 (Int.ofNat_le.2 q3)
    cases q4:intOf (c::w)with
    |none=>trivial
    |some i=>
     have ht:(toIntV (.str (c::w))).map W.v=some (.v (.int i)):=by
      show((intOf (c::w)).map V.int).map W.v=_
      rw[q4];rfl
     refine Sat.ite (fun⟨q5,q6⟩=>?_) fun q5=>?_
     ·refine Sat.ok (tot_take ..) (rCl fRn rfl rfl ?_)
      unfold fRn;top_caught
      clear bad
      top_raise
      exact fnv (mk_take0 ..)
     ·refine run_err fRn rfl rfl ?_
      unfold fRn;top_caught
      by_cases q6:lo≤i
      ·have q7:¬i≤hi:=fun h=>q5 ⟨q6,h⟩
       top_raise;try exact fin_er
      ·top_raise;try exact fin_er
   ·rw[if_neg q]
    refine run_err fRn rfl rfl ?_
    unfold fRn;top_caught
    cases q1:iSb [l] FIGS
    ·top_raise;try exact fin_er
    ·cases q2:iSb [c] LTS
     ·have q3:((c::w).length:Int) > 6:=Int.ofNat_lt.2 (Nat.lt_of_not_le fun h=>q ⟨q1,q2,h⟩)
      top_raise;try exact fin_er
     ·top_raise;try exact fin_er
end
end
section
noncomputable def Q{α γ:Type}(b:List AO)(T:List Tk)(post:α→Zp→R γ→Prop)(p:Pr α)(r:R γ):Prop:=
 match p with
 |none=>True
 |some (.ok (a,z))=>post a z r∧tot z=T
 |some (.error e)=>∃loc m,r=some (.error (.exc (.int e)),⟨loc,b++m⟩)
abbrev endP{α:Type}(b:List AO)(us:α→List V)(L F:List V)(ex:List AO)(enc:α→V)(a:α)(z:Zp)(r:R Flow):Prop:=
 endR r (xa b ex 0)=some (.ok (.v (enc a)),mk b z (us a) L F ex)
abbrev nextP{α ε:Type}(S:ε→α→Zp→St)(a:α)(z:Zp)(r:R Flow):Prop:=∃e,r=some (.ok .next,S e a z)
noncomputable def SatU{α:Type}(b:List AO)(T:List Tk)(us:α→List V)(L F:List V)(ex:List AO)(enc:α→V)(p:Pr α)(c:Option (Except V W×List AO)):Prop:=
 match p with
 |none=>True
 |some (.ok (a,z))=>c=some (.ok (.v (enc a)),mk b z (us a) L F ex)∧tot z=T
 |some (.error e)=>∃m,c=some (.error (.exc (.int e)),b++m)
theorem bindP_okP{α:Type}(p:Pr α):bP p okP=p:=by rcases p with _ | (_ | ⟨_,_⟩)<;>rfl
theorem bPa{α β γ:Type}(p:Pr α)(f:α→Zp→Pr β)(g:β→Zp→Pr γ):bP (bP p f) g=bP p fun a z=>bP (f a z) g:=by rcases p with _ | (_ | ⟨_,_⟩)<;>rfl
section
variable{α β γ δ:Type}{b:List AO}{T:List Tk}{us L F:List V}{ex:List AO}{post:β→Zp→R γ→Prop}{p:Pr α}{k:α→Zp→Pr β}
theorem run_Q{us':α→List V}{enc:α→V}{n f:Nat}{args:List W}{z:Zp}(d:FnDef)(hf:fns[f]?=some d)(ha:args.length=d.np)
  (h:At (Q b T (endP b us' L F ex enc) p) (B (cN prog n) d.body kEnd ⟨args.map some++List.replicate (d.nl - d.np) none,mk b z us L F ex⟩)):
  SatU b T us' L F ex enc p (cN prog (n+1) f args (mk b z us L F ex)):=by
 rw[call_body n f _ _ d hf ha,mk_len]
 rcases p with _ | (e | ⟨a,z'⟩)
 ·trivial
 ·obtain⟨loc,m,h⟩:=h
  rw[h]
  exact⟨_,congrArg (fun l=>some (Except.error (V.exc (.int e)),l)) (take_app b _ _)⟩
 ·exact h
theorem run_S{enc:α→V}{n f:Nat}{args:List W}{z:Zp}(d:FnDef)(hf:fns[f]?=some d)(ha:args.length=d.np)
  (h:At (Q b T (endP b (fun o0=>us) L F ex enc) p) (B (cN prog n) d.body kEnd ⟨args.map some++List.replicate (d.nl - d.np) none,mk b z us L F ex⟩)):
  Sat b T us L F ex enc p (cN prog (n+1) f args (mk b z us L F ex)):=by
 have:=run_Q d hf ha h
 rcases p with _ | (e | ⟨a,z'⟩)<;>exact this
theorem Q.call{enc:α→V}{c loc}{K:Kt W γ}(H:Sat b T us L F ex enc p c)(Hk:∀a z,p=some (.ok (a,z))→tot z=T→At (Q b T post (k a z)) (K (.v (enc a)) ⟨loc,mk b z us L F ex⟩)):
  At (Q b T post (bP p k)) (callK c loc K):=by
 rcases p with _ | (e | ⟨a,z'⟩)
 ·trivial
 ·obtain⟨m,h⟩:=H;rw[h];exact⟨loc,m,rfl⟩
 ·obtain⟨h,ht⟩:=H;rw[h];exact Hk a z' rfl ht
theorem Q.call1{enc:β→V}{p:Pr β}{c loc}{K:Kt W γ}(H:Sat b T us L F ex enc p c)(Hk:∀a z,p=some (.ok (a,z))→tot z=T→At (Q b T post (okP a z)) (K (.v (enc a)) ⟨loc,mk b z us L F ex⟩)):
  At (Q b T post p) (callK c loc K):=bindP_okP p▸Q.call (k:=okP) H Hk
theorem Q.callU{usf:α→List V}{enc:α→V}{c loc}{K:Kt W γ}(H:SatU b T usf L F ex enc p c)(Hk:∀a z,p=some (.ok (a,z))→tot z=T→At (Q b T post (k a z)) (K (.v (enc a)) ⟨loc,mk b z (usf a) L F ex⟩)):
  At (Q b T post (bP p k)) (callK c loc K):=by
 rcases p with _ | (e | ⟨a,z'⟩)
 ·trivial
 ·obtain⟨m,h⟩:=H;rw[h];exact⟨loc,m,rfl⟩
 ·obtain⟨h,ht⟩:=H;rw[h];exact Hk a z' rfl ht
theorem Q.loop{ε:Type}{S:ε→α→Zp→St}{r:R Flow}{K:Kt Flow γ}(H:At (Q b T (nextP S) p) r)(Hk:∀e a z,p=some (.ok (a,z))→tot z=T→At (Q b T post (k a z)) (K .next (S e a z))):
  At (Q b T post (bP p k)) (bR r K):=by
 rcases p with _ | (e | ⟨a,z'⟩)
 ·trivial
 ·obtain⟨loc,m,h⟩:=H;rw[h];exact⟨loc,m,rfl⟩
 ·obtain⟨⟨e,h⟩,ht⟩:=H;rw[h];exact Hk e a z' rfl ht
theorem Q.loop1{ε:Type}{S:ε→β→Zp→St}{p:Pr β}{r:R Flow}{K:Kt Flow γ}(H:At (Q b T (nextP S) p) r)(Hk:∀e a z,p=some (.ok (a,z))→tot z=T→At (Q b T post (okP a z)) (K .next (S e a z))):
  At (Q b T post p) (bR r K):=bindP_okP p▸Q.loop (k:=okP) H Hk
theorem Q.assoc{δ:Type}{q:α→Zp→Pr δ}{k:δ→Zp→Pr β}{r:R γ}(h:At (Q b T post (bP p fun a z=>bP (q a z) k)) r):At (Q b T post (bP (bP p q) k)) r:=by rw[bPa];exact h
theorem Q.ok{post:α→Zp→R γ→Prop}{a z r}(ht:tot z=T)(h:post a z r):At (Q b T post (okP a z)) r:=⟨h,ht⟩
theorem Q.ite{c:Prop}{_:Decidable c}{p q:Pr β}{r:R γ}(h1:c→At (Q b T post p) r)(h2:¬c→At (Q b T post q) r):At (Q b T post (if c then p else q)) r:=by
 by_cases h:c
 ·rw[if_pos h];exact h1 h
 ·rw[if_neg h];exact h2 h
theorem Q.lim{c:Prop}{_:Decidable c}{p:Pr β}{r:R γ}(h1:c→At (Q b T post p) r):At (Q b T post (if c then p else none)) r:=Q.ite h1 fun o0=>trivial
theorem Q.bool{t:Bool}{p q:Pr β}{x y:St→R γ}{st:St}(h1:At (Q b T post p) (x st))(h2:At (Q b T post q) (y st)):At (Q b T post (if t=true then p else q)) (ifK t x y st):=by
 cases t
 ·exact h2
 ·exact h1
theorem Q.nbool{t:Bool}{p q:Pr β}{x y:St→R γ}{st:St}(h1:At (Q b T post p) (y st))(h2:At (Q b T post q) (x st)):At (Q b T post (if t=true then p else q)) (ifK (!t) x y st):=by
 cases t
 ·exact h2
 ·exact h1
theorem Q.err{e:Nat}{loc us L F ex z}:At (Q b T post (some (.error e))) (some (.error (.exc (.int e)),⟨loc,mk b z us L F ex⟩)):=⟨_,_,rfl⟩
theorem Q.fault{z:Zp}{n:Nat}{s:Wd}{us L F ex loc}:At (Q b T post (pFault z)) (callK (cN prog (n+1) 19 [.o 4 b.length,.v (.str s)] (mk b z us L F ex)) loc kRai):=
 match z with
 |(_,[])=>trivial
 |(d,(w,o)::r)=>At.call (c_fault ..) Q.err
theorem Q.ret{us':α→List V}{enc:α→V}{a:α}{z:Zp}{loc ls}(ht:tot z=T):At (Q b T (endP b us' L F ex enc) (okP a z)) (some (.ok (.ret (.v (enc a))),⟨loc,mk b z (us' a) L F (ex++ls)⟩)):=
 Q.ok ht (congrArg (fun m=>some (Except.ok (W.v (enc a)),m)) (mk_take ..))
theorem Q.retd{us':α→List V}{enc:α→V}{a:α}{z:Zp}{loc ls k o}(ht:tot z=T):At (Q b T (endP b us' L F ex enc) (okP a z)) (some (.ok (.ret (.v (enc a))),⟨loc,(mk b z (us' a) L F (ex++ls)).set (xa b ex k) o⟩)):=by rw[mk_setx];exact Q.ret ht
theorem Q.ret0{us':α→List V}{enc:α→V}{a:α}{z:Zp}{loc}(ht:tot z=T):At (Q b T (endP b us' L F ex enc) (okP a z)) (some (.ok (.ret (.v (enc a))),⟨loc,mk b z (us' a) L F ex⟩)):=by
 rw[mk_nil b z (us' a) L F ex];exact Q.ret ht
theorem Q.list{us':α→List V}{lf:α→List V}{a:α}{z:Zp}{loc ls k}(ht:tot z=T)(hk:ls[k]?=some (.list (lf a))):At (Q b T (endP b us' L F ex fun a=>.list (lf a)) (okP a z)) (some (.ok (.ret (.l (xa b ex k))),⟨loc,mk b z (us' a) L F (ex++ls)⟩)):=by
 refine Q.ok ht ?_
 show Option.map _ (if xa b ex 0≤xa b ex k then Option.map (fun l=>W.v (V.list l)) (aoL (mk b z (us' a) L F (ex++ls))[xa b ex k]?)else none)=_
 rw[if_pos (xa_le b ex k),mk_getx,hk]
 exact congrArg (fun m=>some (Except.ok (W.v (.list (lf a))),m)) (mk_take ..)
theorem Q.next0{us':α→List V}{enc:α→V}{a:α}{z:Zp}{loc}(he:enc a=.none)(ht:tot z=T):At (Q b T (endP b us' L F ex enc) (okP a z)) (some (.ok .next,⟨loc,mk b z (us' a) L F ex⟩)):=by
 refine Q.ok ht ?_
 unfold endP
 rw[he]
 have:=mk_take b z (us' a) L F ex []
 rw[apn]at this
 exact congrArg (fun m=>some (Except.ok (W.v .none),m)) this
end
noncomputable def pBack{α:Type}:Ps α:=fun z=>match z with | (t::_,_)=>some (.error t.2) | _=>none
noncomputable def gsLoop:Nat→List Wd→Ps (List Wd)
 |0,_=>fun o0=>none
 |n+1,found=>fun z=>bP (pSkip [93] z) fun t z=>if t then okP found z else
   bP (pWord z) fun w z=>if memW w found then pFault z else
   bP (pGlyph z) fun g z=>if found.length < 1000 then gsLoop n (found++[g]) z else none
noncomputable def pGlyphSet:Ps (List Wd):=fun z=>bP (gsLoop 40 [] z) fun found z=>if found.isEmpty=true then pBack z else okP found z
theorem gs_loop(C0:Nat)(b:List AO)(us L F:List V)(ex:List AO)(n:Nat):∀(found:List Wd) (z:Zp) {T},tot z=T→
  At (Q b T (nextP fun(o0:Unit) found z=>⟨[some (.o 4 b.length),some (.l (xa b ex 0))],mk b z us L F (ex++[.list (found.map .str)])⟩) (gsLoop n found z))
   (Wh (cN prog (C0+2)) (.not (.meth 7 (.loc 0) [(.str [93])])) [.ite (.cmp .in_ (.meth 3 (.loc 0) []) (.loc 1)) [.raise (.meth 5 (.loc 0) [(.str [97,32,103,108,121,112,104,32,116,119,105,99,101,32,105,110,32,97,32,115,101,116])])] [],.expr (.append (.loc 1) (.meth 10 (.loc 0) []))]
    ⟨[some (.o 4 b.length),some (.l (xa b ex 0))],mk b z us L F (ex++[.list (found.map .str)])⟩):=by
 induction n with
 |zero=>intros;trivial
 |succ n ih=>
  intro found z T hT
  refine At.wh ?_
  unfold gsLoop
  top_raise
  refine Q.call (c_skip _ _ _ _ _ _ _ hT) fun t z1 o0 e1=>?_
  top_raise
  refine Q.nbool (Q.ok e1 ⟨(),rfl⟩) ?_
  top_raise
  refine Q.call (c_wordS _ _ _ _ _ _ e1) fun w z2 o0 e2=>?_
  top_raise
  refine Q.bool ?_ ?_
  ·top_raise
   exact Q.fault
  ·top_raise
   refine Q.call (c_glyph _ _ _ _ _ _ e2) fun g z3 o0 e3=>?_
   refine Q.lim fun hl=>?_
   top_raise
   exact ih (found++[g]) z3 e3
end
section
section
variable(n:Nat)(b:List AO)(us L F:List V)(ex:List AO)
theorem c_glyphset{z:Zp}{T}(hT:tot z=T):Sat b T us L F ex (fun l=>.tup (l.map .str)) (pGlyphSet z) (cN prog (n+3) 27 [.o 4 b.length] (mk b z us L F ex)):=by
 refine run_S f_read_glyph_set rfl rfl ?_
 unfold pGlyphSet f_read_glyph_set;top_caught
 top_raise
 refine Q.loop (gs_loop n b us L F ex 40 [] z hT) fun o0 found z1 o0 e1=>?_
 top_raise
 refine Q.bool ?_ ?_
 ·obtain⟨_ | ⟨t,d⟩,r⟩:=z1
  ·trivial
  ·top_raise
   exact Q.fault (z:=(d,t::r))
 ·top_raise
  exact Q.ret e1
abbrev Item:=List Wd×Bool×List Tk
noncomputable def itemV(i:Item):V:=.tup [.tup (i.1.map .str),.bool i.2.1,.list (i.2.2.map tokV)]
noncomputable def luLoop:Nat→List Tk→Ps (List Tk)
 |0,_=>fun o0=>none
 |n+1,found=>fun z=>bP (pSkip [108,111,111,107,117,112] z) fun t z=>if t=true then
   bP (pTok z) fun t z=>if found.length < 1000 then bP (pName z) fun o0 z=>luLoop n (found++[t]) z else none
   else okP found z
noncomputable def pItemT(gs:List Wd):Ps Item:=fun z=>bP (pSkip [39] z) fun t z=>if t=true then bP (luLoop 40 [] z) fun ls z=>okP (gs,true,ls) z else okP (gs,false,[]) z
noncomputable def pItem:Ps Item:=fun z=>bP (pSkip [91] z) fun t z=>if t=true then bP (pGlyphSet z) pItemT else bP (pGlyph z) fun g z=>pItemT [g] z
theorem lu_loop(g:V)(k:Nat):∀(found:List Tk) (z:Zp) {T},tot z=T→
  At (Q b T (nextP fun(o0:Unit) found z=>⟨[some (.o 4 b.length),some (.v g),some (.l (xa b ex 0))],mk b z us L F (ex++[.list (found.map tokV)])⟩) (luLoop k found z))
   (Wh (cN prog (n+2)) (.meth 7 (.loc 0) [(.str [108,111,111,107,117,112])]) [.expr (.append (.loc 2) (.sub (.attr (.loc 0) 11) (.attr (.loc 0) 0))),.expr (.meth 9 (.loc 0) [])]
    ⟨[some (.o 4 b.length),some (.v g),some (.l (xa b ex 0))],mk b z us L F (ex++[.list (found.map tokV)])⟩):=by
 induction k with
 |zero=>intros;trivial
 |succ k ih=>
  intro found z T hT
  refine At.wh ?_
  unfold luLoop
  top_raise
  refine Q.call (c_skip _ _ _ _ _ _ _ hT) fun t z1 o0 e1=>?_
  top_raise
  refine Q.bool ?_ (Q.ok e1 ⟨(),rfl⟩)
  obtain⟨d,_ | ⟨t,r⟩⟩:=z1
  ·trivial
  ·refine Q.lim fun hl=>?_
   top_raise
   refine Q.call (c_name _ _ _ _ _ _ e1) fun w z2 o0 e2=>?_
   top_raise
   exact ih (found++[t]) z2 e2
theorem c_item{z:Zp}{T}(hT:tot z=T):Sat b T us L F ex itemV (pItem z) (cN prog (n+4) 28 [.o 4 b.length] (mk b z us L F ex)):=by
 refine run_S f_read_item rfl rfl ?_
 unfold pItem f_read_item;top_caught
 top_raise
 refine Q.call (c_skip _ _ _ _ _ _ _ hT) fun t z1 o0 e1=>?_
 top_raise
 have rest:∀gs z,tot z=T→At (Q b T (endP b (fun o0=>us) L F ex itemV) (pItemT gs z)) (kSet (cN prog (n+3)) 1 f_read_item.body.tail kEnd (.v (.tup (gs.map .str))) ⟨[some (.o 4 b.length),none,none],mk b z us L F ex⟩):=by
  intro gs z hT
  unfold f_read_item pItemT;top_caught
  top_raise
  refine Q.call (c_skip _ _ _ _ _ _ _ hT) fun t z2 o0 e2=>?_
  top_raise
  refine Q.nbool ?_ ?_
  ·top_raise
   refine Q.loop (lu_loop _ b us L F ex _ 40 [] z2 e2) fun o0 ls z3 o0 e3=>?_
   top_raise
   exact Q.retd (enc:=itemV) e3
  ·top_raise
   exact Q.retd (enc:=itemV) (a:=(gs,false,[])) e2
 refine Q.bool ?_ ?_
 ·top_raise
  refine Q.call (c_glyphset _ _ _ _ _ _ e1) fun gs z2 o0 e2=>?_
  exact rest gs z2 e2
 ·top_raise
  refine Q.call (c_glyph _ _ _ _ _ _ e1) fun g z2 o0 e2=>?_
  exact rest [g] z2 e2
end
end
section
section
variable{α γ:Type}{C:CallT}{i:Nat}{c e:X}{p:α→Bool}{g enc:α→V}
abbrev Turn(C:CallT)(i:Nat)(c e:X)(p:α→Bool)(g enc:α→V)(loc:List (Option W))(mem:List AO)(x:α):Prop:=
 (∀(P:R (List V)→Prop) k,At P (k (p x) ⟨loc.set i (some (.v (enc x))),mem⟩)→At P (tk C c k ⟨loc.set i (some (.v (enc x))),mem⟩))∧
 (p x=true→∀(P:R (List V)→Prop) k,At P (k (.v (g x)) ⟨loc.set i (some (.v (enc x))),mem⟩)→At P (ek C e k ⟨loc.set i (some (.v (enc x))),mem⟩))
theorem comp_pure0{loc:List (Option W)}{mem:List AO}:∀(l:List α),(∀x∈l,Turn C i c e p g enc loc mem x)→
  ∀w,At (fun r=>∃w',r=some (.ok ((l.filter p).map g),⟨loc.set i w',mem⟩)) (Co C [i] true c e (l.map enc) ⟨loc.set i w,mem⟩)
 |[],_,w=>⟨w,rfl⟩
 |x::l,h,w=>by
  obtain⟨h1,h2⟩:=h x (List.mem_cons_self ..)
  obtain⟨w',hw⟩:=comp_pure0 l (fun y hy=>h y (List.mem_cons_of_mem _ hy)) (some (.v (enc x)))
  refine⟨w',?_⟩
  rw[map_c,Co_cons]
  show kCo C [i] true c e (l.map enc) () ⟨(loc.set i w).set i (some (.v (enc x))),mem⟩=_
  rw[List.set_set]
  refine h1 (· =_) _ ?_
  cases hp:p x
  ·rw[List.filter_cons,hp];exact hw
  ·rw[List.filter_cons,hp]
   refine h2 hp (· =_) _ ?_
   show bR (Co C [i] true c e (l.map enc) ⟨loc.set i (some (.v (enc x))),mem⟩) (kCoA [g x])=_
   rw[hw];rfl
theorem At.comp{P:R γ→Prop}{loc loc0:List (Option W)}{mem:List AO}{l:List α}{k:Kt (List V) γ}(hi:i < loc.length)(h:∀x∈l,Turn C i c e p g enc loc mem x)
  (hk:At P (k ((l.filter p).map g) ⟨loc0,mem⟩)):At P (wiK (Co C [i] true c e (l.map enc) ⟨loc,mem⟩) loc0 k):=by
 obtain⟨w',hw⟩:=comp_pure0 l h loc[i]
 rw[List.set_getElem_self]at hw
 exact At.wi hw hk
theorem filt(l:List α):l.filter (fun o0=>true)=l:=List.filter_eq_self.2 fun o0 o0=>rfl
theorem At.comp1{P:R γ→Prop}{loc loc0:List (Option W)}{mem:List AO}{l:List α}{k:Kt (List V) γ}(hi:i < loc.length)
  (h:∀x∈l,∀(P:R (List V)→Prop) k,At P (k (.v (g x)) ⟨loc.set i (some (.v (enc x))),mem⟩)→At P (ek C e k ⟨loc.set i (some (.v (enc x))),mem⟩))
  (hk:At P (k (l.map g) ⟨loc0,mem⟩)):At P (wiK (Co C [i] true (.bool true) e (l.map enc) ⟨loc,mem⟩) loc0 k):=
 At.comp (p:=fun o0=>true) hi (fun x hx=>⟨fun o0 o0 h=>h,fun o0=>h x hx⟩) (by rw[filt];exact hk)
theorem compO_ok{r:List V}(h:r.length≤1000000):compO r=some (.v (.list r)):=if_pos (top_le h)
theorem compO_map{g:α→V}{l:List α}(h:l.length≤1000000):compO (l.map g)=some (.v (.list (l.map g))):=compO_ok (by rw[lmp];exact h)
end
theorem sub_m1(m){l:List V}{x:V}(h:l.getLast?=some x):subO m (.v (.list l)) (.int (-1))=some (.v x):=by
 show((idx (-1) l.length).bind fun k=>l[k]?).map W.v=_
 cases l with
 |nil=>cases h
 |cons a l=>
  have hi:idx (-1) (a::l).length=some l.length:=by
   unfold idx;rw[lcn,if_neg (by decide),if_pos (by lia)];congr 1;lia
  rw[hi]
  rw[List.getLast?_eq_getElem?]at h
  show((a::l)[l.length]?).map W.v=_
  rw[show(a::l)[l.length]?=some x from h];rfl
theorem subM1(b z us L F)(ex:List AO){α:Type}(f:α→V){l:List α}{a:α}{k:Nat}{m:List AO}(h:m[k]?=some (.list ((l++[a]).map f))):subO (mk b z us L F (ex++m)) (.l (xa b ex k)) (.int (-1))=some (.v (f a)):=by
 have:=sub_m1 m (l:=(l++[a]).map f) (x:=f a) (by rw[mpa];exact List.getLast?_concat)
 unfold subO;rw[der_x _ _ _ _ _ _ h];exact this
theorem subM2(b z us L F)(ex:List AO){α:Type}(f:α→V){l:List α}{a c:α}{k:Nat}{m:List AO}(h:m[k]?=some (.list ((l++[a]++[c]).map f))):subO (mk b z us L F (ex++m)) (.l (xa b ex k)) (.int (-2))=some (.v (f a)):=by
 unfold subO;rw[der_x _ _ _ _ _ _ h]
 show((idx (-2) ((l++[a]++[c]).map f).length).bind fun k=>((l++[a]++[c]).map f)[k]?).map W.v=_
 have hi:idx (-2) ((l++[a]++[c]).map f).length=some l.length:=by
  unfold idx;rw[lmp,lap,lap,List.length_singleton,List.length_singleton,if_neg (by decide),if_pos (by lia)];congr 1;lia
 rw[hi]
 show(((l++[a]++[c]).map f)[l.length]?).map W.v=_
 rw[List.getElem?_map,asc,List.getElem?_append_right (Nat.le_refl _),Nat.sub_self];rfl
theorem item0(m)(it:Item):subO m (.v (itemV it)) (.int 0)=some (.v (.tup (it.1.map .str))):=rfl
theorem item1(m)(it:Item):subO m (.v (itemV it)) (.int 1)=some (.v (.bool it.2.1)):=rfl
theorem item2(m)(it:Item):subO m (.v (itemV it)) (.int 2)=some (.v (.list (it.2.2.map tokV))):=rfl
local macro_rules (kind:=PyProof.Rows.tacticMem_news) | x=>dsL "Mine.item0 Mine.item1 Mine.item2"
local macro_rules (kind:=PySem.W.tacticTb_rel) | x=>alts "subM1:r subM2:r"
local macro_rules (kind:=PySem.W.tacticTb_rel) | x=>alts "compO_map:a"
noncomputable def pStarts:Ps Bool:=onT fun t d r=>some (.ok (decide (t.1=[91]) || iNm t.1,(d,t::r)))
noncomputable def itL:Nat→List Item→Item→Bool→Ps (List Item)
 |0,_,_,_=>fun o0=>none
 |n+1,pre,prev,over=>fun z=>bP (pStarts z) fun t z=>if t=true then
   (if pre.length < 900 then bP (pItem z) fun it z'=>
    if((over || (prev.2.1&&!it.2.1))&&it.2.1)=true then pFault z else itL n (pre++[prev]) it (over || (prev.2.1&&!it.2.1)) z' else none)
   else okP (pre++[prev]) z
noncomputable def pItems:Ps (List Item):=fun z=>bP (pItem z) fun it z=>itL 40 [] it false z
section
variable(n:Nat)(b:List AO)(us L F:List V)(ex:List AO)
theorem c_starts{z:Zp}{T}(hT:tot z=T):Sat b T us L F ex .bool (pStarts z) (cN prog (n+2) 29 [.o 4 b.length] (mk b z us L F ex)):=
 Sat.onT (fun z=>cN prog (n+2) 29 [.o 4 b.length] (mk b z us L F ex)) hT fun w o d r=>by
  refine Sat.ok rfl (rCl f_starts_item rfl rfl ?_)
  unfold f_starts_item;top_caught
  have e:=c_isname (n:=n) w (mk b (d,(w,o)::r) us L F ex)
  have e2:=c_word n b d r w o us L F ex
  by_cases h:w=[91]
  ·rw[show(decide (w=[91]) || iNm w)=decide (w=[91]) by rw[decide_eq_true h];rfl]
   top_raise
   exact fnv (tkA _)
  ·rw[decide_eq_false h]
   top_raise
   exact fnv (tkA _)
theorem items_loop(k:Nat):∀(pre:List Item) (prev:Item) (over:Bool) (z:Zp) (w:Option W) {T},tot z=T→
  At (Q b T (nextP fun(e:Option W×Option W) its z=>⟨[some (.o 4 b.length),some (.l (xa b ex 0)),e.1,e.2],mk b z us L F (ex++[.list (its.map itemV)])⟩) (itL k pre prev over z))
   (Wh (cN prog (n+4)) (.call 29 [(.loc 0)]) [.assign 3 (.attr (.loc 0) 0),.expr (.append (.loc 1) (.call 28 [(.loc 0)])),.assign 2 (.or [(.loc 2),(.and [(.sub (.sub (.loc 1) (.neg (.int 2))) (.int 1)),(.not (.sub (.sub (.loc 1) (.neg (.int 1))) (.int 1)))])]),.ite (.and [(.loc 2),(.sub (.sub (.loc 1) (.neg (.int 1))) (.int 1))]) [.setattr (.loc 0) 0 (.loc 3),.raise (.meth 5 (.loc 0) [(.str [119,104,97,116,32,105,115,32,109,97,114,107,101,100,32,100,111,101,115,32,110,111,116,32,115,116,97,110,100,32,105,110,32,97,32,114,111,119])])] []]
    ⟨[some (.o 4 b.length),some (.l (xa b ex 0)),some (.v (.bool over)),w],mk b z us L F (ex++[.list ((pre++[prev]).map itemV)])⟩):=by
 induction k with
 |zero=>intros;trivial
 |succ k ih=>
  intro pre prev over z w T hT
  refine At.wh ?_
  unfold itL
  top_raise
  refine Q.call (c_starts _ _ _ _ _ _ hT) fun t z1 o0 e1=>?_
  top_raise
  refine Q.bool ?_ (Q.ok e1 ⟨(_,_),rfl⟩)
  refine Q.lim fun hl=>?_
  top_raise
  refine Q.call (c_item _ _ _ _ _ _ e1) fun it z2 o0 e2=>?_
  have hl:(pre++[prev]).length < 1000:=by rw[lap,List.length_singleton];lia
  top_raise
  have he:=e1.trans e2.symm
  cases over
  ·cases h2:prev.2.1
   ·top_raise
    rw[h2]
    exact ih (pre++[prev]) it false z2 _ e2
   ·cases h3:it.2.1
    ·top_raise
     rw[h3]
     exact ih (pre++[prev]) it true z2 _ e2
    ·top_raise
     rw[h3]
     exact ih (pre++[prev]) it false z2 _ e2
  ·cases h3:it.2.1
   ·top_raise
    exact ih (pre++[prev]) it true z2 _ e2
   ·top_raise
    exact Q.fault
theorem c_items{z:Zp}{T}(hT:tot z=T):Sat b T us L F ex (fun l=>.list (l.map itemV)) (pItems z) (cN prog (n+5) 30 [.o 4 b.length] (mk b z us L F ex)):=by
 refine run_S f_read_items rfl rfl ?_
 unfold pItems f_read_items;top_caught
 top_raise
 refine Q.call (c_item _ _ _ _ _ _ hT) fun it z1 o0 e1=>?_
 top_raise
 refine Q.loop1 (items_loop n b us L F ex 40 [] it false z1 none e1) fun e its z2 o0 e2=>?_
 top_raise
 exact Q.list e2 rfl
end
end
section
local macro_rules (kind:=PyProof.Rows.tacticMem_news) | x=>dsL "Mine.item0 Mine.item1 Mine.item2"
local macro_rules (kind:=PySem.W.tacticTb_rel) | x=>alts "compO_map:a"
theorem set_last{c f k:Nat}{w:W}{m:List AO}{fs:List (Option W)}{loc}(h:(clss[c]?.bind fun d=>d.fields.idxOf? f)=some k)(hw:okField m.length w=true):
  setattrM prog (.o c m.length) f w ⟨loc,m++[.obj c fs]⟩=some (.ok (),⟨loc,m++[.obj c (fs.set k (some w))]⟩):=by
 have e:fieldIx prog c f=some k:=h
 have e2:(m++[AO.obj c fs])[m.length]?=some (.obj c fs):=get_app m _ 0
 have e3:(m++[AO.obj c fs]).set m.length (.obj c (fs.set k (some w)))=m++[.obj c (fs.set k (some w))]:=set_app m _ 0 _
 simp only[setattrM,e2,e,hw,aoO,Option.bind_some,and_self,if_true,e3]
theorem take_len{m:List AO}(x y:AO):(m++[y]).take (m++[x]).length=m++[y]:=by
 rw[lap,List.length_singleton];exact take_app m [y] 1
local macro_rules (kind:=PySem.W.tacticK_memK) | x=>alts "set_last:rr"
theorem c_init2(n:Nat)(a c:V)(m:List AO):cN prog (n+1) 6 [.o 2 m.length,.v a,.v c] (m++[.obj 2 [none,none]])=some (.ok (.v .none),m++[.obj 2 [some (.v a),some (.v c)]]):=by
 refine rCl f_RuleRow_init rfl rfl ?_
 unfold f_RuleRow_init;top_caught
 top_raise
 exact fin_n (take_len ..)
section
variable{α γ:Type}{b:List AO}{T:List Tk}{us L F:List V}{ex:List AO}
theorem xa_app{l:List AO}:xa b ex 0≤xa b (ex++l) 0:=by unfold xa;rw[lap];lia
theorem At.row{P:R γ→Prop}{n:Nat}{a c:V}{z:Zp}{k:Kt W γ}{loc}(h:At P (k (.o 2 (xa b ex 0)) ⟨loc,mk b z us L F (ex++[.obj 2 [some (.v a),some (.v c)]])⟩)):At P (newK (cN prog (n+1)) 2 [.v a,.v c] k ⟨loc,mk b z us L F ex⟩):=
 At.new (d:={fields:=[6,7],init:=6,meths:=[(0,7),(3,8),(4,9)]}) rfl (c_init2 n a c _) (by rw[mk_len,mk_app];exact h)
theorem Q.inst{us':α→List V}{enc:α→V}{a:α}{z:Zp}{loc c fs xs i m}(ht:tot z=T)(hi:xa b ex 0≤i)(hm:m[i]?=some (.obj c fs))(hf:fieldsV (xa b ex 0) m fs=some xs)(hk:m.take (xa b ex 0)=mk b z (us' a) L F ex)(he:enc a=.inst c xs):
  At (Q b T (endP b us' L F ex enc) (okP a z)) (some (.ok (.ret (.o c i)),⟨loc,m⟩)):=by
 refine Q.ok ht ?_
 simp only[endP,endR,flW,id,handBack,if_pos hi,hm,aoO,Option.bind_some,if_true,hf,Option.map_some,hk,he]
theorem Q.row{us':α→List V}{enc:α→V}{a:α}{z:Zp}{loc x y ls}(ht:tot z=T)(he:enc a=.inst 2 [x,y]):
  At (Q b T (endP b us' L F ex enc) (okP a z)) (some (.ok (.ret (.o 2 (xa b (ex++ls) 0))),⟨loc,mk b z (us' a) L F (ex++ls++[.obj 2 [some (.v x),some (.v y)]])⟩)):=
 Q.inst ht xa_app (mk_getx b z (us' a) L F (ex++ls) 0 _) rfl (by rw[asc];exact mk_take ..) he
theorem Q.row0{us':α→List V}{enc:α→V}{a:α}{z:Zp}{loc x y}(ht:tot z=T)(he:enc a=.inst 2 [x,y]):
  At (Q b T (endP b us' L F ex enc) (okP a z)) (some (.ok (.ret (.o 2 (xa b ex 0))),⟨loc,mk b z (us' a) L F (ex++[.obj 2 [some (.v x),some (.v y)]])⟩)):=
 Q.inst ht (Nat.le_refl _) (mk_getx b z (us' a) L F ex 0 _) rfl (mk_take ..) he
end
abbrev Row:=Wd×List V
noncomputable def rowV(r:Row):V:=.inst 2 [.str r.1,.tup r.2]
noncomputable def namesLoop:Nat→List Wd→Ps (List Wd)
 |0,_=>fun o0=>none
 |n+1,found=>fun z=>bP (pWord z) fun w z=>if iNm w=true then(if found.length < 1000 then bP (pGlyph z) fun g z=>namesLoop n (found++[g]) z else none)else okP found z
noncomputable def pNames:Ps (List Wd):=fun z=>bP (pGlyph z) fun g z=>namesLoop 40 [g] z
local macro_rules (kind:=PySem.W.tacticTb_start) | x=>alts "c_isname"
section
variable(n:Nat)(b:List AO)(us L F:List V)(ex:List AO)
theorem names_loop(k:Nat):∀(found:List Wd) (z:Zp) {T},tot z=T→
  At (Q b T (nextP fun(o0:Unit) found z=>⟨[some (.o 4 b.length),some (.l (xa b ex 0))],mk b z us L F (ex++[.list (found.map .str)])⟩) (namesLoop k found z))
   (Wh (cN prog (n+2)) (.call 16 [(.meth 3 (.loc 0) [])]) [.expr (.append (.loc 1) (.meth 10 (.loc 0) []))]
    ⟨[some (.o 4 b.length),some (.l (xa b ex 0))],mk b z us L F (ex++[.list (found.map .str)])⟩):=by
 induction k with
 |zero=>intros;trivial
 |succ k ih=>
  intro found z T hT
  refine At.wh ?_
  unfold namesLoop
  top_raise
  refine Q.call (c_wordS _ _ _ _ _ _ hT) fun w z1 o0 e1=>?_
  top_raise
  refine Q.bool (Q.lim fun hl=>?_) (Q.ok e1 ⟨(),rfl⟩)
  top_raise
  refine Q.call (c_glyph _ _ _ _ _ _ e1) fun g z2 o0 e2=>?_
  top_raise
  exact ih (found++[g]) z2 e2
theorem c_names{z:Zp}{T}(hT:tot z=T):Sat b T us L F ex (fun l=>.tup (l.map .str)) (pNames z) (cN prog (n+3) 32 [.o 4 b.length] (mk b z us L F ex)):=by
 refine run_S f_read_names rfl rfl ?_
 unfold pNames f_read_names;top_caught
 top_raise
 refine Q.call (c_glyph _ _ _ _ _ _ hT) fun g z1 o0 e1=>?_
 top_raise
 refine Q.loop1 (names_loop n b us L F ex 40 [g] z1 e1) fun o0 its z2 o0 e2=>?_
 top_raise
 exact Q.ret e2
theorem any_filter{α:Type}(p:α→Bool)(l:List α):(!(l.filter p).isEmpty)=l.any p:=by
 induction l with
 |nil=>rfl
 |cons a l ih=>
  rw[List.filter_cons,List.any_cons]
  cases p a
  ·exact ih
  ·rfl
theorem map_isEmpty{α β:Type}(f:α→β)(l:List α):(l.map f).isEmpty=l.isEmpty:=by cases l<;>rfl
theorem c_marked(items:List Item)(m:List AO)(h:items.length≤1000):cN prog (n+1) 33 [.v (.list (items.map itemV))] m=some (.ok (.v (.bool (items.any fun i=>i.2.1))),m):=by
 refine rCl f_is_marked rfl rfl ?_
 unfold f_is_marked;top_caught
 top_raise
 refine At.comp (p:=fun i:Item=>i.2.1) (g:=itemV) (by exact Nat.one_lt_two) (fun x o0=>⟨fun P k h=>?_,fun o0 P k h=>?_⟩) ?_
 ·top_raise;exact h
 ·top_raise;exact h
 ·have hl:(items.filter fun i=>i.2.1).length≤1000000:=ltr (List.length_filter_le ..) (ltr h (by decide))
  rw[←any_filter,←map_isEmpty itemV]
  top_raise
  exact fnv List.take_left
noncomputable def LOW:Int:= -32768
noncomputable def pWorth:Ps (List Int):=fun z=>bP (pSkip [60] z) fun t z=>if t=true then
  bP (pNum LOW 32767 z) fun i0 z=>bP (pNum LOW 32767 z) fun i1 z=>bP (pNum LOW 32767 z) fun i2 z=>bP (pNum LOW 32767 z) fun i3 z=>
  bP (pNeed [62] z) fun o0 z=>okP [i0,i1,i2,i3] z
 else bP (pNum LOW 32767 z) fun i z=>okP [0,0,i,0] z
theorem c_numW{z:Zp}{T}(hT:tot z=T):Sat b T us L F ex .int (pNum LOW 32767 z) (cN prog (n+2) 25 [.o 4 b.length,.v (.int LOW),.v (.int 32767)] (mk b z us L F ex)):=
 c_num n b us L F ex LOW 32767 [45,51,50,55,54,56] [51,50,55,54,55] (by rfl) (by rfl) (by decide) (by decide) hT
theorem Q.wiCall{γ δ:Type}{b T us L F ex}{α β:Type}{post:β→Zp→R δ→Prop}{p:Pr α}{k:α→Zp→Pr β}{enc:α→V}{c loc loc0}{K:Kt W γ}{K2:Kt γ δ}(H:Sat b T us L F ex enc p c)
  (Hk:∀a z,p=some (.ok (a,z))→tot z=T→At (Q b T post (k a z)) (wiK (K (.v (enc a)) ⟨loc,mk b z us L F ex⟩) loc0 K2)):At (Q b T post (bP p k)) (wiK (callK c loc K) loc0 K2):=by
 rcases p with _ | (e | ⟨a,z'⟩)
 ·trivial
 ·obtain⟨m,h⟩:=H;rw[h];exact⟨loc0,m,rfl⟩
 ·obtain⟨h,ht⟩:=H;rw[h];exact Hk a z' rfl ht
theorem c_worth{z:Zp}{T}(hT:tot z=T):Sat b T us L F ex (fun l=>.tup (l.map .int)) (pWorth z) (cN prog (n+4) 35 [.o 4 b.length] (mk b z us L F ex)):=by
 refine run_S f_read_worth rfl rfl ?_
 unfold pWorth f_read_worth;top_caught
 top_raise
 refine Q.call (c_skip _ _ _ _ _ _ _ hT) fun t z1 o0 e1=>?_
 top_raise
 refine Q.nbool ?_ ?_
 ·have hr:rngW [.v (.int 4)]=some [.int 0,.int 1,.int 2,.int 3]:=by show rng1O 4=_;unfold rng1O;rw[if_pos ⟨by decide,(top_le (by decide:4≤1000000):(4:Nat)≤top) |> Int.ofNat_le.2⟩];rfl
  top_raise
  refine Q.wiCall (c_numW _ _ _ _ _ _ e1) fun i0 z2 o0 e2=>?_
  top_raise
  refine Q.wiCall (c_numW _ _ _ _ _ _ e2) fun i1 z3 o0 e3=>?_
  top_raise
  refine Q.wiCall (c_numW _ _ _ _ _ _ e3) fun i2 z4 o0 e4=>?_
  top_raise
  refine Q.wiCall (c_numW _ _ _ _ _ _ e4) fun i3 z5 o0 e5=>?_
  have hc:compO ([.int i0]++([.int i1]++([.int i2]++([.int i3]++[]))))=some (.v (.list [.int i0,.int i1,.int i2,.int i3])):=compO_ok (bTl rfl)
  top_raise
  refine Q.call (c_need _ _ _ _ _ _ [62] (by decide) e5) fun o0 z6 o0 e6=>?_
  top_raise
  exact Q.ret0 e6
 ·top_raise
  refine Q.call (c_numW _ _ _ _ _ _ e1) fun i z2 o0 e2=>?_
  top_raise
  exact Q.ret0 e2
end
end
section
theorem lim_hd{α β:Type}{l:List α}{t:β}{r:List β}{k:Nat}(h:l.length+(t::r).length≤k):l.length≤k:=ltr (Nat.le_add_right ..) h
theorem lim_tl{α β:Type}{l:List α}{t:β}{r:List β}{k:Nat}{a:α}(h:l.length+(t::r).length≤k):(l++[a]).length+r.length≤k:=by
 rw[lap,List.length_singleton,Nat.add_assoc,Nat.add_comm 1];exact h
noncomputable def upFrom(k:Nat):Nat→List V
 |0=>[]
 |n+1=>.int (k:Int)::upFrom (k+1) n
theorem up_map(n:Nat):∀k,upFrom k n=(List.range' k n).map fun(i:Nat)=>V.int i:=by
 induction n with
 |zero=>intro;rfl
 |succ n ih=>intro k;exact congrArg (V.int k:: ·) (ih (k+1))
theorem up_eq(n k:Nat):(List.range n).map (fun(i:Nat)=>V.int ((k:Int)+(i:Int)))=upFrom k n:=by
 rw[up_map,List.range'_eq_map_range,List.map_map];rfl
theorem rngO_nat{k n:Nat}(hk:k≤1000000)(hn:n≤1000000):rngW [.v (.int k),.v (.int n)]=some (upFrom k (n - k)):=by
 show rngO k n=_
 unfold rngO
 rw[if_pos ⟨Int.natCast_nonneg k,Int.ofNat_le.2 (top_le hk),Int.natCast_nonneg n,Int.ofNat_le.2 (top_le hn)⟩]
 unfold range
 rw[up_eq,Int.toNat_sub]
theorem rng1_nat{n:Nat}(hn:n≤1000000):rngW [.v (.int n)]=some (upFrom 0 n):=by
 show rng1O n=_
 unfold rng1O
 rw[if_pos ⟨Int.natCast_nonneg n,Int.ofNat_le.2 (top_le hn)⟩]
 unfold range
 rw[show(n:Int) - 0=n from Int.sub_zero _,Int.toNat_natCast]
 exact congrArg some (up_eq n 0)
noncomputable def pRefuse(k:Nat):Ps Unit:=fun z=>match(z.1.reverse.drop k).find? (fun t=>decide (t.1=[91]))with
 |some t=>some (.error t.2)
 |none=>okP () z
noncomputable def refT(todo:List Tk):Ps Unit:=fun z=>match todo.find? (fun t=>decide (t.1=[91]))with
 |some t=>some (.error t.2)
 |none=>okP () z
section
variable(n:Nat)(b:List AO)(us L F:List V)(ex:List AO)
theorem refuse_loop(z:Zp):∀(todo:List Tk) (k:Nat) (k0:Int) (w:Option W),(tot z).drop k=todo++z.2→
  At (Q b (tot z) (nextP fun(w:Option W) (o0:Unit) z'=>⟨[some (.o 4 b.length),some (.v (.int k0)),w],mk b z' us L F ex⟩) (refT todo z))
   (Fo (cN prog (n+1)) [2] true [.ite (.cmp .eq (.sub (.sub (.attr (.loc 0) 11) (.loc 2)) (.int 0)) (.str [91])) [.setattr (.loc 0) 0 (.loc 2),.raise (.meth 5 (.loc 0) [(.str [97,32,115,101,116,32,111,117,116,115,105,100,101,32,111,102,32,97,32,99,104,97,105,110])])] []]
    (upFrom k todo.length) ⟨[some (.o 4 b.length),some (.v (.int k0)),w],mk b z us L F ex⟩)
 |[],k,k0,w,_=>Q.ok rfl ⟨w,rfl⟩
 |t::todo,k,k0,w,h=>by
  refine At.fo ?_
  have h0:(tot z)[k]?=some t:=by rw[←List.head?_drop,h];rfl
  have ht:=sub_l (mk b z us L F ex) (l:=(tot z).map tokV) (k:=k) (x:=tokV t) (by rw[List.getElem?_map,h0];rfl)
  have hd:(tot z).drop (k+1)=todo++z.2:=by rw[←List.drop_drop,h];rfl
  unfold refT
  rw[List.find?_cons]
  by_cases hq:t.1=[91]
  ·rw[decide_eq_true hq]
   have hk:k=(((tot z).take k).reverse,t::(todo++z.2)).1.length:=by
    rw[List.length_reverse,List.length_take]
    exact(Nat.min_eq_left (Nat.le_of_lt (List.getElem?_eq_some_iff.1 h0).1)).symm
   have hs:=set_ix b z us L F ex (((tot z).take k).reverse,t::(todo++z.2)) (by
    show((tot z).take k).reverse.reverse++(t::todo++z.2)=_
    rw[List.reverse_reverse,←h,List.take_append_drop]) [some (.o 4 b.length),some (.v (.int k0)),some (.v (.int k))]
   rw[←hk]at hs
   top_raise
   exact Q.fault (z:=(((tot z).take k).reverse,t::(todo++z.2)))
  ·rw[decide_eq_false hq]
   top_raise
   exact refuse_loop z todo (k+1) k0 _ hd
theorem c_refuse(k:Nat){z:Zp}{T}(hT:tot z=T)(hk:k≤1000000)(hl:T.length≤1000000):Sat b T us L F ex (fun o0=>.none) (pRefuse k z) (cN prog (n+2) 37 [.o 4 b.length,.v (.int k)] (mk b z us L F ex)):=by
 refine run_S f_refuse_sets rfl rfl ?_
 subst hT
 unfold f_refuse_sets;top_caught
 have hz:z.1.length≤1000000:=by
  refine ltr ?_ hl
  unfold tot;rw[lap,List.length_reverse];exact Nat.le_add_right ..
 have hr:=rngO_nat hk hz
 have e:z.1.length - k=(z.1.reverse.drop k).length:=by rw[List.length_drop,List.length_reverse]
 rw[e]at hr
 top_raise
 show At (Q _ _ _ (refT (z.1.reverse.drop k) z)) _
 by_cases hkz:k≤z.1.length
 ·refine Q.loop1 (refuse_loop n b us L F ex z (z.1.reverse.drop k) k k none (List.drop_append_of_le_length (by rw[List.length_reverse];exact hkz))) fun w o0 z2 o0 e2=>?_
  top_raise
  exact Q.next0 rfl e2
 ·rw[List.drop_eq_nil_of_le (by rw[List.length_reverse];exact Nat.le_of_not_le hkz)]
  top_raise
  exact Q.next0 rfl rfl
end
end
section
local macro_rules (kind:=PyProof.Rows.tacticMem_news) | x=>dsL "Mine.item0 Mine.item1 Mine.item2"
noncomputable def isMk(items:List Item)(i:Nat):Bool:=match items[i]? with | some it=>it.2.1 | none=>false
noncomputable def lsOf(items:List Item)(i:Nat):List Tk:=match items[i]? with | some it=>it.2.2 | none=>[]
noncomputable def marks(items:List Item):List Nat:=(List.range' 0 items.length).filter (isMk items)
noncomputable def actV(m0 i:Nat)(t:Tk):V:=.tup [.int ((i:Int) - m0),.str t.1]
noncomputable def glyV(it:Item):V:=.tup (it.1.map .str)
noncomputable def CHAIN:Wd:=[99,104,97,105,110]
noncomputable def chainOf(w:Wd)(items:List Item):Option (Row×List Tk):=
 match marks items with
 |[]=>none
 |m0::ms=>some ((CHAIN,[.str w,.tup ((items.map glyV).take m0),.tup (cut (items.map glyV) m0 (((m0::ms).getLast (List.cons_ne_nil m0 ms))+1)),.tup ((items.map glyV).drop (((m0::ms).getLast (List.cons_ne_nil m0 ms))+1)),.tup ((m0::ms).flatMap fun i=>(lsOf items i).map (actV m0 i))]),(m0::ms).flatMap (lsOf items))
theorem sub_h(m a l):subO m (.v (.list (a::l))) (.int 0)=some (.v a):=sub_l m (k:=0) rfl
theorem sbN(m){α:Type}(f:α→V){l:List α}{i:Nat}{a:α}(h:l[i]?=some a):subO m (.v (.list (l.map f))) (.int i)=some (.v (f a)):=sub_l m (by rw[List.getElem?_map,h];rfl)
theorem sliceTo_n(m)(l:List V)(k:Nat):sliceO m (.v (.list l)) none (some (.int k))=some (.v (.list (l.take k))):=by
 show(if 0≤(k:Int)then some (V.list (l.take (k:Int).toNat))else none).map W.v=_
 rw[if_pos (Int.natCast_nonneg k)];rfl
theorem sliceFrom_n(m)(l:List V)(k:Nat):sliceO m (.v (.list l)) (some (.int ((k:Int)+1))) none=some (.v (.list (l.drop (k+1)))):=by
 show(if 0≤((k+1:Nat):Int)then some (V.list (l.drop ((k+1:Nat):Int).toNat))else none).map W.v=_
 rw[if_pos (Int.natCast_nonneg _)];rfl
theorem slice_n(m)(l:List V)(j k:Nat):sliceO m (.v (.list l)) (some (.int j)) (some (.int ((k:Int)+1)))=some (.v (.list (cut l j (k+1)))):=by
 show(if 0≤(j:Int)∧0≤((k+1:Nat):Int)then some (V.list (cut l (j:Int).toNat ((k+1:Nat):Int).toNat))else none).map W.v=_
 rw[if_pos ⟨Int.natCast_nonneg j,Int.natCast_nonneg _⟩];rfl
local macro_rules (kind:=PySem.W.tacticTb_rel) | x=>alts "sub_h sbN:a sub_m1:a sliceTo_n sliceFrom_n slice_n compO_map:a compO_ok:a"
local macro_rules (kind:=PySem.W.tacticK_memK) | x=>alts "app_us:a app_x:ra"
section
variable(n:Nat)(b:List AO)(us L F:List V)(ex:List AO)
noncomputable def chLoc(b ex:List AO)(w items:W)(o3:Option W)(ms:V)(o6 o7:Option W):List (Option W):=[some w,some items,some (.l (b.length+4)),o3,some (.v ms),some (.l (xa b ex 0)),o6,o7,none,none]
theorem chain_inner(C:CallT)(z:Zp)(w items:W)(i m0:Nat)(ms:List V):∀(ls:List Tk) (us:List V) (acts:List V) (o6 o7:Option W),us.length+ls.length≤1000→acts.length+ls.length≤1000→
  At (fun r=>∃o6' o7',r=some (.ok .next,⟨chLoc b ex w items (some (.v (.int i))) (.list (.int m0::ms)) o6' o7',mk b z (us++ls.map tokV) L F (ex++[.list (acts++ls.map (actV m0 i))])⟩))
  (Fo C [6,7] false [.expr (.append (.loc 5) (.tup [(.bin .sub (.loc 3) (.sub (.loc 4) (.int 0))),(.loc 6)])),.expr (.append (.loc 2) (.tup [(.loc 6),(.loc 7)]))] (ls.map tokV)
   ⟨chLoc b ex w items (some (.v (.int i))) (.list (.int m0::ms)) o6 o7,mk b z us L F (ex++[.list acts])⟩)
 |[],us,acts,o6,o7,_,_=>⟨o6,o7,by rw[List.map_nil,List.map_nil,apn,apn];rfl⟩
 |t::ls,us,acts,o6,o7,h1,h2=>by
  have g1:=lim_hd h1
  have g2:=lim_hd h2
  have:=chain_inner C z w items i m0 ms ls (us++[tokV t]) (acts++[actV m0 i t]) (some (.v (.str t.1))) (some (.v (.int t.2))) (lim_tl h1) (lim_tl h2)
  rw[asc,asc]at this
  refine At.fo (x:=.tup [.str t.1,.int t.2]) ?_
  unfold chLoc
  top_raise
  exact this
theorem chain_outer(C:CallT)(z:Zp)(w:W)(items:List Item)(m0:Nat)(ms:List V):∀(l:List Nat) (us:List V) (acts:List V) (o3 o6 o7:Option W),(∀i∈l,i < items.length)→us.length+(l.flatMap (lsOf items)).length≤1000→acts.length+(l.flatMap (lsOf items)).length≤1000→
  At (fun r=>∃o3' o6' o7',r=some (.ok .next,⟨chLoc b ex w (.v (.list (items.map itemV))) o3' (.list (.int m0::ms)) o6' o7',mk b z (us++(l.flatMap (lsOf items)).map tokV) L F (ex++[.list (acts++l.flatMap fun i=>(lsOf items i).map (actV m0 i))])⟩))
  (Fo C [3] true [.for_ [6,7] false (.x (.sub (.sub (.loc 1) (.loc 3)) (.int 2))) [.expr (.append (.loc 5) (.tup [(.bin .sub (.loc 3) (.sub (.loc 4) (.int 0))),(.loc 6)])),.expr (.append (.loc 2) (.tup [(.loc 6),(.loc 7)]))]] (l.map fun(i:Nat)=>V.int i)
   ⟨chLoc b ex w (.v (.list (items.map itemV))) o3 (.list (.int m0::ms)) o6 o7,mk b z us L F (ex++[.list acts])⟩)
 |[],us,acts,o3,o6,o7,_,_,_=>⟨o3,o6,o7,by show some _=some _;rw[show us++(([]:List Nat).flatMap (lsOf items)).map tokV=us from apn _,show(acts++([]:List Nat).flatMap fun i=>(lsOf items i).map (actV m0 i))=acts from apn _]⟩
 |i::l,us,acts,o3,o6,o7,hm,h1,h2=>by
  obtain⟨it,hit⟩:∃it,items[i]?=some it:=⟨_,gqe (hm i (List.mem_cons_self ..))⟩
  have hl:lsOf items i=it.2.2:=by unfold lsOf;rw[hit]
  rw[List.flatMap_cons,List.flatMap_cons,mpa,←asc,←asc,hl]
  rw[List.flatMap_cons,lap,hl]at h1 h2
  have g1:us.length+it.2.2.length≤1000:=ltr (Nat.add_le_add_left (Nat.le_add_right ..) _) h1
  have g2:acts.length+it.2.2.length≤1000:=ltr (Nat.add_le_add_left (Nat.le_add_right ..) _) h2
  obtain⟨p6,p7,hin⟩:=chain_inner b L F ex C z w (.v (.list (items.map itemV))) i m0 ms it.2.2 us acts o6 o7 g1 g2
  have h:=chain_outer C z w items m0 ms l (us++it.2.2.map tokV) (acts++it.2.2.map (actV m0 i)) (some (.v (.int i))) p6 p7 (fun j hj=>hm j (List.mem_cons_of_mem _ hj)) (by rw[lap,lmp,Nat.add_assoc];exact h1) (by rw[lap,lmp,Nat.add_assoc];exact h2)
  refine At.fo ?_
  unfold chLoc at hin ⊢
  top_raise
  exact h
omit n us in
theorem fin_row{us us':List V}{z:Zp}{ls:List AO}{loc}{r:Row}{x y:V}(he:rowV r=.inst 2 [x,y]):At (Ends (mk b z us L F ex).length (some (.ok (.v (rowV r)),mk b z us' L F ex))) (some (.ok (.ret (.o 2 (xa b (ex++ls) 0))),⟨loc,mk b z us' L F (ex++ls++[.obj 2 [some (.v x),some (.v y)]])⟩)):=by
 show endR _ (mk b z us L F ex).length=_
 rw[mk_len]
 exact(Q.row (T:=tot z) (us':=fun o0=>us') (enc:=rowV) (a:=r) rfl he:_∧_).1
theorem c_chain(items:List Item)(w:Wd)(row:Row)(uses:List Tk)(z:Zp)(hi:items.length≤1000)(hc:chainOf w items=some (row,uses))(hu:us.length+uses.length≤1000):
  cN prog (n+2) 31 [.v (.str w),.v (.list (items.map itemV)),.l (b.length+4)] (mk b z us L F ex)=some (.ok (.v (rowV row)),mk b z (us++uses.map tokV) L F ex):=by
 have hm:∀i∈marks items,i < items.length:=fun i h=>Nat.zero_add items.length▸(List.mem_range'_1.1 (List.mem_filter.1 h).1).2
 have hlm:(marks items).length≤1000000:=ltr (List.length_filter_le ..) (by rw[List.length_range'];exact ltr hi (by decide))
 unfold chainOf at hc
 have hr:=rng1_nat (ltr hi (by decide:1000≤1000000))
 rw[up_map]at hr
 refine rCl f_chain_row rfl rfl ?_
 unfold f_chain_row;top_caught
 have hlen:((items.map itemV).length:Int)=(items.length:Int):=by rw[lmp]
 top_raise
 rw[hlen]
 top_raise
 refine At.comp (p:=isMk items) (g:=fun(i:Nat)=>V.int i) (by exact Nat.lt_of_lt_of_le Nat.one_lt_two (Nat.le_succ _)) (fun i hi2=>?_) ?_
 ·obtain⟨it,hit⟩:∃it,items[i]?=some it:=⟨_,gqe (Nat.zero_add items.length▸(List.mem_range'_1.1 hi2).2)⟩
  refine⟨fun P k h=>?_,fun o0 P k h=>?_⟩
  ·unfold isMk at h
   rw[hit]at h
   top_raise
   exact h
  ·top_raise
   exact h
 ·show At _ (kCp2 _ _ _ ((marks items).map _) _)
  generalize marks items=M at*
  cases M with
  |nil=>cases hc
  |cons m0 ms=>
   cases hc
   top_raise
   obtain⟨q3,q6,q7,ho⟩:=chain_outer b L F ex (cN prog (n+1)) z (.v (.str w)) items m0 (ms.map fun(i:Nat)=>V.int i) (m0::ms) us [] none none none hm hu (by rw[List.length_nil,Nat.zero_add];exact ltr (Nat.le_add_left ..) hu)
   refine At.bnd ho ?_
   unfold chLoc
   top_raise
   refine At.comp1 (g:=glyV) (by exact Nat.one_lt_two) (fun it o0 P k h=>?_) ?_
   ·top_raise
    exact h
   have hlast:(List.map (fun(i:Nat)=>V.int i) (m0::ms)).getLast?=some (.int ((m0::ms).getLast (List.cons_ne_nil m0 ms):Nat)):=by rw[List.getLast?_map,List.getLast?_eq_some_getLast (List.cons_ne_nil m0 ms)];rfl
   generalize (m0::ms).getLast (List.cons_ne_nil m0 ms)=last at*
   have hi':items.length≤1000000:=ltr hi (by decide)
   top_raise
   refine At.row ?_
   top_raise
   exact fin_row _ _ _ _ rfl
end
end
section
noncomputable def SUB:Wd:=[115,117,98]
noncomputable def POS:Wd:=[112,111,115]
noncomputable def FROM:Wd:=[102,114,111,109]
noncomputable def BY:Wd:=[98,121]
noncomputable def NULL:Wd:=[78,85,76,76]
noncomputable def ALT:Wd:=[97,108,116,101,114,110,97,116,101]
noncomputable def LIG:Wd:=[108,105,103,97,116,117,114,101]
noncomputable def MULT:Wd:=[109,117,108,116,105,112,108,101]
noncomputable def SINGLE:Wd:=[115,105,110,103,108,101]
noncomputable def ADJ:Wd:=[97,100,106,117,115,116]
noncomputable def PAIR:Wd:=[112,97,105,114]
noncomputable def okIt(items:List Item):Bool:=decide (items.length≤1000)&&items.all fun it=>!it.1.isEmpty
noncomputable def leftOf(items:List Item):List Wd:=items.map fun it=>it.1.headD []
noncomputable def subRow(l0:Wd)(rt:List Wd):Row:=match rt with
 |[g]=>(SINGLE,[.str l0,.str g])
 |_=>(MULT,[.str l0,.tup (rt.map .str)])
noncomputable def pSub1(l:List Wd):Ps Row:=fun z=>match l with
 |[]=>none
 |[l0]=>bP (pSkip FROM z) fun t z=>if t=true then bP (pNeed [91] z) fun o0 z=>bP (pGlyphSet z) fun s z=>okP (ALT,[.str l0,.tup (s.map .str)]) z
  else bP (pNeed BY z) fun o0 z=>bP (pSkip NULL z) fun t z=>if t=true then okP (MULT,[.str l0,.tup []]) z else bP (pNames z) fun rt z=>okP (subRow l0 rt) z
 |l0::l1::ls=>bP (pNeed BY z) fun o0 z=>bP (pGlyph z) fun g z=>okP (LIG,[.tup ((l0::l1::ls).map .str),.str g]) z
noncomputable def pSub(items:List Item):Ps Row:=fun z=>if okIt items=true then pSub1 (leftOf items) z else none
noncomputable def pPos(items:List Item):Ps Row:=fun z=>if okIt items=true then(if 2 < (leftOf items).length then pFault z else bP (pWorth z) fun ws z=>
  okP ((if(leftOf items).length=1 then ADJ else PAIR),(leftOf items).map .str++[.tup (ws.map .int)]) z)else none
theorem sub_t0(m a l):subO m (.v (.tup (a::l))) (.int 0)=some (.v a):=sub_t m (k:=0) rfl
theorem sub_tm(m)(a:Wd)(l):subO m (.v (.tup (List.map V.str (a::l)))) (.int 0)=some (.v (.str a)):=sub_t m (k:=0) rfl
theorem okIt_len{items:List Item}(h:okIt items=true):(leftOf items).length≤1000:=by
 unfold leftOf;rw[lmp];exact of_decide_eq_true ((Bool.and_eq_true _ _).mp h).1
theorem okIt_hd{items:List Item}(h:okIt items=true){it:Item}(hx:it∈items):it.1.map V.str=.str (it.1.headD [])::it.1.tail.map .str:=by
 have:=List.all_eq_true.mp ((Bool.and_eq_true _ _).mp h).2 it hx
 match e:it.1 with
 |[]=>rw[e]at this;cases this
 |_::_=>rfl
local macro_rules (kind:=PyProof.Rows.tacticMem_news) | x=>dsL "Mine.item0 Mine.item1 Mine.item2"
local macro_rules (kind:=PySem.W.tacticTb_rel) | x=>alts "sub_h sub_tm sub_t0 compO_map:a"
theorem Q.retE{α:Type}{b:List AO}{T:List Tk}{us0 L F:List V}{ex:List AO}{us':α→List V}{enc:α→V}{a:α}{z:Zp}{loc}(he:us' a=us0)(ht:tot z=T):At (Q b T (endP b us' L F ex enc) (okP a z)) (some (.ok (.ret (.v (enc a))),⟨loc,mk b z us0 L F ex⟩)):=he▸Q.ret0 ht
theorem two_ne(l:List V){a b:V}:¬((a::b::l).length:Int)=1:=fun h=>absurd (Int.ofNat.inj h) (fun h=>Nat.noConfusion (Nat.succ.inj h))
section
variable(n:Nat)(b:List AO)(us L F:List V)(ex:List AO)
omit n b us L F ex in
theorem left_comp{γ:Type}{P:R γ→Prop}{C:CallT}{items:List Item}{loc:List (Option W)}{loc0 m}{k:Kt (List V) γ}(hi:1 < loc.length)(ho:okIt items=true)(hk:At P (k ((leftOf items).map .str) ⟨loc0,m⟩)):
  At P (wiK (Co C [1] true (.bool true) (.sub (.sub (.loc 1) (.int 0)) (.int 0)) (items.map itemV) ⟨loc,m⟩) loc0 k):=by
 refine At.comp1 (g:=fun it:Item=>V.str (it.1.headD [])) hi (fun it hit P k h=>?_) (by unfold leftOf at hk;rw[List.map_map]at hk;exact hk)
 have e:((loc.set 1 (some (.v (itemV it))))[1]?).join=some (.v (itemV it)):=by rw[List.getElem?_set_self hi];rfl
 have e1:=okIt_hd ho hit
 top_raise
 rw[e1]
 top_raise
theorem c_sub(items:List Item){z:Zp}{T}(hT:tot z=T):Sat b T us L F ex rowV (pSub items z) (cN prog (n+4) 34 [.o 4 b.length,.v (.list (items.map itemV))] (mk b z us L F ex)):=by
 refine run_S fRr rfl rfl ?_
 unfold pSub fRr;top_caught
 refine Q.ite (fun ho=>?_) fun o0=>trivial
 have hl:=ltr (okIt_len ho) (by decide:1000≤1000000)
 top_raise
 refine left_comp (Nat.lt_succ_self 1) ho ?_
 generalize leftOf items=l at*
 top_raise
 rcases l with _ | ⟨l0,_ | ⟨l1,ls⟩⟩
 ·trivial
 ·unfold pSub1
  have h1:((List.map V.str [l0]).length:Int)=1:=rfl
  have h2:¬((List.map V.str [l0]).length:Int) > 1:=Int.lt_irrefl 1
  top_raise
  refine Q.call (c_skip _ _ _ _ _ _ FROM hT) fun t z1 o0 e1=>?_
  top_raise
  refine Q.bool ?_ ?_
  ·top_raise
   refine Q.call (c_need _ _ _ _ _ _ [91] (by decide) e1) fun o0 z2 o0 e2=>?_
   top_raise
   refine Q.call (c_glyphset _ _ _ _ _ _ e2) fun s z3 o0 e3=>?_
   top_raise
   refine At.row ?_
   top_raise
   exact Q.row0 e3 rfl
  ·top_raise
   refine Q.call (c_need _ _ _ _ _ _ BY (by decide) e1) fun o0 z2 o0 e2=>?_
   top_raise
   refine Q.call (c_skip _ _ _ _ _ _ NULL e2) fun t z3 o0 e3=>?_
   top_raise
   refine Q.bool ?_ ?_
   ·top_raise
    refine At.row ?_
    top_raise
    exact Q.row0 e3 rfl
   ·top_raise
    refine Q.call (c_names _ _ _ _ _ _ e3) fun rt z4 o0 e4=>?_
    top_raise
    rcases rt with _ | ⟨g,_ | ⟨g2,gs⟩⟩
    ·have h3:¬((List.map V.str []).length:Int)=1:=Int.zero_ne_one
     top_raise
     refine At.row ?_
     top_raise
     exact Q.row0 e4 rfl
    ·have h3:((List.map V.str [g]).length:Int)=1:=rfl
     top_raise
     refine At.row ?_
     top_raise
     exact Q.row0 e4 rfl
    ·have h3:¬((List.map V.str (g::g2::gs)).length:Int)=1:=two_ne _
     top_raise
     refine At.row ?_
     top_raise
     exact Q.row0 e4 rfl
 ·unfold pSub1
  have h1:¬((List.map V.str (l0::l1::ls)).length:Int)=1:=two_ne _
  have h2:((List.map V.str (l0::l1::ls)).length:Int) > 1:=Int.ofNat_lt.2 (Nat.succ_lt_succ (Nat.zero_lt_succ _))
  top_raise
  refine Q.call (c_need _ _ _ _ _ _ BY (by decide) hT) fun o0 z2 o0 e2=>?_
  top_raise
  refine Q.call (c_glyph _ _ _ _ _ _ e2) fun g z3 o0 e3=>?_
  top_raise
  refine At.row ?_
  top_raise
  exact Q.row0 e3 rfl
theorem c_pos(items:List Item){z:Zp}{T}(hT:tot z=T):Sat b T us L F ex rowV (pPos items z) (cN prog (n+5) 36 [.o 4 b.length,.v (.list (items.map itemV))] (mk b z us L F ex)):=by
 refine run_S f_read_position_row rfl rfl ?_
 unfold pPos f_read_position_row;top_caught
 refine Q.ite (fun ho=>?_) fun o0=>trivial
 have hl:=ltr (okIt_len ho) (by decide:1000≤1000000)
 top_raise
 refine left_comp (Nat.lt_succ_self 1) ho ?_
 generalize leftOf items=l at*
 top_raise
 refine Q.ite (fun h2=>?_) fun h2=>?_
 ·have h2:((l.map V.str).length:Int) > 2:=by rw[lmp];exact Int.ofNat_lt.2 h2
  top_raise
  exact Q.fault
 ·have h2':¬((l.map V.str).length:Int) > 2:=by rw[lmp];exact Int.not_lt.2 (Int.ofNat_le.2 (Nat.le_of_not_lt h2))
  have hw:∀(m) (ws:List Int),bin2 .add m (.v (.tup (l.map .str))) (.v (.tup [.tup (ws.map .int)]))=some (.v (.tup (l.map .str++[.tup (ws.map .int)]))):=fun m ws=>bin_at m _ _ (by rw[lmp];exact ltr (Nat.add_le_add_right (Nat.le_of_not_lt h2) 1) (by decide))
  by_cases h1:l.length=1
  ·have h1':((l.map V.str).length:Int)=1:=by rw[lmp,h1];rfl
   rw[if_pos h1]
   top_raise
   refine Q.call (c_worth _ _ _ _ _ _ hT) fun ws z3 o0 e3=>?_
   have hw:=hw (mk b z3 us L F ex) ws
   top_raise
   refine At.row ?_
   top_raise
   exact Q.row0 e3 rfl
  ·have h1':¬((l.map V.str).length:Int)=1:=by rw[lmp];exact fun q=>h1 (Int.ofNat.inj q)
   rw[if_neg h1]
   top_raise
   refine Q.call (c_worth _ _ _ _ _ _ hT) fun ws z3 o0 e3=>?_
   have hw:=hw (mk b z3 us L F ex) ws
   top_raise
   refine At.row ?_
   top_raise
   exact Q.row0 e3 rfl
noncomputable def pRow1(w:Wd)(z0:Zp)(items:List Item):Ps (Row×List Tk):=fun z=>if items.length≤1000 then
  (if(items.any fun i=>i.2.1)=true then match chainOf w items with
   |none=>none
   |some p=>if p.2.length≤100 then bP (pNeed [59] z) fun o0 z=>okP p z else none
  else bP (pRefuse z0.1.length z) fun o0 z=>if w=SUB then bP (pSub items z) fun row z=>bP (pNeed [59] z) fun o0 z=>okP (row,[]) z else bP (pPos items z) fun row z=>bP (pNeed [59] z) fun o0 z=>okP (row,[]) z)
 else none
noncomputable def pRow:Ps (Row×List Tk):=fun z=>bP (pTake z) fun w z0=>bP (pItems z0) fun items z=>pRow1 w z0 items z
theorem c_row(hu:us.length≤900){z:Zp}{T}(hT:tot z=T)(hl:T.length≤1000000):SatU b T (fun a=>us++a.2.map tokV) L F ex (fun a=>rowV a.1) (pRow z) (cN prog (n+6) 38 [.o 4 b.length,.l (b.length+4)] (mk b z us L F ex)):=by
 refine run_Q f_read_row rfl rfl ?_
 unfold pRow f_read_row;top_caught
 top_raise
 refine Q.call (c_takeS _ _ _ _ _ _ hT) fun w z1 o0 e1=>?_
 top_raise
 refine Q.call (c_items _ _ _ _ _ _ e1) fun items z2 o0 e2=>?_
 unfold pRow1
 refine Q.lim fun hi=>?_
 have hm:=c_marked (n+4) items (mk b z2 us L F ex) hi
 top_raise
 refine Q.bool ?_ ?_
 ·cases hc:chainOf w items with
  |none=>trivial
  |some p=>
   obtain⟨row,uses⟩:=p
   refine Q.lim fun hu2=>?_
   have hch:=c_chain (n+3) b us L F ex items w row uses z2 hi hc (ltr (Nat.add_le_add hu hu2) (Nat.le_refl 1000))
   top_raise
   refine Q.call (c_need _ _ _ _ _ _ [59] (by decide) e2) fun o0 z3 o0 e3=>?_
   top_raise
   exact Q.ret0 (a:=(row,uses)) (enc:=fun a:Row×List Tk=>rowV a.1) e3
 ·top_raise
  refine Q.call (c_refuse _ _ _ _ _ _ _ e2 ?_ hl) fun o0 z3 o0 e3=>?_
  ·rw[←e1]at hl
   exact ltr (by unfold tot;rw[lap,List.length_reverse];exact Nat.le_add_right ..) hl
  top_raise
  by_cases hw:w=SUB
  ·have hw':w=[115,117,98]:=hw
   rw[if_pos hw]
   top_raise
   refine Q.call (c_sub _ _ _ _ _ _ items e3) fun row z4 o0 e4=>?_
   top_raise
   refine Q.call (c_need _ _ _ _ _ _ [59] (by decide) e4) fun o0 z5 o0 e5=>?_
   top_raise
   exact Q.retE (a:=(row,[])) (enc:=fun a:Row×List Tk=>rowV a.1) (apn us) e5
  ·have hw':¬w=[115,117,98]:=hw
   rw[if_neg hw]
   top_raise
   refine Q.call (c_pos _ _ _ _ _ _ items e3) fun row z4 o0 e4=>?_
   top_raise
   refine Q.call (c_need _ _ _ _ _ _ [59] (by decide) e4) fun o0 z5 o0 e5=>?_
   top_raise
   exact Q.retE (a:=(row,[])) (enc:=fun a:Row×List Tk=>rowV a.1) (apn us) e5
end
end
section
noncomputable def rowWord(r:Row):Option V:=if r.1=CHAIN then r.2.head? else some (.str (if r.1=ADJ∨r.1=PAIR then POS else SUB))
noncomputable def rowLeft(r:Row):Option V:=if r.1=CHAIN then some .none else if r.1=PAIR then(if 2 < r.2.length then some (.tup (r.2.take 2))else none)else if 1 < r.2.length then some (.tup (r.2.take 1))else none
theorem attr_kind(m:List AO)(r:Row):getF prog m (.v (rowV r)) 6=some (.v (.str r.1)):=rfl
theorem attr_parts(m:List AO)(r:Row):getF prog m (.v (rowV r)) 7=some (.v (.tup r.2)):=rfl
theorem meth_r0(m:List AO)(r:Row):methO m (.v (rowV r)) 0=some 7:=rfl
theorem meth_r3(m:List AO)(r:Row):methO m (.v (rowV r)) 3=some 8:=rfl
theorem meth_r4(m:List AO)(r:Row):methO m (.v (rowV r)) 4=some 9:=rfl
theorem sliceTo_t(m){l:List V}{k:Nat}(h:k < l.length):sliceO m (.v (.tup l)) none (some (.int k))=some (.v (.tup (l.take k))):=by
 show(if 0≤(k:Int)∧(k:Int) < l.length then some (V.tup (l.take (k:Int).toNat))else none).map W.v=_
 rw[if_pos ⟨Int.natCast_nonneg k,Int.ofNat_lt.2 h⟩];rfl
theorem slice_t2(m){l:List V}(h:2 < l.length):sliceO m (.v (.tup l)) none (some (.int 2))=some (.v (.tup (l.take 2))):=sliceTo_t m (k:=2) h
theorem slice_t1(m){l:List V}(h:1 < l.length):sliceO m (.v (.tup l)) none (some (.int 1))=some (.v (.tup (l.take 1))):=sliceTo_t m (k:=1) h
theorem any_two(a x y:Wd):anyEq (.str a) [.str x,.str y]=some (memW a [x,y]):=anyEq_str a [x,y]
local macro_rules (kind:=PyProof.Rows.tacticMem_news) | x=>dsL "Mine.attr_kind Mine.attr_parts Mine.meth_r0 Mine.meth_r3 Mine.meth_r4"
theorem memW2{a x y:Wd}:memW a [x,y]=decide (x=a∨y=a):=by
 unfold memW;rw[List.any_cons,List.any_cons,List.any_nil,Bool.or_false,Bool.decide_or]
local macro_rules (kind:=PySem.W.tacticTb_rel) | x=>alts "sub_t0 slice_t2:a slice_t1:a any_two"
theorem c_rword(n:Nat)(r:Row)(x:V)(m:List AO)(h:rowWord r=some x):cN prog (n+1) 8 [.v (rowV r)] m=some (.ok (.v x),m):=by
 refine rCl f_RuleRow_word rfl rfl ?_
 unfold f_RuleRow_word;top_caught
 unfold rowWord at h
 by_cases hc:r.1=CHAIN
 ·rw[if_pos hc]at h
  have hc':r.1=[99,104,97,105,110]:=hc
  obtain⟨k,p⟩:=r
  cases p with
  |nil=>cases h
  |cons a l=>
   cases h
   top_raise
   exact fnv (tkA _)
 ·rw[if_neg hc]at h
  have hc':¬r.1=[99,104,97,105,110]:=hc
  by_cases q:r.1=ADJ∨r.1=PAIR
  ·rw[if_pos q]at h
   cases h
   have q':memW r.1 [[97,100,106,117,115,116],[112,97,105,114]]=true:=memW2.trans (decide_eq_true (q.imp Eq.symm Eq.symm))
   top_raise
   exact fnv (tkA _)
  ·rw[if_neg q]at h
   cases h
   have q':memW r.1 [[97,100,106,117,115,116],[112,97,105,114]]=false:=memW2.trans (decide_eq_false fun z=>q (z.imp Eq.symm Eq.symm))
   top_raise
   exact fnv (tkA _)
theorem c_rleft(n:Nat)(r:Row)(x:V)(m:List AO)(h:rowLeft r=some x):cN prog (n+1) 9 [.v (rowV r)] m=some (.ok (.v x),m):=by
 refine rCl f_RuleRow_left rfl rfl ?_
 unfold f_RuleRow_left;top_caught
 unfold rowLeft at h
 by_cases hc:r.1=CHAIN
 ·rw[if_pos hc]at h
  cases h
  have hc':r.1=[99,104,97,105,110]:=hc
  top_raise
  exact fnv (tkA _)
 ·rw[if_neg hc]at h
  have hc':¬r.1=[99,104,97,105,110]:=hc
  by_cases q:r.1=PAIR
  ·rw[if_pos q]at h
   have q':r.1=[112,97,105,114]:=q
   by_cases hl:2 < r.2.length
   ·rw[if_pos hl]at h
    cases h
    top_raise
    exact fnv (tkA _)
   ·rw[if_neg hl]at h;cases h
  ·rw[if_neg q]at h
   have q':¬r.1=[112,97,105,114]:=q
   by_cases hl:1 < r.2.length
   ·rw[if_pos hl]at h
    cases h
    top_raise
    exact fnv (tkA _)
   ·rw[if_neg hl]at h;cases h
theorem c_rtold(n:Nat)(r:Row)(m:List AO):cN prog (n+1) 7 [.v (rowV r)] m=some (.ok (.v (.tup [.str r.1,.tup r.2])),m):=by
 refine rCl f_RuleRow_told rfl rfl ?_
 unfold f_RuleRow_told;top_caught
 top_raise
 exact fnv (tkA _)
noncomputable def optP{α β:Type}(o:Option α)(f:α→Pr β):Pr β:=o.elim none f
theorem Q.opt{α β γ:Type}{b:List AO}{T:List Tk}{post:β→Zp→R γ→Prop}{o:Option α}{f:α→Pr β}{r:R γ}(h:∀a,o=some a→At (Q b T post (f a)) r):At (Q b T post (optP o f)) r:=by
 cases o with
 |none=>trivial
 |some a=>exact h a rfl
noncomputable def chkA(rows:List Row)(row:Row):Option Bool:=match rows with
 |[]=>some false
 |r0::_=>if row.1=r0.1 then(rowWord row).bind fun a=>(rowWord r0).bind fun c=>(eqV dep a c).map fun b=>!b else some true
noncomputable def chkB(rows:List Row)(row:Row):Option Bool:=
 if row.1=CHAIN then some false else(rowLeft row).bind fun x=>if rows.all (fun r=>(rowLeft r).isSome)=true then anyEq x (rows.map fun r=>(rowLeft r).getD .none)else none
noncomputable def pCheck(rows:List Row)(row:Row)(zw:Zp):Ps Unit:=fun z=>optP (chkA rows row) fun t=>if t=true then pFault zw else optP (chkB rows row) fun t=>if t=true then pFault zw else okP () z
theorem sub_x0{b:List AO}{z:Zp}{us L F:List V}{ex l:List AO}{k:Nat}{a:V}{us':List V}(h:l[k]?=some (.list (a::us'))):subO (mk b z us L F (ex++l)) (.l (xa b ex k)) (.int 0)=some (.v a):=by
 unfold subO
 rw[der_x b z us L F ex h]
 exact sub_l [] (k:=0) rfl
theorem open_x{b:List AO}{z:Zp}{us L F:List V}{ex l:List AO}{k:Nat}{us':List V}{loc}(h:l[k]?=some (.list us')):openIt (.l (xa b ex k)) ⟨loc,mk b z us L F (ex++l)⟩=some (.ok us',⟨loc,mk b z us L F (ex++l.set k .dead)⟩):=by
 show(aoL (mk b z us L F (ex++l))[xa b ex k]?).map _=_
 rw[mk_getx,h,←mk_setx];rfl
theorem in_l(m)(x:V)(l:List V):cmpW .in_ m (.v x) (.v (.list l))=anyEq x l:=rfl
local macro_rules (kind:=PyProof.Rows.tacticMem_news) | x=>dsL "Mine.in_l"
local macro_rules (kind:=PySem.W.tacticTb_rel) | x=>alts "sub_x0:r"
local macro_rules (kind:=PySem.W.tacticTb_rel) | x=>alts "compO_map:a"
local macro_rules (kind:=PySem.W.tacticK_memK) | x=>alts "open_x:r"
theorem Q.next2{α:Type}{b:List AO}{T:List Tk}{us':α→List V}{L F:List V}{ex:List AO}{enc:α→V}{a:α}{z:Zp}{loc}{x y:AO}(he:enc a=.none)(ht:tot z=T):At (Q b T (endP b us' L F (ex++[x]) enc) (okP a z)) (some (.ok .next,⟨loc,mk b z (us' a) L F (ex++[x,y])⟩)):=by
 refine Q.ok ht ?_
 show some (Except.ok (W.v .none),(mk b z (us' a) L F (ex++[x,y])).take (xa b (ex++[x]) 0))=_
 rw[he,List.append_cons ex x [y],mk_take b z (us' a) L F (ex++[x]) [y]]
noncomputable abbrev ckRest:List S:=[.ite (.and [(.cmp .ne (.attr (.loc 2) 6) (.str [99,104,97,105,110])),(.cmp .in_ (.meth 4 (.loc 2) []) (.comp [none,none] [1] true (.x (.loc 1)) (.bool true) (.meth 4 (.loc 1) [])))]) [.raise (.meth 5 (.loc 0) [(.str [97,32,115,101,99,111,110,100,32,114,111,119,32,102,111,114,32,116,104,101,32,115,97,109,101,32,103,108,121,112,104,115])])] [],
 .setattr (.loc 0) 0 (.loc 4)]
section
variable(n:Nat)(b:List AO)(us L F:List V)(ex:List AO)
theorem check2(rows:List Row)(row:Row)(zw:Zp){z:Zp}{T}(hw:tot zw=T)(hT:tot z=T)(hl:rows.length≤1000):At (Q b T (endP b (fun o0=>us) L F (ex++[.list (rows.map rowV)]) fun o0=>V.none) (optP (chkB rows row) fun t=>if t=true then pFault zw else okP () z))
  (B (cN prog (n+1)) ckRest kEnd ⟨[some (.o 4 b.length),some (.l (xa b ex 0)),some (.v (rowV row)),some (.v (.int zw.1.length)),some (.v (.int z.1.length))],mk b zw us L F (ex++[.list (rows.map rowV),.list []])⟩):=by
 refine Q.opt fun t hB=>?_
 have hzw:=hT.trans hw.symm
 unfold chkB at hB
 unfold ckRest
 by_cases hc:row.1=CHAIN
 ·rw[if_pos hc]at hB
  cases hB
  have hc':row.1=[99,104,97,105,110]:=hc
  top_raise
  exact Q.next2 rfl hT
 ·rw[if_neg hc]at hB
  have hc':¬row.1=[99,104,97,105,110]:=hc
  obtain⟨x,hx,hB⟩:=Option.bind_eq_some_iff.mp hB
  by_cases ha:rows.all (fun r=>(rowLeft r).isSome)=true
  ·rw[if_pos ha]at hB
   have e1:=c_rleft n row x (mk b zw us L F (ex++[.list (rows.map rowV),.list []])) hx
   top_raise
   refine At.comp1 (g:=fun r=>(rowLeft r).getD .none) Nat.one_lt_two (fun r hr P k h=>?_) ?_
   ·obtain⟨y,hy⟩:=Option.isSome_iff_exists.1 (List.all_eq_true.1 ha r hr)
    have e2:=c_rleft n r y (mk b zw us L F (ex++[.dead,.list []])) hy
    rw[hy]at h
    top_raise
    exact h
   ·have hl':=ltr hl (by decide:1000≤1000000)
    have hd:(mk b zw us L F (ex++[.dead,.list []])).set (xa b ex 0) (.list (rows.map rowV))=mk b zw us L F (ex++[.list (rows.map rowV),.list []]):=mk_setx b zw us L F ex 0 _ _
    top_raise
    rw[hd]
    cases t
    ·top_raise
     exact Q.next2 rfl hT
    ·top_raise
     exact Q.fault
  ·rw[if_neg ha]at hB;cases hB
theorem c_check(rows:List Row)(row:Row)(zw:Zp){z:Zp}{T}(hw:tot zw=T)(hT:tot z=T)(hl:rows.length≤1000):Sat b T us L F (ex++[.list (rows.map rowV)]) (fun o0=>.none) (pCheck rows row zw z)
  (cN prog (n+2) 39 [.o 4 b.length,.l (xa b ex 0),.v (rowV row),.v (.int zw.1.length)] (mk b z us L F (ex++[.list (rows.map rowV)]))):=by
 refine run_S f_check_row rfl rfl ?_
 unfold pCheck f_check_row;top_caught
 have hzw:=hw.trans hT.symm
 refine Q.opt fun t hA=>?_
 have h2:=check2 n b us L F ex rows row zw hw hT hl
 top_raise
 cases rows with
 |nil=>
  cases hA
  exact h2
 |cons r0 rows=>
  have hr:List.isEmpty (r0::rows)=false:=rfl
  unfold chkA at hA
  dsimp only at hA
  by_cases hk:row.1=r0.1
  ·rw[if_pos hk]at hA
   obtain⟨a,hw1,hA⟩:=Option.bind_eq_some_iff.mp hA
   obtain⟨c,hw2,hA⟩:=Option.bind_eq_some_iff.mp hA
   obtain⟨q,hq,rfl⟩:=Option.map_eq_some_iff.mp hA
   have e1:=c_rword n row a (mk b zw us L F (ex++[.list ((r0::rows).map rowV),.list []])) hw1
   have e2:=c_rword n r0 c (mk b zw us L F (ex++[.list ((r0::rows).map rowV),.list []])) hw2
   have e3:cmpW .ne (mk b zw us L F (ex++[.list ((r0::rows).map rowV),.list []])) (.v a) (.v c)=some (!q):=by show(eqV dep a c).map _=_;rw[hq];rfl
   top_raise
   cases q
   ·top_raise
    exact Q.fault
   ·exact h2
  ·rw[if_neg hk]at hA
   cases hA
   top_raise
   exact Q.fault
end
end
section
abbrev Lk:=Wd×Int×List Row
abbrev Ft:=Wd×Wd×Wd×List Wd
noncomputable def lkV(l:Lk):V:=.inst 1 [.str l.1,.int l.2.1,.list (l.2.2.map rowV)]
noncomputable def ftV(f:Ft):V:=.inst 3 [.str f.1,.str f.2.1,.str f.2.2.1,.tup (f.2.2.2.map .str)]
noncomputable def FLAG:Wd:=[102,108,97,103]
noncomputable def pRows:Nat→List Row→List Tk→Ps (List Row×List Tk)
 |0,_,_=>fun o0=>none
 |n+1,rows,uses=>fun z=>bP (pWord z) fun w z=>if memW w [SUB,POS]=true then
   (if rows.length < 900∧uses.length≤200 then bP (pRow z) fun a z'=>bP (pCheck rows a.1 z z') fun o0 z=>pRows n (rows++[a.1]) (uses++a.2) z else none)
   else okP (rows,uses) z
noncomputable def pLookup2(nm:Wd)(fl:Int):Ps (Lk×List Tk):=fun z=>bP (pNeed [123] z) fun o0 z=>bP (pRows 40 [] [] z) fun a z=>if a.1.isEmpty=true then pFault z else
 bP (pNeed [125] z) fun o0 z=>okP ((nm,fl,a.1),a.2) z
noncomputable def pLookup:Ps (Lk×List Tk):=fun z=>bP (pName z) fun nm z=>bP (pSkip FLAG z) fun t z=>if t=true then bP (pNum 0 65535 z) fun fl z=>pLookup2 nm fl z else pLookup2 nm 0 z
local macro_rules (kind:=PySem.W.tacticK_memK) | x=>alts "set_last:rr"
theorem set_lastL{c f k j:Nat}{m:List AO}{fs:List (Option W)}{loc}(h:(clss[c]?.bind fun d=>d.fields.idxOf? f)=some k)(hj:j < m.length):
  setattrM prog (.o c m.length) f (.l j) ⟨loc,m++[.obj c fs]⟩=some (.ok (),⟨loc,m++[.obj c (fs.set k (some (.l j)))]⟩):=set_last h (decide_eq_true hj)
theorem c_init1(n:Nat)(a c:V)(j:Nat)(m:List AO)(hj:j < m.length):cN prog (n+1) 3 [.o 1 m.length,.v a,.v c,.l j] (m++[.obj 1 [none,none,none]])=some (.ok (.v .none),m++[.obj 1 [some (.v a),some (.v c),some (.l j)]]):=by
 refine rCl f_LookupBlock_init rfl rfl ?_
 unfold f_LookupBlock_init;top_caught
 have e:∀fs loc,setattrM prog (.o 1 m.length) 5 (.l j) ⟨loc,m++[.obj 1 fs]⟩=some (.ok (),⟨loc,m++[.obj 1 (fs.set 2 (some (.l j)))]⟩):=fun fs loc=>set_lastL rfl hj
 top_raise
 refine At.bnd (e _ _) ?_
 top_raise
 exact fin_n (take_len ..)
section
variable{α γ:Type}{b:List AO}{T:List Tk}{us L F:List V}{ex:List AO}
theorem At.look{P:R γ→Prop}{n:Nat}{a c:V}{z:Zp}{k:Kt W γ}{loc}{x y:AO}(h:At P (k (.o 1 (xa b ex 2)) ⟨loc,mk b z us L F (ex++[x,y,.obj 1 [some (.v a),some (.v c),some (.l (xa b ex 0))]])⟩)):
  At P (newK (cN prog (n+1)) 1 [.v a,.v c,.l (xa b ex 0)] k ⟨loc,mk b z us L F (ex++[x,y])⟩):=by
 have e:(mk b z us L F (ex++[x,y])).length=xa b ex 2:=by rw[mk_len];unfold xa;rw[lap];rfl
 refine At.new (d:={fields:=[3,4,5],init:=3,meths:=[(0,4),(2,5)]}) rfl (c_init1 n a c _ _ (by rw[e];unfold xa;lia)) ?_
 rw[e,mk_app,asc];exact h
theorem field_l{z:Zp}{us':List V}{k:Nat}{l:List AO}(h:l[k]?=some (.list us')):fieldV (xa b ex 0) (mk b z us L F (ex++l)) (.l (xa b ex k))=some (.list us'):=by
 show(if xa b ex 0≤xa b ex k then(aoL (mk b z us L F (ex++l))[xa b ex k]?).map V.list else none)=_
 rw[if_pos (xa_le b ex k),mk_getx,h];rfl
theorem fields_3{n:Nat}{m:List AO}{x c y:V}{w:W}(h:fieldV n m w=some y):fieldsV n m [some (.v x),some (.v c),some w]=some [x,c,y]:=by
 show((((fieldV n m w).bind fun l=>some [l])).map (c:: ·)).map (x:: ·)=_
 rw[h];rfl
theorem Q.look{us':α→List V}{enc:α→V}{a:α}{z:Zp}{loc x y c ls}(ht:tot z=T)(he:enc a=.inst 1 [x,c,.list ls]):
  At (Q b T (endP b us' L F ex enc) (okP a z)) (some (.ok (.ret (.o 1 (xa b ex 2))),⟨loc,mk b z (us' a) L F (ex++[.list ls,y,.obj 1 [some (.v x),some (.v c),some (.l (xa b ex 0))]])⟩)):=
 Q.inst ht (xa_le b ex 2) (mk_getx b z (us' a) L F ex 2 _) (fields_3 (field_l rfl)) (mk_take ..) he
end
local macro_rules (kind:=PySem.W.tacticTb_rel) | x=>alts "any_two"
section
variable(n:Nat)(b:List AO)(us L F:List V)(ex:List AO)
theorem c_num0{z:Zp}{T}(hT:tot z=T):Sat b T us L F ex .int (pNum 0 65535 z) (cN prog (n+2) 25 [.o 4 b.length,.v (.int 0),.v (.int 65535)] (mk b z us L F ex)):=
 c_num n b us L F ex 0 65535 [48] [54,53,53,51,53] (by rfl) (by rfl) (by decide) (by decide) hT
theorem rows_loop(nm:V)(fl:W)(hus:us.length≤600){T}(hl:T.length≤1000000)(k:Nat):∀(rows:List Row) (uses:List Tk) (z:Zp) (w5 w6:Option W),tot z=T→
  At (Q b T (nextP fun(e:Option W×Option W) a z=>⟨[some (.o 4 b.length),some (.l (b.length+4)),some (.v nm),some fl,some (.l (xa b ex 0)),e.1,e.2],mk b z (us++a.2.map tokV) L F (ex++[.list (a.1.map rowV)])⟩) (pRows k rows uses z))
   (Wh (cN prog (n+6)) (.cmp .in_ (.meth 3 (.loc 0) []) (.tup [(.str [115,117,98]),(.str [112,111,115])])) [.assign 5 (.attr (.loc 0) 0),.assign 6 (.call 38 [(.loc 0),(.loc 1)]),.expr (.call 39 [(.loc 0),(.loc 4),(.loc 6),(.loc 5)]),.expr (.append (.loc 4) (.loc 6))]
    ⟨[some (.o 4 b.length),some (.l (b.length+4)),some (.v nm),some fl,some (.l (xa b ex 0)),w5,w6],mk b z (us++uses.map tokV) L F (ex++[.list (rows.map rowV)])⟩):=by
 induction k with
 |zero=>intros;trivial
 |succ k ih=>
  intro rows uses z w5 w6 hT
  refine At.wh ?_
  unfold pRows
  top_raise
  refine Q.call (c_wordS _ _ _ _ _ _ hT) fun w z1 o0 e1=>?_
  top_raise
  refine Q.bool (Q.lim fun h=>?_) (Q.ok e1 ⟨(_,_),rfl⟩)
  obtain⟨h1,h2⟩:=h
  top_raise
  refine Q.callU (c_row n b _ L F _ (by rw[lap,lmp];exact ltr (Nat.add_le_add hus h2) (by decide)) e1 hl) fun a z2 o0 e2=>?_
  top_raise
  refine Q.call (c_check (n+4) b _ L F ex rows a.1 z1 e1 e2 (ltr (Nat.le_of_lt h1) (by decide))) fun o0 z3 o0 e3=>?_
  have hr:rows.length < 1000:=Nat.lt_of_lt_of_le h1 (by decide)
  have:=ih (rows++[a.1]) (uses++a.2) z3 (some (.v (.int z1.1.length))) (some (.v (rowV a.1))) e3
  rw[mpa,←asc]at this
  top_raise
noncomputable abbrev lkRest:List S:=[
 .expr (.meth 8 (.loc 0) [(.str [123])]),
 .assign 4 (.list true []),
 .while_ (.cmp .in_ (.meth 3 (.loc 0) []) (.tup [(.str [115,117,98]),(.str [112,111,115])])) [.assign 5 (.attr (.loc 0) 0),.assign 6 (.call 38 [(.loc 0),(.loc 1)]),.expr (.call 39 [(.loc 0),(.loc 4),(.loc 6),(.loc 5)]),.expr (.append (.loc 4) (.loc 6))],
 .ite (.cmp .eq (.loc 4) (.list true [])) [.raise (.meth 5 (.loc 0) [(.str [97,32,108,111,111,107,117,112,32,119,105,116,104,111,117,116,32,114,111,119,115])])] [],
 .expr (.meth 8 (.loc 0) [(.str [125])]),
 .ret (.new 1 [(.loc 2),(.loc 3),(.loc 4)])]
theorem look2(nm:Wd)(fl:Int)(hus:us.length≤600){z:Zp}{T}(hT:tot z=T)(hl:T.length≤1000000):At (Q b T (endP b (fun a=>us++a.2.map tokV) L F ex fun a=>lkV a.1) (pLookup2 nm fl z))
  (B (cN prog (n+6)) lkRest kEnd ⟨[some (.o 4 b.length),some (.l (b.length+4)),some (.v (.str nm)),some (.v (.int fl)),none,none,none],mk b z us L F ex⟩):=by
 unfold lkRest pLookup2
 top_raise
 refine Q.call (c_need _ _ _ _ _ _ [123] (by decide) hT) fun o0 z3 o0 e3=>?_
 have h2:=rows_loop n b us L F ex (.str nm) (.v (.int fl)) hus hl 40 [] [] z3 none none e3
 rw[map_n,apn]at h2
 top_raise
 refine Q.loop h2 fun e a z4 o0 e4=>?_
 top_raise
 refine Q.bool ?_ ?_
 ·top_raise
  exact Q.fault
 ·top_raise
  refine Q.call (c_need _ _ _ _ _ _ [125] (by decide) e4) fun o0 z5 o0 e5=>?_
  top_raise
  refine At.look ?_
  top_raise
  exact Q.look (a:=((nm,fl,a.1),a.2)) (enc:=fun a:Lk×List Tk=>lkV a.1) e5 rfl
theorem c_lookup(hus:us.length≤600){z:Zp}{T}(hT:tot z=T)(hl:T.length≤1000000):SatU b T (fun a=>us++a.2.map tokV) L F ex (fun a=>lkV a.1) (pLookup z) (cN prog (n+7) 40 [.o 4 b.length,.l (b.length+4)] (mk b z us L F ex)):=by
 refine run_Q f_read_lookup rfl rfl ?_
 unfold pLookup f_read_lookup;top_caught
 top_raise
 refine Q.call (c_name _ _ _ _ _ _ hT) fun nm z1 o0 e1=>?_
 top_raise
 refine Q.call (c_skip _ _ _ _ _ _ FLAG e1) fun t z2 o0 e2=>?_
 top_raise
 refine Q.bool ?_ ?_
 ·top_raise
  refine Q.call (c_num0 _ _ _ _ _ _ e2) fun fl z3 o0 e3=>?_
  exact look2 n b us L F ex nm fl hus e3 hl
 ·exact look2 n b us L F ex nm 0 hus e2 hl
end
end
section
noncomputable def SCRIPT:Wd:=[115,99,114,105,112,116]
noncomputable def LANGUAGE:Wd:=[108,97,110,103,117,97,103,101]
noncomputable def DFLT:Wd:=[68,70,76,84]
noncomputable def dfltP:Wd:=[100,102,108,116]
noncomputable def usesLoop:Nat→List Tk→Ps (List Tk)
 |0,_=>fun o0=>none
 |n+1,found=>fun z=>bP (pTok z) fun t z=>if iNm t.1=true then(if found.length < 100 then bP (pTake z) fun o0 z=>usesLoop n (found++[t]) z else none)else okP found z
noncomputable def pFeature2(tg sc la:Wd):Ps (Ft×List Tk):=fun z=>bP (pNeed [123] z) fun o0 z=>bP (usesLoop 40 [] z) fun us z=>if us.isEmpty=true then pFault z else
 bP (pNeed [125] z) fun o0 z=>okP ((tg,sc,la,us.map (·.1)),us) z
noncomputable def optTag{α:Type}(k df:Wd)(f:Wd→Ps α):Ps α:=fun z=>bP (pSkip k z) fun t z=>if t=true then bP (pTag z) f else f df z
noncomputable def pFeature:Ps (Ft×List Tk):=fun z=>bP (pTag z) fun tg=>optTag SCRIPT DFLT fun sc=>optTag LANGUAGE dfltP fun la=>pFeature2 tg sc la
local macro_rules (kind:=PySem.W.tacticK_memK) | x=>alts "set_last:rr"
theorem c_init3(n:Nat)(a c d e:V)(m:List AO):cN prog (n+1) 10 [.o 3 m.length,.v a,.v c,.v d,.v e] (m++[.obj 3 [none,none,none,none]])=some (.ok (.v .none),m++[.obj 3 [some (.v a),some (.v c),some (.v d),some (.v e)]]):=by
 refine rCl f_FeatureRow_init rfl rfl ?_
 unfold f_FeatureRow_init;top_caught
 top_raise
 exact fin_n (take_len ..)
section
variable{α γ:Type}{b:List AO}{T:List Tk}{us L F:List V}{ex:List AO}
theorem len_two{z:Zp}{x y:AO}:(mk b z us L F (ex++[x,y])).length=xa b ex 2:=by rw[mk_len];unfold xa;rw[lap];rfl
theorem At.feat{P:R γ→Prop}{n:Nat}{a c d e:V}{z:Zp}{k:Kt W γ}{loc}{x y:AO}(h:At P (k (.o 3 (xa b ex 2)) ⟨loc,mk b z us L F (ex++[x,y,.obj 3 [some (.v a),some (.v c),some (.v d),some (.v e)]])⟩)):
  At P (newK (cN prog (n+1)) 3 [.v a,.v c,.v d,.v e] k ⟨loc,mk b z us L F (ex++[x,y])⟩):=by
 refine At.new (d:={fields:=[8,9,10,1],init:=10,meths:=[(0,11)]}) rfl (c_init3 n a c d e _) ?_
 rw[len_two,mk_app,asc];exact h
theorem Q.feat{us':α→List V}{enc:α→V}{a:α}{z:Zp}{loc x y p c d e}(ht:tot z=T)(he:enc a=.inst 3 [p,c,d,e]):
  At (Q b T (endP b us' L F ex enc) (okP a z)) (some (.ok (.ret (.o 3 (xa b ex 2))),⟨loc,mk b z (us' a) L F (ex++[x,y,.obj 3 [some (.v p),some (.v c),some (.v d),some (.v e)]])⟩)):=
 Q.inst ht (xa_le b ex 2) (mk_getx b z (us' a) L F ex 2 _) rfl (mk_take ..) he
end
local macro_rules (kind:=PySem.W.tacticTb_start) | x=>alts "c_word c_take c_isname"
local macro_rules (kind:=PySem.W.tacticK_memK) | x=>alts "app_us:a"
section
variable(n:Nat)(b:List AO)(us L F:List V)(ex:List AO)
theorem uses_loop(tg sc la:W)(hus:us.length≤600){T}(k:Nat):∀(found:List Tk) (z:Zp),tot z=T→
  At (Q b T (nextP fun(o0:Unit) found z=>⟨[some (.o 4 b.length),some (.l (b.length+4)),some tg,some sc,some la,some (.l (xa b ex 0))],mk b z (us++found.map tokV) L F (ex++[.list (found.map fun t=>.str t.1)])⟩) (usesLoop k found z))
   (Wh (cN prog (n+2)) (.call 16 [(.meth 3 (.loc 0) [])]) [.expr (.append (.loc 1) (.sub (.attr (.loc 0) 11) (.attr (.loc 0) 0))),.expr (.append (.loc 5) (.meth 6 (.loc 0) []))]
    ⟨[some (.o 4 b.length),some (.l (b.length+4)),some tg,some sc,some la,some (.l (xa b ex 0))],mk b z (us++found.map tokV) L F (ex++[.list (found.map fun t=>.str t.1)])⟩):=by
 induction k with
 |zero=>intros;trivial
 |succ k ih=>
  intro found z hT
  refine At.wh ?_
  obtain⟨d,_ | ⟨⟨w,o⟩,r⟩⟩:=z
  ·trivial
  unfold usesLoop
  dsimp only[pTok,pTake,onT,bindP_ok]
  top_raise
  refine Q.bool (Q.lim fun hl=>?_) (Q.ok hT ⟨(),rfl⟩)
  have h1:(us++found.map tokV).length≤1000:=by rw[lap,lmp];exact ltr (Nat.add_le_add hus (Nat.le_of_lt hl)) (by decide)
  have h2:found.length < 1000:=Nat.lt_trans hl (by decide)
  have:=ih (found++[(w,o)]) ((w,o)::d,r) ((tot_take ..).trans hT)
  rw[mpa,←asc]at this
  top_raise
  refine At.bnd (app_m b ((w,o)::d,r) _ L F ex (k:=0) (fun t:Tk=>V.str t.1) (w,o) _ rfl h2) ?_
  top_raise
  exact this
theorem feat2(tg sc la:Wd)(hus:us.length≤600){z:Zp}{T}(hT:tot z=T):At (Q b T (endP b (fun a=>us++a.2.map tokV) L F ex fun a=>ftV a.1) (pFeature2 tg sc la z))
  (B (cN prog (n+3)) f_read_feature.body.tail.tail.tail kEnd ⟨[some (.o 4 b.length),some (.l (b.length+4)),some (.v (.str tg)),some (.v (.str sc)),some (.v (.str la)),none],mk b z us L F ex⟩):=by
 unfold f_read_feature pFeature2
 top_caught
 top_raise
 refine Q.call (c_need _ _ _ _ _ _ [123] (by decide) hT) fun o0 z4 o0 e4=>?_
 have h2:=uses_loop (n+1) b us L F ex (.v (.str tg)) (.v (.str sc)) (.v (.str la)) hus 40 [] z4 e4
 rw[map_n,apn]at h2
 top_raise
 refine Q.loop h2 fun o0 a z5 o0 e5=>?_
 top_raise
 refine Q.bool ?_ ?_
 ·top_raise
  exact Q.fault
 ·top_raise
  refine Q.call (c_need _ _ _ _ _ _ [125] (by decide) e5) fun o0 z6 o0 e6=>?_
  top_raise
  refine At.feat ?_
  top_raise
  exact Q.feat (a:=((tg,sc,la,a.map (·.1)),a)) (enc:=fun a:Ft×List Tk=>ftV a.1) e6 (by unfold ftV;rw[List.map_map])
theorem feat1(tg sc:Wd)(hus:us.length≤600){z:Zp}{T}(hT:tot z=T):At (Q b T (endP b (fun a=>us++a.2.map tokV) L F ex fun a=>ftV a.1) (optTag LANGUAGE dfltP (fun la=>pFeature2 tg sc la) z))
  (B (cN prog (n+3)) f_read_feature.body.tail.tail kEnd ⟨[some (.o 4 b.length),some (.l (b.length+4)),some (.v (.str tg)),some (.v (.str sc)),none,none],mk b z us L F ex⟩):=by
 unfold f_read_feature optTag
 top_caught
 top_raise
 refine Q.call (c_skip _ _ _ _ _ _ LANGUAGE hT) fun t z2 o0 e2=>?_
 top_raise
 refine Q.bool ?_ ?_
 ·top_raise
  refine Q.call (c_tag _ _ _ _ _ _ e2) fun la z3 o0 e3=>?_
  exact feat2 n b us L F ex tg sc la hus e3
 ·exact feat2 n b us L F ex tg sc dfltP hus e2
theorem c_feature(hus:us.length≤600){z:Zp}{T}(hT:tot z=T):SatU b T (fun a=>us++a.2.map tokV) L F ex (fun a=>ftV a.1) (pFeature z) (cN prog (n+4) 41 [.o 4 b.length,.l (b.length+4)] (mk b z us L F ex)):=by
 refine run_Q f_read_feature rfl rfl ?_
 unfold pFeature;unfold f_read_feature optTag;top_caught
 top_raise
 refine Q.call (c_tag _ _ _ _ _ _ hT) fun tg z1 o0 e1=>?_
 top_raise
 refine Q.call (c_skip _ _ _ _ _ _ SCRIPT e1) fun t z2 o0 e2=>?_
 top_raise
 refine Q.bool ?_ ?_
 ·top_raise
  refine Q.call (c_tag _ _ _ _ _ _ e2) fun sc z3 o0 e3=>?_
  exact feat1 n b us L F ex tg sc hus e3
 ·exact feat1 n b us L F ex tg DFLT hus e2
end
theorem findEq_str(w:Wd)(l:List Wd):findEq (.str w) (l.map .str)=some ((l.findIdx? fun y=>decide (y=w))):=by
 unfold findEq
 rw[plain_str (fun w=>w) l,List.findIdx?_map];rfl
theorem set_self{α:Type}{l:List α}{i:Nat}{x y:α}(h:l[i]?=some x):(l.set i y).set i x=l:=by
 rw[List.set_set]
 obtain⟨hi,e⟩:=List.getElem?_eq_some_iff.1 h
 exact e▸List.set_getElem_self hi
noncomputable def atName(w:Wd)(L:List Lk):Int:=if memW w (L.map (·.1))=true then(((L.map (·.1)).findIdx? fun y=>decide (y=w)).getD 0:Nat)else -1
theorem atName_pos{w:Wd}{L:List Lk}:0≤atName w L↔memW w (L.map (·.1))=true:=by
 unfold atName
 by_cases h:memW w (L.map (·.1))=true
 ·rw[if_pos h];exact⟨fun o0=>h,fun o0=>Int.natCast_nonneg _⟩
 ·rw[if_neg h];exact⟨fun q=>absurd q (by decide),fun q=>absurd q h⟩
local macro_rules (kind:=PySem.W.tacticTb_rel) | x=>alts "compO_map:a"
theorem c_named(n:Nat)(m:List AO)(k j1:Nat)(o2:Option W)(L:List Lk)(w:Wd)(hl:L.length≤1000)(h3:m[k]?=some (.obj 0 [some (.l j1),o2]))(h1:m[j1]?=some (.list (L.map lkV))):
  cN prog (n+1) 2 [.o 0 k,.v (.str w)] m=some (.ok (.v (.int (atName w L))),m):=by
 have ha:getF prog m (.o 0 k) 1=some (.l j1):=by
  unfold getF;dsimp only;rw[h3];rfl
 have ho:∀loc,openIt (.l j1) ⟨loc,m⟩=some (.ok (L.map lkV),⟨loc,m.set j1 .dead⟩):=fun loc=>by
  show(aoL m[j1]?).map _=_
  rw[h1];rfl
 have ho:=ho [some (.o 0 k),some (.v (.str w)),none]
 have hlt:L.length≤1000000:=ltr hl (by decide)
 have hs:(m.set j1 .dead).set j1 (.list (L.map lkV))=m:=set_self h1
 refine rCl fRl rfl rfl ?_
 unfold fRl;top_caught
 top_raise
 refine At.comp1 (g:=fun l:Lk=>V.str l.1) Nat.one_lt_two (fun r hr P k h=>?_) ?_
 ·have e:getF prog (m.set j1 .dead) (.v (lkV r)) 3=some (.v (.str r.1)):=rfl
  top_raise
  exact h
 ·top_raise
  have e:(L.map fun l:Lk=>V.str l.1)=(L.map (·.1)).map V.str:=(List.map_map ..).symm
  rw[hs,e]
  unfold atName
  cases hm:memW w (L.map (·.1))with
  |true=>
   obtain⟨i,hi⟩:=Option.isSome_iff_exists.1 (List.findIdx?_isSome.trans hm)
   have hx:∀st,indexM (.v (.list ((L.map (·.1)).map V.str))) [.v (.str w)] st=some (.ok (.v (.int i)),st):=fun st=>by
    show retO ((findEq (.str w) ((L.map (·.1)).map V.str)).bind fun k=>k.map fun k=>numW k 0) st=_
    rw[findEq_str,hi]
    show retO (some (numW i 0)) st=_
    unfold numW
    rw[Int.add_zero];rfl
   have hx:=hx ⟨[some (.o 0 k),some (.v (.str w)),some (.v (.list ((L.map (·.1)).map V.str)))],m⟩
   rw[hi]
   top_raise
   exact fnv (tkA _)
  |false=>
   top_raise
   exact fnv (tkA _)
end
section
noncomputable def rLn(s:Wd):List Nat→Nat
 |[]=>0
 |c::r=>if iSb [c] s=true then rLn s r+1 else 0
noncomputable def inN:List Nat→Nat
 |[]=>0
 |c::r=>if iSb [c] ENDS=true then 0 else inN r+1
noncomputable def skN:Bool→List Nat→Nat
 |_,[]=>0
 |false,c::r=>if iSb [c] BLANKS=true then skN false r+1 else if c=35 then skN true r+1 else 0
 |true,c::r=>if iSb [c] ENDS=true then skN false r+1 else skN true r+1
noncomputable def LF:Wd:=LTS++FIGS
noncomputable def wEnd1(c:Nat)(r:List Nat):Option Nat:=if iSb [c] LTS=true then some (rLn LF (c::r))else if iSb [c] FIGS=true then some (rLn FIGS (c::r))else
  if c=45∧0 < rLn FIGS r then some (rLn FIGS r+1)else if iSb [c] SIGNS=true then some 1 else none
noncomputable def lexT:Nat→Nat→List Nat→List Tk→Option (Except Nat (List Tk))
 |0,_,_,_=>none
 |n+1,at_,rest,found=>match rest with
  |[]=>some (.ok (found++[([],at_)]))
  |c::r=>match wEnd1 c r with
   |none=>some (.error at_)
   |some k=>if found.length < 10000 then lexT n (at_+k+skN false ((c::r).drop k)) (((c::r).drop k).drop (skN false ((c::r).drop k))) (found++[((c::r).take k,at_)])else none
theorem runLen_t{s:Wd}{c:Nat}{r:List Nat}(h:iSb [c] s=true):rLn s (c::r)=rLn s r+1:=if_pos h
theorem runLen_f{s:Wd}{c:Nat}{r:List Nat}(h:iSb [c] s=false):rLn s (c::r)=0:=if_neg (Bool.eq_false_iff.1 h)
theorem inN_t{c:Nat}{r:List Nat}(h:iSb [c] ENDS=true):inN (c::r)=0:=if_pos h
theorem inN_f{c:Nat}{r:List Nat}(h:iSb [c] ENDS=false):inN (c::r)=inN r+1:=if_neg (Bool.eq_false_iff.1 h)
theorem runLen_le(s:Wd)(l:List Nat):rLn s l≤l.length:=by
 induction l with
 |nil=>exact Nat.le_refl 0
 |cons c r ih=>
  cases h:iSb [c] s
  ·rw[runLen_f h];exact Nat.zero_le _
  ·rw[runLen_t h];exact Nat.succ_le_succ ih
theorem wEnd1_L{c:Nat}{r:List Nat}(q:iSb [c] LTS=true):wEnd1 c r=some (rLn LF (c::r)):=if_pos q
theorem wEnd1_F{c:Nat}{r:List Nat}(q:iSb [c] LTS=false)(q2:iSb [c] FIGS=true):wEnd1 c r=some (rLn FIGS (c::r)):=(if_neg (Bool.eq_false_iff.1 q)).trans (if_pos q2)
theorem wEnd1_M{c:Nat}{r:List Nat}(q:iSb [c] LTS=false)(q2:iSb [c] FIGS=false)(q3:c=45)(q4:0 < rLn FIGS r):wEnd1 c r=some (rLn FIGS r+1):=(if_neg (Bool.eq_false_iff.1 q)).trans ((if_neg (Bool.eq_false_iff.1 q2)).trans (if_pos ⟨q3,q4⟩))
theorem wEnd1_S{c:Nat}{r:List Nat}(q:iSb [c] LTS=false)(q2:iSb [c] FIGS=false)(q3:¬(c=45∧0 < rLn FIGS r)):wEnd1 c r=if iSb [c] SIGNS=true then some 1 else none:=(if_neg (Bool.eq_false_iff.1 q)).trans ((if_neg (Bool.eq_false_iff.1 q2)).trans (if_neg q3))
theorem wEnd_le{c:Nat}{r:List Nat}{k:Nat}(h:wEnd1 c r=some k):k≤(c::r).length:=by
 unfold wEnd1 at h
 rcases Classical.em (iSb [c] LTS=true)with q | q
 ·rw[if_pos q]at h;cases h;exact runLen_le ..
 rw[if_neg q]at h
 rcases Classical.em (iSb [c] FIGS=true)with q | q
 ·rw[if_pos q]at h;cases h;exact runLen_le ..
 rw[if_neg q]at h
 rcases Classical.em (c=45∧0 < rLn FIGS r)with q | q
 ·rw[if_pos q]at h;cases h;exact Nat.succ_le_succ (runLen_le ..)
 rw[if_neg q]at h
 rcases Classical.em (iSb [c] SIGNS=true)with q | q
 ·rw[if_pos q]at h;cases h;exact Nat.succ_le_succ (Nat.zero_le _)
 ·rw[if_neg q]at h;cases h
theorem lt_of_drop{t:List Nat}{a c:Nat}{r:List Nat}(h:t.drop a=c::r):a < t.length:=
 Nat.lt_of_not_le fun q=>by rw[List.drop_eq_nil_of_le q]at h;cases h
theorem ilt_of_drop{t:List Nat}{a c:Nat}{r:List Nat}(h:t.drop a=c::r):(a:Int) < t.length:=Int.ofNat_lt.2 (lt_of_drop h)
theorem get_of_drop{t:List Nat}{a c:Nat}{r:List Nat}(h:t.drop a=c::r):t[a]?=some c:=by
 have:=congrArg (·[0]?) h
 rw[List.getElem?_drop]at this;exact this
theorem sub_at(m){t:List Nat}{a c:Nat}{r:List Nat}(h:t.drop a=c::r):subO m (.v (.str t)) (.int a)=some (.v (.str [c])):=by
 show((idx (a:Int) t.length).bind fun k=>t[k]?.map fun c=>V.str [c]).map W.v=_
 rw[idx_nat (lt_of_drop h),Option.bind_some,get_of_drop h];rfl
theorem drop_succ{t:List Nat}{a c:Nat}{r:List Nat}(h:t.drop a=c::r):t.drop (a+1)=r:=by
 rw[←List.drop_drop,h];rfl
theorem not_lt_of_drop{t:List Nat}{a:Nat}(h:t.drop a=[]):¬(a:Int) < t.length:=Int.not_lt.2 (Int.ofNat_le.2 (List.drop_eq_nil_iff.1 h))
theorem add1(a k:Nat):a+1+k=a+(k+1):=(Nat.add_assoc a 1 k).trans (congrArg (a+ ·) (Nat.add_comm 1 k))
section
variable(C:CallT)(m:List AO)
theorem run_loop(t s:Wd)(w:W):∀(rest:List Nat) (a:Nat),t.drop a=rest→
  At (· =some (.ok .next,⟨[some (.v (.str t)),some w,some (.v (.str s)),some (.v (.int (a+rLn s rest:Nat)))],m⟩)) (Wh C (.and [(.cmp .lt (.loc 3) (.len (.loc 0))),(.cmp .in_ (.sub (.loc 0) (.loc 3)) (.loc 2))]) [.assign 3 (.bin .add (.loc 3) (.int 1))] ⟨[some (.v (.str t)),some w,some (.v (.str s)),some (.v (.int a))],m⟩)
 |[],a,h=>by
  have h1:=not_lt_of_drop h
  refine At.wh ?_
  top_raise
  exact rfl
 |c::r,a,h=>by
  have h1:=ilt_of_drop h
  have h2:=sub_at m h
  refine At.wh ?_
  cases hc:iSb [c] s
  ·rw[runLen_f hc]
   top_raise
   exact rfl
  ·rw[runLen_t hc,←add1]
   top_raise
   exact run_loop t s w r (a+1) (drop_succ h)
theorem in_loop(t:Wd)(w:W):∀(rest:List Nat) (a:Nat),t.drop a=rest→
  At (· =some (.ok .next,⟨[some (.v (.str t)),some w,some (.v (.int (a+inN rest:Nat)))],m⟩)) (Wh C (.and [(.cmp .lt (.loc 2) (.len (.loc 0))),(.cmp .notin (.sub (.loc 0) (.loc 2)) (.glob 5))]) [.assign 2 (.bin .add (.loc 2) (.int 1))] ⟨[some (.v (.str t)),some w,some (.v (.int a))],m⟩)
 |[],a,h=>by
  have h1:=not_lt_of_drop h
  refine At.wh ?_
  top_raise
  exact rfl
 |c::r,a,h=>by
  have h1:=ilt_of_drop h
  have h2:=sub_at m h
  refine At.wh ?_
  cases hc:iSb [c] ENDS
  ·rw[inN_f hc,←add1]
   top_raise
   exact in_loop t w r (a+1) (drop_succ h)
  ·rw[inN_t hc]
   top_raise
   exact rfl
end
theorem c_runend(m:List AO)(n:Nat)(t s:Wd)(a:Nat):cN prog (n+1) 12 [.v (.str t),.v (.int a),.v (.str s)] m=some (.ok (.v (.int (a+rLn s (t.drop a):Nat))),m):=by
 refine rCl f_run_end rfl rfl ?_
 unfold f_run_end;top_caught
 top_raise
 refine At.bnd (run_loop (cN prog n) m t s (.v (.int a)) _ a rfl) ?_
 top_raise
 exact fnv (tkA _)
theorem isSub_two(c x y:Nat):iSb [c] [x,y]=(decide (c=x) || decide (c=y)):=by
 show((decide (c=x)&&true) || ((decide (c=y)&&true) || false))=_
 rw[Bool.and_true,Bool.and_true,Bool.or_false]
theorem ends_blank{c:Nat}(h:iSb [c] ENDS=true):iSb [c] BLANKS=true:=by
 unfold ENDS at h
 rw[isSub_two]at h
 exact(Bool.or_eq_true_iff.mp h).elim (fun h=>of_decide_eq_true h▸rfl) fun h=>of_decide_eq_true h▸rfl
theorem skipT_t{c:Nat}{r:List Nat}(h:iSb [c] ENDS=true):skN true (c::r)=skN false r+1:=if_pos h
theorem skipT_f{c:Nat}{r:List Nat}(h:iSb [c] ENDS=false):skN true (c::r)=skN true r+1:=if_neg (Bool.eq_false_iff.1 h)
theorem skipF_t{c:Nat}{r:List Nat}(h:iSb [c] BLANKS=true):skN false (c::r)=skN false r+1:=if_pos h
theorem skipF_f{c:Nat}{r:List Nat}(h:iSb [c] BLANKS=false):skN false (c::r)=if c=35 then skN true r+1 else 0:=if_neg (Bool.eq_false_iff.1 h)
theorem skip_in(r:List Nat):skN true r=inN r+skN false (r.drop (inN r)):=by
 induction r with
 |nil=>rfl
 |cons c r ih=>
  cases hc:iSb [c] ENDS
  ·rw[skipT_f hc,inN_f hc,ih]
   exact Nat.add_right_comm ..
  ·rw[skipT_t hc,inN_t hc,List.drop_zero,skipF_t (ends_blank hc),Nat.zero_add]
theorem skip_loop(C:CallT)(m:List AO)(t:Wd)(w:W):∀(k:Nat) (rest:List Nat) (a:Nat),rest.length≤k→t.drop a=rest→
  At (· =some (.ok .next,⟨[some (.v (.str t)),some w,some (.v (.int (a+skN false rest:Nat)))],m⟩)) (Wh C (.and [(.cmp .lt (.loc 2) (.len (.loc 0))),(.or [(.cmp .in_ (.sub (.loc 0) (.loc 2)) (.glob 4)),(.cmp .eq (.sub (.loc 0) (.loc 2)) (.str [35]))])]) [.ite (.cmp .eq (.sub (.loc 0) (.loc 2)) (.str [35])) [.while_ (.and [(.cmp .lt (.loc 2) (.len (.loc 0))),(.cmp .notin (.sub (.loc 0) (.loc 2)) (.glob 5))]) [.assign 2 (.bin .add (.loc 2) (.int 1))]] [.assign 2 (.bin .add (.loc 2) (.int 1))]] ⟨[some (.v (.str t)),some w,some (.v (.int a))],m⟩)
 |k,[],a,hk,h=>by
  have h1:=not_lt_of_drop h
  refine At.wh ?_
  top_raise
  exact rfl
 |k+1,c::r,a,hk,h=>by
  have hk':=Nat.le_of_succ_le_succ hk
  have h1:=ilt_of_drop h
  have h2:=sub_at m h
  refine At.wh ?_
  by_cases h35:c=35
  ·subst h35
   have hb:iSb [35] BLANKS=false:=rfl
   have he:iSb [35] ENDS=false:=rfl
   have h3:([35]:Wd)=[35]:=rfl
   have hin:=in_loop C m t w (35::r) a h
   have hn:=inN_f (r:=r) he
   have hd:t.drop (a+inN (35::r))=r.drop (inN r):=by rw[hn,←add1,←List.drop_drop,drop_succ h]
   have:=skip_loop C m t w k _ (a+inN (35::r)) (ltr (by rw[List.length_drop];exact Nat.sub_le ..) hk') hd
   have e:a+inN (35::r)+skN false (r.drop (inN r))=a+skN false (35::r):=by
    rw[skipF_f hb,if_pos rfl,skip_in r,hn,Nat.add_assoc,Nat.add_right_comm]
   rw[e]at this
   top_raise
   refine At.bnd hin ?_
   top_raise
  ·have h3:¬([c]:Wd)=[35]:=fun q=>h35 (List.cons.inj q).1
   cases hb:iSb [c] BLANKS
   ·rw[skipF_f hb,if_neg h35]
    top_raise
    exact rfl
   ·rw[skipF_t hb,←add1]
    top_raise
    exact skip_loop C m t w k r (a+1) hk' (drop_succ h)
theorem c_skipped(m:List AO)(n:Nat)(t:Wd)(a:Nat):cN prog (n+1) 13 [.v (.str t),.v (.int a)] m=some (.ok (.v (.int (a+skN false (t.drop a):Nat))),m):=by
 refine rCl f_skipped rfl rfl ?_
 unfold f_skipped;top_caught
 top_raise
 refine At.bnd (skip_loop (cN prog n) m t (.v (.int a)) _ _ a (Nat.le_refl _) rfl) ?_
 top_raise
 exact fnv (tkA _)
noncomputable def wordRes(m:List AO)(a:Nat)(o:Option Nat):Option (Except V W×List AO):=o.elim (some (.error (.exc (.int a)),m)) fun k=>some (.ok (.v (.int (a+k:Nat))),m)
theorem c_wordend(m:List AO)(n:Nat)(t:Wd)(a c:Nat)(r:List Nat)(h:t.drop a=c::r):cN prog (n+2) 14 [.v (.str t),.v (.int a)] m=wordRes m a (wEnd1 c r):=by
 refine rCl f_word_end rfl rfl ?_
 unfold f_word_end;top_caught
 have hs:=sub_at m h
 have hLF:bin2 .add m (.v (.str LTS)) (.v (.str FIGS))=some (.v (.str LF)):=bin_as _ _ _ (by decide)
 have r1:=c_runend m n t LF a
 have r2:=c_runend m n t FIGS a
 have r3:=c_runend m n t FIGS (a+1)
 rw[h]at r1 r2
 rw[drop_succ h]at r3
 have r3:cN prog (n+1) 12 [.v (.str t),.v (.int ((a:Int)+1)),.v (.str FIGS)] m=some (.ok (.v (.int ((a:Int)+1+rLn FIGS r))),m):=r3
 cases q1:iSb [c] LTS
 ·cases q2:iSb [c] FIGS
  ·by_cases q3:c=45
   ·subst q3
    have q6:iSb [45] SIGNS=false:=rfl
    have q7:([45]:Wd)=[45]:=rfl
    by_cases q4:0 < rLn FIGS r
    ·have q5:(a:Int)+1+rLn FIGS r > a+1:=Int.lt_add_of_pos_right _ (Int.natCast_pos.2 q4)
     rw[wEnd1_M q1 q2 rfl q4,show wordRes m a (some (rLn FIGS r+1))=some (.ok (.v (.int (a+1+rLn FIGS r:Nat))),m) by rw[add1];rfl]
     top_raise
     exact fnv (tkA _)
    ·have q5:¬(a:Int)+1+rLn FIGS r > a+1:=by rw[Nat.eq_zero_of_not_pos q4];exact fun q=>absurd q (by rw[Int.natCast_zero,Int.add_zero];exact Int.lt_irrefl _)
     rw[wEnd1_S q1 q2 (fun q=>q4 q.2),if_neg (Bool.eq_false_iff.1 q6)]
     top_raise
     exact fin_e (tkA _)
   ·have q7:¬([c]:Wd)=[45]:=fun q=>q3 (List.cons.inj q).1
    rw[wEnd1_S q1 q2 (fun q=>q3 q.1)]
    cases q4:iSb [c] SIGNS
    ·top_raise
     exact fin_e (tkA _)
    ·top_raise
     exact fnv (tkA _)
  ·rw[wEnd1_F q1 q2]
   top_raise
   exact fnv (tkA _)
 ·rw[wEnd1_L q1]
  top_raise
  exact fnv (tkA _)
theorem app_end(m:List AO)(l:List V)(x:V)(loc)(h:l.length≤10000):appendM (.l m.length) x ⟨loc,m++[.list l]⟩=some (.ok (.v .none),⟨loc,m++[.list (l++[x])]⟩):=by
 have e1:(m++[AO.list l])[m.length]?=some (.list l):=get_app m _ 0
 dsimp only[appendM]
 rw[e1]
 show(if l.length < top then some _ else none)=_
 rw[if_pos (Nat.lt_of_le_of_lt h (by unfold top;decide)),show(m++[AO.list l]).set m.length (.list (l++[x]))=m++[.list (l++[x])]from set_app m _ 0 _]
theorem skipN_le(l:List Nat):∀f,skN f l≤l.length:=by
 induction l with
 |nil=>exact fun f=>by cases f<;>exact Nat.le_refl 0
 |cons c r ih=>
  intro f
  cases f
  ·cases h:iSb [c] BLANKS
   ·rw[skipF_f h]
    by_cases q:c=35
    ·rw[if_pos q];exact Nat.succ_le_succ (ih true)
    ·rw[if_neg q];exact Nat.zero_le _
   ·rw[skipF_t h];exact Nat.succ_le_succ (ih false)
  ·cases h:iSb [c] ENDS
   ·rw[skipT_f h];exact Nat.succ_le_succ (ih true)
   ·rw[skipT_t h];exact Nat.succ_le_succ (ih false)
theorem slice_at(m){t:List Nat}{a k:Nat}{rest:List Nat}(h:t.drop a=rest)(hk:a+k≤t.length):sliceO m (.v (.str t)) (some (.int a)) (some (.int (a+k:Nat)))=some (.v (.str (rest.take k))):=by
 show(if 0≤(a:Int)∧(a:Int)≤(a+k:Nat)∧((a+k:Nat):Int)≤t.length then some (V.str (cut t (a:Int).toNat ((a+k:Nat):Int).toNat))else none).map W.v=_
 rw[if_pos ⟨Int.natCast_nonneg a,Int.ofNat_le.2 (Nat.le_add_right a k),Int.ofNat_le.2 hk⟩]
 unfold cut
 rw[Int.toNat_natCast,Int.toNat_natCast,h,Nat.add_sub_cancel_left];rfl
inductive LexS(m:List AO)(t:Wd)(toks:List Tk)(r:R Flow):Prop
 |mk (found:List Tk) (w:Option W) (len:found.length≤10000) (e:toks=found++[([],t.length)]) (h:r=some (.ok .next,⟨[some (.v (.str t)),some (.l m.length),some (.v (.int t.length)),w],m++[.list (found.map tokV)]⟩))
noncomputable def lexS(m:List AO)(t:Wd)(p:Option (Except Nat (List Tk)))(r:R Flow):Prop:=match p with
 |none=>True
 |some (.error e)=>∃loc m',r=some (.error (.exc (.int e)),⟨loc,m++m'⟩)
 |some (.ok toks)=>LexS m t toks r
theorem asL_end(m:List AO)(l:List V):asL (m++[.list l]) (.l m.length)=some l:=by unfold asL;rw[der_m];rfl
theorem At.bnd_err{α γ:Type}{P:R γ→Prop}{st:St}{r:R α}{a:V}{k:Kt α γ}(h:r=some (.error a,st))(hk:At P (some (.error a,st))):At P (bR r k):=by subst h;exact hk
local macro_rules (kind:=PySem.W.tacticK_memK) | x=>alts "app_end:a"
local macro_rules (kind:=PySem.W.tacticTb_rel) | x=>alts "asL_end"
theorem words_loop(m:List AO)(n:Nat)(t:Wd):∀(k a:Nat) (rest:List Nat) (found:List Tk) (w:Option W),t.drop a=rest→a+rest.length=t.length→found.length≤10000→
  At (lexS m t (lexT k a rest found)) (Wh (cN prog (n+2)) (.cmp .lt (.loc 2) (.len (.loc 0))) [.assign 3 (.call 14 [(.loc 0),(.loc 2)]),.expr (.append (.loc 1) (.tup [(.slice (.loc 0) (.loc 2) (.loc 3)),(.loc 2)])),.assign 2 (.call 13 [(.loc 0),(.loc 3)])]
    ⟨[some (.v (.str t)),some (.l m.length),some (.v (.int a)),w],m++[.list (found.map tokV)]⟩)
 |0,_,_,_,_,_,_,_=>trivial
 |k+1,a,[],found,w,h,hl,hf=>by
  have h1:=not_lt_of_drop h
  have h2:a=t.length:=hl
  refine At.wh ?_
  top_raise
  exact .mk found w hf (h2▸rfl) (h2▸rfl)
 |k+1,a,c::r,found,w,h,hl,hf=>by
  have h1:=ilt_of_drop h
  have hw:=c_wordend (m++[.list (found.map tokV)]) n t a c r h
  refine At.wh ?_
  unfold lexT
  dsimp only
  cases hk:wEnd1 c r with
  |none=>
   rw[hk]at hw
   have hw:cN prog (n+2) 14 [.v (.str t),.v (.int a)] (m++[.list (found.map tokV)])=some (.error (.exc (.int a)),m++[.list (found.map tokV)]):=hw
   top_raise
   exact At.call_err hw ⟨_,_,rfl⟩
  |some j=>
   rw[hk]at hw
   have hw:cN prog (n+2) 14 [.v (.str t),.v (.int a)] (m++[.list (found.map tokV)])=some (.ok (.v (.int (a+j:Nat))),m++[.list (found.map tokV)]):=hw
   have hj:=wEnd_le hk
   dsimp only
   by_cases hlen:found.length < 10000
   ·rw[if_pos hlen]
    have hs:=slice_at (m++[.list (found.map tokV)]) (k:=j) h (hl▸Nat.add_le_add_left hj a)
    have hd:t.drop (a+j)=(c::r).drop j:=by rw[←List.drop_drop,h]
    have hsk:=c_skipped (m++[.list (found.map tokV++[.tup [.str ((c::r).take j),.int a]])]) (n+1) t (a+j)
    rw[hd]at hsk
    have hle:=skipN_le ((c::r).drop j) false
    rw[List.length_drop]at hle
    have hf':(found.map tokV).length≤10000:=by rw[lmp];exact hf
    have:=words_loop m n t k (a+j+skN false ((c::r).drop j)) (((c::r).drop j).drop (skN false ((c::r).drop j))) (found++[((c::r).take j,a)]) (some (.v (.int (a+j:Nat)))) (by rw[←List.drop_drop,hd])
     (by rw[List.length_drop,List.length_drop];lia) (by rw[lap];exact hlen)
    rw[mpa]at this
    top_raise
    exact this
   ·rw[if_neg hlen];trivial
theorem fin_l{m:List AO}{l:List V}{loc}:At (fun r=>endR r m.length=some (.ok (.v (.list l)),m)) (some (.ok (.ret (.l m.length)),⟨loc,m++[.list l]⟩)):=by
 show(if m.length≤m.length then((aoL (m++[AO.list l])[m.length]?).map fun l=>W.v (.list l))else none).map (fun w=>(Except.ok w,(m++[AO.list l]).take m.length))=_
 rw[if_pos (Nat.le_refl _),show(m++[AO.list l])[m.length]?=some (.list l)from get_app m _ 0,List.take_left];rfl
noncomputable def lex(k:Nat)(t:Wd):Option (Except Nat (List Tk)):=lexT k (skN false t) (t.drop (skN false t)) []
theorem c_words(m:List AO)(n:Nat)(t:Wd)(k:Nat):match lex k t with
  |none=>True
  |some (.error e)=>∃m',cN prog (n+3) 15 [.v (.str t)] m=some (.error (.exc (.int e)),m++m')
  |some (.ok toks)=>cN prog (n+3) 15 [.v (.str t)] m=some (.ok (.v (.list (toks.map tokV))),m):=by
 have hle:=skipN_le t false
 have hw:=words_loop m n t k (skN false t) (t.drop (skN false t)) [] none rfl (by rw[List.length_drop];lia) (Nat.zero_le _)
 have hsk:cN prog (n+2) 13 [.v (.str t),.v (.int 0)] (m++[.list []])=some (.ok (.v (.int (skN false t))),m++[.list []]):=by
  have:=c_skipped (m++[.list []]) (n+1) t 0
  rwa [List.drop_zero,Nat.zero_add]at this
 have body:=call_body (n+2) 15 [.v (.str t)] m f_words_of_text rfl rfl
 unfold f_words_of_text at body
 rw[body]
 unfold lex
 show At (fun r=>match lexT k (skN false t) (t.drop (skN false t)) []with
  |none=>True
  |some (.error e)=>∃m',endR r m.length=some (.error (.exc (.int e)),m++m')
  |some (.ok toks)=>endR r m.length=some (.ok (.v (.list (toks.map tokV))),m)) _
 top_caught
 top_raise
 cases hq:lexT k (skN false t) (t.drop (skN false t)) []with
 |none=>trivial
 |some p=>
  rw[hq]at hw
  cases p with
  |error e=>
   obtain⟨loc,m',h⟩:=hw
   exact At.bnd_err h ⟨[],congrArg (fun l=>some (Except.error (V.exc (.int e)),l)) (List.take_left.trans (apn m).symm)⟩
  |ok toks=>
   obtain⟨found,w,len,rfl,h⟩:=hw
   refine At.bnd h ?_
   have hf':(found.map tokV).length≤10000:=by rw[lmp];exact len
   show At (fun r=>endR r m.length=some (.ok (.v (.list ((found++[([],t.length)]).map tokV))),m)) _
   rw[mpa]
   top_raise
   exact fin_l
end
section
noncomputable def LKP:Wd:=[108,111,111,107,117,112]
noncomputable def FEATURE:Wd:=[102,101,97,116,117,114,101]
abbrev Bk:=List Lk×List Ft×List Tk
noncomputable def pBl:Nat→List Lk→List Ft→List Tk→Ps Bk
 |0,_,_,_=>fun o0=>none
 |n+1,L,F,us=>fun z=>bP (pWord z) fun w z=>if w=[]then okP (L,F,us) z else
   bP (pSkip LKP z) fun t z=>if t=true then
    bP (pWord z) fun w z=>if L.length < 100∧us.length≤600 then(if memW w (L.map (·.1))=true then pFault z else
     bP (pLookup z) fun a z=>pBl n (L++[a.1]) F (us++a.2) z)else none
   else bP (pNeed FEATURE z) fun o0 z=>(if F.length < 100∧us.length≤600 then bP (pFeature z) fun a z=>pBl n L (F++[a.1]) (us++a.2) z else none)
noncomputable def badUse(L:List Lk)(us:List Tk):Option Tk:=us.find? fun t=>!memW t.1 (L.map (·.1))
section
variable(b:List AO)(z:Zp)(us L F:List V)(ex:List AO)
theorem mk_get1:(mk b z us L F ex)[b.length+1]?=some (.list L):=get_app b _ 1
theorem mk_get2:(mk b z us L F ex)[b.length+2]?=some (.list F):=get_app b _ 2
theorem mk_get3:(mk b z us L F ex)[b.length+3]?=some (.obj 0 [some (.l (b.length+1)),some (.l (b.length+2))]):=get_app b _ 3
theorem mk_set1(l:List V):(mk b z us L F ex).set (b.length+1) (.list l)=mk b z us l F ex:=set_app b _ 1 _
theorem mk_set2(l:List V):(mk b z us L F ex).set (b.length+2) (.list l)=mk b z us L l ex:=set_app b _ 2 _
theorem asL_1:asL (mk b z us L F ex) (.l (b.length+1))=some L:=by unfold asL deref;dsimp only;rw[mk_get1];rfl
theorem asL_2:asL (mk b z us L F ex) (.l (b.length+2))=some F:=by unfold asL deref;dsimp only;rw[mk_get2];rfl
theorem app_1(x:V)(loc)(h:L.length < 1000):appendM (.l (b.length+1)) x ⟨loc,mk b z us L F ex⟩=some (.ok (.v .none),⟨loc,mk b z us (L++[x]) F ex⟩):=by
 dsimp only[appendM]
 rw[mk_get1]
 show(if L.length < top then _ else none)=_
 rw[if_pos (Nat.lt_of_lt_of_le h (top_le (by decide)):L.length < top),mk_set1]
theorem app_2(x:V)(loc)(h:F.length < 1000):appendM (.l (b.length+2)) x ⟨loc,mk b z us L F ex⟩=some (.ok (.v .none),⟨loc,mk b z us L (F++[x]) ex⟩):=by
 dsimp only[appendM]
 rw[mk_get2]
 show(if F.length < top then _ else none)=_
 rw[if_pos (Nat.lt_of_lt_of_le h (top_le (by decide)):F.length < top),mk_set2]
theorem attr_t1:getF prog (mk b z us L F ex) (.o 0 (b.length+3)) 1=some (.l (b.length+1)):=by unfold getF;dsimp only;rw[mk_get3];rfl
theorem attr_t2:getF prog (mk b z us L F ex) (.o 0 (b.length+3)) 2=some (.l (b.length+2)):=by unfold getF;dsimp only;rw[mk_get3];rfl
theorem meth_t{m:List AO}{i:Nat}{fs:List (Option W)}(h:m[i]?=some (.obj 0 fs)):methO m (.o 0 i) 1=some 2:=by
 unfold methO live;dsimp only;rw[h];rfl
theorem meth_t1:methO (mk b z us L F ex) (.o 0 (b.length+3)) 1=some 2:=meth_t (mk_get3 ..)
end
local macro_rules (kind:=PySem.W.tacticTb_rel) | x=>alts "asL_1 asL_2 attr_t1 attr_t2 meth_t1"
local macro_rules (kind:=PySem.W.tacticK_memK) | x=>alts "app_1:a app_2:a"
noncomputable def tenv(text:V)(b:List AO)(o5 o6:Option W):List (Option W):=[some (.v text),some (.v gLG),some (.o 4 b.length),some (.o 0 (b.length+3)),some (.l (b.length+4)),o5,o6]
theorem map_lt{α:Type}{f:α→V}{l:List α}(h:l.length < 100):(l.map f).length < 1000:=by rw[lmp];exact Nat.lt_trans h (by decide)
theorem blocks_loop(n:Nat)(b:List AO)(text:V){T}(hl:T.length≤1000000)(k:Nat):∀(L:List Lk) (F:List Ft) (us:List Tk) (z:Zp),tot z=T→
  At (Q b T (nextP fun(o0:Unit) a z=>⟨tenv text b none none,mk b z (a.2.2.map tokV) (a.1.map lkV) (a.2.1.map ftV) []⟩) (pBl k L F us z))
   (Wh (cN prog (n+7)) (.cmp .ne (.meth 3 (.loc 2) []) (.str [])) [.ite (.meth 7 (.loc 2) [(.str [108,111,111,107,117,112])]) [.ite (.cmp .ge (.meth 1 (.loc 3) [(.meth 3 (.loc 2) [])]) (.int 0)) [.raise (.meth 5 (.loc 2) [(.str [97,32,108,111,111,107,117,112,32,116,111,108,100,32,116,119,105,99,101])])] [],.expr (.append (.attr (.loc 3) 1) (.call 40 [(.loc 2),(.loc 4)]))] [.expr (.meth 8 (.loc 2) [(.str [102,101,97,116,117,114,101])]),.expr (.append (.attr (.loc 3) 2) (.call 41 [(.loc 2),(.loc 4)]))]]
    ⟨tenv text b none none,mk b z (us.map tokV) (L.map lkV) (F.map ftV) []⟩):=by
 induction k with
 |zero=>intros;trivial
 |succ k ih=>
  intro L F us z hT
  refine At.wh ?_
  unfold pBl
  unfold tenv at ih ⊢
  top_raise
  refine Q.call (c_wordS _ _ _ _ _ _ hT) fun w z1 o0 e1=>?_
  top_raise
  refine Q.ite (fun hw=>?_) fun hw=>?_
  ·top_raise
   exact Q.ok e1 ⟨(),rfl⟩
  top_raise
  refine Q.call (c_skip _ _ _ _ _ _ LKP e1) fun t z2 o0 e2=>?_
  top_raise
  refine Q.bool ?_ ?_
  ·top_raise
   refine Q.call (c_wordS _ _ _ _ _ _ e2) fun w z3 o0 e3=>?_
   refine Q.lim fun h=>?_
   obtain⟨h1,h2⟩:=h
   have hc:=c_named (n+6) (mk b z3 (us.map tokV) (L.map lkV) (F.map ftV) []) (b.length+3) (b.length+1) (some (.l (b.length+2))) L w (ltr (Nat.le_of_lt h1) (by decide)) (mk_get3 ..) (mk_get1 ..)
   have hL:=map_lt (f:=lkV) h1
   top_raise
   refine Q.ite (fun hm=>?_) fun hm=>?_
   ·have hi:atName w L≥0:=atName_pos.2 hm
    top_raise
    exact Q.fault
   ·have hi:¬atName w L≥0:=fun q=>hm (atName_pos.1 q)
    top_raise
    refine Q.callU (c_lookup n b (us.map tokV) (L.map lkV) (F.map ftV) [] (by rw[lmp];exact h2) e3 hl) fun a z4 o0 e4=>?_
    have:=ih (L++[a.1]) F (us++a.2) z4 e4
    rw[mpa,mpa]at this
    top_raise
    exact this
  ·top_raise
   refine Q.call (c_need _ _ _ _ _ _ FEATURE (by decide) e2) fun o0 z3 o0 e3=>?_
   refine Q.lim fun h=>?_
   obtain⟨h1,h2⟩:=h
   have hF:=map_lt (f:=ftV) h1
   top_raise
   refine Q.callU (c_feature (n+3) b (us.map tokV) (L.map lkV) (F.map ftV) [] (by rw[lmp];exact h2) e3) fun a z4 o0 e4=>?_
   have:=ih L (F++[a.1]) (us++a.2) z4 e4
   rw[mpa,mpa]at this
   top_raise
   exact this
inductive UseOk(m:List AO)(text:V)(b:List AO)(r:R Flow):Prop
 |mk (o5 o6:Option W) (h:r=some (.ok .next,⟨tenv text b o5 o6,m⟩))
noncomputable def UseP(m:List AO)(text:V)(b:List AO)(o:Option Tk)(r:R Flow):Prop:=match o with
 |some t=>∃loc,r=some (.error (.exc (.int t.2)),⟨loc,m⟩)
 |none=>UseOk m text b r
theorem use_loop(n:Nat)(b:List AO)(text:V)(M:List AO)(L:List Lk)(hL:L.length≤1000)(h3:M[b.length+3]?=some (.obj 0 [some (.l (b.length+1)),some (.l (b.length+2))]))(h1:M[b.length+1]?=some (.list (L.map lkV))):
  ∀(us:List Tk) (o5 o6:Option W),(us.all fun t=>Nat.ble t.1.length 1000)=true→
  At (UseP M text b (badUse L us)) (Fo (cN prog (n+1)) [5,6] false [.ite (.cmp .lt (.meth 1 (.loc 3) [(.loc 5)]) (.int 0)) [.raise (.newExc (.bin .add (.str [110,111,32,108,111,111,107,117,112,32]) (.loc 5)) (.loc 6))] []] (us.map tokV) ⟨tenv text b o5 o6,M⟩)
 |[],o5,o6,_=>.mk o5 o6 rfl
 |t::us,o5,o6,ha=>by
  have ha:=(Bool.and_eq_true _ _).mp ha
  have hm:=meth_t h3
  have hc:=c_named n M (b.length+3) (b.length+1) (some (.l (b.length+2))) L t.1 hL h3 h1
  refine At.fo (x:=.tup [.str t.1,.int t.2]) ?_
  unfold badUse
  rw[List.find?_cons]
  cases hb:memW t.1 (L.map (·.1))
  ·have hi:atName t.1 L < 0:=Int.not_le.1 fun q=>Bool.eq_false_iff.1 hb (atName_pos.1 q)
   have hadd:bin2 .add M (.v (.str [110,111,32,108,111,111,107,117,112,32])) (.v (.str t.1))=some (.v (.str ([110,111,32,108,111,111,107,117,112,32]++t.1))):=bin_as _ _ _ (ltr (Nat.add_le_add_left (bTl ha.1) _) (by decide))
   unfold tenv
   top_raise
   exact⟨_,rfl⟩
  ·have hi:¬atName t.1 L < 0:=Int.not_lt.2 (atName_pos.2 hb)
   have:=use_loop n b text M L hL h3 h1 us (some (.v (.str t.1))) (some (.v (.int t.2))) ha.2
   unfold tenv at this ⊢
   top_raise
   exact this
end
section
noncomputable def lensOk(a:Bk):Bool:=Nat.ble a.1.length 1000&&(a.2.2.all (fun t=>Nat.ble t.1.length 1000)&&(Nat.ble a.2.1.length 1000&&a.1.all fun l=>Nat.ble l.2.2.length 1000))
noncomputable def ansOf(a:Bk):Option (Except Nat (List Lk×List Ft)):=if lensOk a=true then some ((badUse a.1 a.2.2).elim (.ok (a.1,a.2.1)) fun t=>.error t.2)else none
noncomputable def pRules(toks:List Tk):Option (Except Nat (List Lk×List Ft)):=match pBl 40 [] [] [] ([],toks)with
 |none=>none
 |some (.error e)=>some (.error e)
 |some (.ok (a,_))=>ansOf a
noncomputable def readT(k:Nat)(t:Wd):Option (Except Nat (List Lk×List Ft)):=match lex k t with
 |none=>none
 |some (.error e)=>some (.error e)
 |some (.ok toks)=>if toks.length≤1000000 then pRules toks else none
noncomputable def treeV(p:List Lk×List Ft):V:=.inst 0 [.list (p.1.map lkV),.list (p.2.map ftV)]
noncomputable def Ans{α:Type}(b:List AO)(enc:α→V)(p:Option (Except Nat α))(c:Option (Except V W×List AO)):Prop:=match p with
 |none=>True
 |some (.error e)=>c=some (.error (.exc (.int e)),b)
 |some (.ok a)=>c=some (.ok (.v (enc a)),b)
local macro_rules (kind:=PySem.W.tacticK_memK) | x=>alts "set_last:rr"
theorem c_init4{n:Nat}{t:Wd}{b:List AO}{k:Nat}{toks:List Tk}(h:lex k t=some (.ok toks)):cN prog (n+4) 17 [.o 4 b.length,.v (.str t),.v gLG] (b++[.obj 4 [none,none,none]])=some (.ok (.v .none),b++[rdr ([],toks)]):=by
 have hw:=c_words (b++[.obj 4 [none,none,none]]) n t k
 rw[h]at hw
 dsimp only at hw
 refine rCl fRi rfl rfl ?_
 unfold fRi;top_caught
 top_raise
 exact fin_n (take_len ..)
theorem c_init4e{n:Nat}{t:Wd}{b:List AO}{k e:Nat}(h:lex k t=some (.error e)):∃m',cN prog (n+4) 17 [.o 4 b.length,.v (.str t),.v gLG] (b++[.obj 4 [none,none,none]])=some (.error (.exc (.int e)),b++m'):=by
 have hw:=c_words (b++[.obj 4 [none,none,none]]) n t k
 rw[h]at hw
 obtain⟨m',hw⟩:=hw
 rw[call_body (n+3) 17 _ _ fRi rfl rfl]
 show At (fun r=>∃m',endR r (b++[AO.obj 4 [none,none,none]]).length=some (.error (.exc (.int e)),b++m')) _
 unfold fRi;top_caught
 top_raise
 exact At.call_err hw ⟨_,congrArg (fun l=>some (Except.error (V.exc (.int e)),l)) List.take_left⟩
theorem c_init0(n:Nat)(j1 j2:Nat)(m:List AO)(h1:j1 < m.length)(h2:j2 < m.length):cN prog (n+1) 0 [.o 0 m.length,.l j1,.l j2] (m++[.obj 0 [none,none]])=some (.ok (.v .none),m++[.obj 0 [some (.l j1),some (.l j2)]]):=by
 refine rCl f_RuleTree_init rfl rfl ?_
 unfold f_RuleTree_init;top_caught
 top_raise
 refine At.bnd (set_lastL rfl h1) ?_
 top_raise
 refine At.bnd (set_lastL rfl h2) ?_
 top_raise
 exact fin_n (take_len ..)
theorem len_app{α:Type}{m:List α}{x:α}{i:Nat}(h:m.length=i):(m++[x]).length=i+1:=by rw[lap,h];rfl
theorem mk_whole{b:List AO}{z:Zp}:b++[rdr z]++[.list []]++[.list []]++[.obj 0 [some (.l (b.length+1)),some (.l (b.length+2))]]++[.list []]=mk b z [] [] [] []:=by
 rw[asc,asc,asc,asc];rfl
theorem open_4{b:List AO}{z:Zp}{us L F:List V}{ex:List AO}{loc}:openIt (.l (b.length+4)) ⟨loc,mk b z us L F ex⟩=some (.ok us,⟨loc,(mk b z us L F ex).set (b.length+4) .dead⟩):=by
 show(aoL (mk b z us L F ex)[b.length+4]?).map _=_
 rw[mk_get4];rfl
theorem end_tree{b:List AO}{z:Zp}{us:List V}{L:List Lk}{F:List Ft}{loc}:endR (some (.ok (.ret (.o 0 (b.length+3))),⟨loc,mk b z us (L.map lkV) (F.map ftV) []⟩)) b.length=some (.ok (.v (treeV (L,F))),b):=by
 have f1:fieldV b.length (mk b z us (L.map lkV) (F.map ftV) []) (.l (b.length+1))=some (.list (L.map lkV)):=by
  show(if b.length≤b.length+1 then(aoL _).map V.list else none)=_
  rw[if_pos (Nat.le_add_right ..),mk_get1];rfl
 have f2:fieldV b.length (mk b z us (L.map lkV) (F.map ftV) []) (.l (b.length+2))=some (.list (F.map ftV)):=by
  show(if b.length≤b.length+2 then(aoL _).map V.list else none)=_
  rw[if_pos (Nat.le_add_right ..),mk_get2];rfl
 have f3:fieldsV b.length (mk b z us (L.map lkV) (F.map ftV) []) [some (.l (b.length+1)),some (.l (b.length+2))]=some [.list (L.map lkV),.list (F.map ftV)]:=by
  show((fieldV b.length _ (.l (b.length+1))).bind fun x=>((fieldV b.length _ (.l (b.length+2))).bind fun y=>some [y]).map (x:: ·))=_
  rw[f1,f2];rfl
 simp only[endR,flW,id,handBack,if_pos (Nat.le_add_right b.length 3),mk_get3,aoO,Option.bind_some,if_true,f3,Option.map_some]
 exact congrArg (fun l=>some (Except.ok (W.v (treeV (L,F))),l)) List.take_left
theorem c_rules(n:Nat)(b:List AO)(t:Wd)(k:Nat):Ans b treeV (readT k t) (cN prog (n+8) 42 [.v (.str t),.v gLG] b):=by
 rw[call_body (n+7) 42 _ _ f_read_rules rfl rfl]
 show At (fun r=>Ans b treeV (readT k t) (endR r b.length)) _
 unfold f_read_rules readT;top_caught
 top_raise
 cases hl:lex k t with
 |none=>trivial
 |some p=>
  cases p with
  |error e=>
   obtain⟨m',h⟩:=c_init4e (n:=n+3) (b:=b) hl
   exact At.new_err (d:={fields:=[11,12,0],init:=17,meths:=[(3,18),(5,19),(6,20),(7,21),(8,22),(9,23),(10,24),(11,25),(12,26)]}) rfl h (congrArg (fun l=>some (Except.error (V.exc (.int e)),l)) List.take_left)
  |ok toks=>
   refine At.new (d:={fields:=[11,12,0],init:=17,meths:=[(3,18),(5,19),(6,20),(7,21),(8,22),(9,23),(10,24),(11,25),(12,26)]}) rfl (c_init4 (n:=n+3) (b:=b) hl) ?_
   have e1:(b++[rdr ([],toks)]).length=b.length+1:=len_app rfl
   have e2:(b++[rdr ([],toks)]++[AO.list []]).length=b.length+2:=len_app e1
   have e3:(b++[rdr ([],toks)]++[AO.list []]++[AO.list []]).length=b.length+3:=len_app e2
   top_raise
   rw[e2,e1]
   refine At.new (d:={fields:=[1,2],init:=0,meths:=[(0,1),(1,2)]}) rfl (c_init0 (n+6) (b.length+1) (b.length+2) _ (by rw[e3];lia) (by rw[e3];lia)) ?_
   have e4:(b++[rdr ([],toks)]++[AO.list []]++[AO.list []]++[AO.obj 0 [some (.l (b.length+1)),some (.l (b.length+2))]]).length=b.length+4:=len_app e3
   rw[e3]
   top_raise
   rw[e4,mk_whole]
   by_cases hlen:toks.length≤1000000
   ·rw[if_pos hlen]
    have hb:=blocks_loop n b (.str t) (T:=tot ([],toks)) hlen 40 [] [] [] ([],toks) rfl
    unfold pRules
    unfold tenv at hb
    rw[map_n,map_n,map_n]at hb
    top_raise
    cases hp:pBl 40 [] [] [] ([],toks)with
    |none=>trivial
    |some p=>
     rw[hp]at hb
     cases p with
     |error e=>
      obtain⟨loc,m,h⟩:=hb
      exact At.bnd_err h (congrArg (fun l=>some (Except.error (V.exc (.int e)),l)) List.take_left)
     |ok p=>
      obtain⟨a,z⟩:=p
      obtain⟨⟨_,h⟩,_⟩:=hb
      refine At.bnd h ?_
      dsimp only
      unfold ansOf
      by_cases hk:lensOk a=true
      ·rw[if_pos hk]
       have hk:=(Bool.and_eq_true _ _).mp hk
       have hM:=mk_set4 b z (a.2.2.map tokV) (a.1.map lkV) (a.2.1.map ftV) [] .dead
       have hu:=use_loop (n+6) b (.str t) ((mk b z (a.2.2.map tokV) (a.1.map lkV) (a.2.1.map ftV) []).set (b.length+4) .dead) a.1 (bTl hk.1) (hM▸get_app b _ 3) (hM▸get_app b _ 1) a.2.2 none none ((Bool.and_eq_true _ _).mp hk.2).1
       unfold tenv at hu
       top_raise
       refine At.bnd (open_4 ..) ?_
       top_raise
       cases hq:badUse a.1 a.2.2 with
       |some t'=>
        rw[hq]at hu
        obtain⟨loc,hu⟩:=hu
        exact At.bnd_err hu (congrArg (fun l=>some (Except.error (V.exc (.int t'.2)),l)) (hM▸List.take_left))
       |none=>
        rw[hq]at hu
        obtain⟨o5,o6,hu⟩:=hu
        refine At.bnd hu ?_
        unfold tenv
        top_raise
        rw[set_self (mk_get4 ..)]
        exact end_tree
      ·rw[if_neg hk];trivial
   ·rw[if_neg hlen];trivial
theorem ansOf_ok{a:Bk}{p:List Lk×List Ft}(h:ansOf a=some (.ok p)):p.1.length≤1000∧p.2.length≤1000∧∀l∈p.1,l.2.2.length≤1000:=by
 unfold ansOf at h
 by_cases hk:lensOk a=true
 ·rw[if_pos hk]at h
  have h1:=(Bool.and_eq_true _ _).mp hk
  have h2:=(Bool.and_eq_true _ _).mp ((Bool.and_eq_true _ _).mp h1.2).2
  cases hq:badUse a.1 a.2.2 with
  |some t=>rw[hq]at h;cases h
  |none=>
   rw[hq]at h;cases h
   exact⟨bTl h1.1,bTl h2.1,fun l hl=>bTl (List.all_eq_true.1 h2.2 l hl)⟩
 ·rw[if_neg hk]at h;cases h
theorem readT_ok{k:Nat}{t:Wd}{p:List Lk×List Ft}(h:readT k t=some (.ok p)):p.1.length≤1000∧p.2.length≤1000∧∀l∈p.1,l.2.2.length≤1000:=by
 unfold readT at h
 cases hl:lex k t with
 |none=>rw[hl]at h;cases h
 |some q=>
  rw[hl]at h
  cases q with
  |error e=>cases h
  |ok toks=>
   dsimp only at h
   by_cases hlen:toks.length≤1000000
   ·rw[if_pos hlen]at h
    unfold pRules at h
    cases hp:pBl 40 [] [] [] ([],toks)with
    |none=>rw[hp]at h;cases h
    |some q=>
     rw[hp]at h
     cases q with
     |error e=>cases h
     |ok q=>exact ansOf_ok h
   ·rw[if_neg hlen]at h;cases h
noncomputable def rowT(r:Row):V:=.tup [.str r.1,.tup r.2]
noncomputable def lkT(l:Lk):V:=.tup [.str l.1,.int l.2.1,.tup (l.2.2.map rowT)]
noncomputable def ftT(f:Ft):V:=.tup [.str f.1,.str f.2.1,.str f.2.2.1,.tup (f.2.2.2.map .str)]
noncomputable def toldV(p:List Lk×List Ft):V:=.tup [.tup (p.1.map lkT),.tup (p.2.map ftT)]
theorem lk_3(m:List AO)(l:Lk):getF prog m (.v (lkV l)) 3=some (.v (.str l.1)):=rfl
theorem lk_4(m:List AO)(l:Lk):getF prog m (.v (lkV l)) 4=some (.v (.int l.2.1)):=rfl
theorem lk_5(m:List AO)(l:Lk):getF prog m (.v (lkV l)) 5=some (.v (.list (l.2.2.map rowV))):=rfl
theorem lk_m(m:List AO)(l:Lk):methO m (.v (lkV l)) 0=some 4:=rfl
theorem ft_8(m:List AO)(f:Ft):getF prog m (.v (ftV f)) 8=some (.v (.str f.1)):=rfl
theorem ft_9(m:List AO)(f:Ft):getF prog m (.v (ftV f)) 9=some (.v (.str f.2.1)):=rfl
theorem ft_10(m:List AO)(f:Ft):getF prog m (.v (ftV f)) 10=some (.v (.str f.2.2.1)):=rfl
theorem ft_1(m:List AO)(f:Ft):getF prog m (.v (ftV f)) 1=some (.v (.tup (f.2.2.2.map .str))):=rfl
theorem ft_m(m:List AO)(f:Ft):methO m (.v (ftV f)) 0=some 11:=rfl
theorem tr_1(m:List AO)(p:List Lk×List Ft):getF prog m (.v (treeV p)) 1=some (.v (.list (p.1.map lkV))):=rfl
theorem tr_2(m:List AO)(p:List Lk×List Ft):getF prog m (.v (treeV p)) 2=some (.v (.list (p.2.map ftV))):=rfl
theorem tr_m(m:List AO)(p:List Lk×List Ft):methO m (.v (treeV p)) 0=some 1:=rfl
local macro_rules (kind:=PyProof.Rows.tacticMem_news) | x=>dsL "Mine.lk_3 Mine.lk_4 Mine.lk_5 Mine.lk_m Mine.ft_8 Mine.ft_9 Mine.ft_10 Mine.ft_1 Mine.ft_m Mine.tr_1 Mine.tr_2 Mine.tr_m Mine.meth_r0"
local macro_rules (kind:=PySem.W.tacticTb_rel) | x=>alts "compO_map:a"
local macro_rules (kind:=PySem.W.tacticTb_start) | x=>alts "c_rtold"
theorem c_lktold(n:Nat)(l:Lk)(m:List AO)(h:l.2.2.length≤1000):cN prog (n+2) 4 [.v (lkV l)] m=some (.ok (.v (lkT l)),m):=by
 refine rCl f_LookupBlock_told rfl rfl ?_
 unfold f_LookupBlock_told;top_caught
 have ht:l.2.2.length≤1000000:=ltr h (by decide)
 top_raise
 refine At.comp1 (g:=rowT) Nat.one_lt_two (fun r hr P k h=>?_) ?_
 ·top_raise
  exact h
 ·top_raise
  exact fnv (tkA _)
theorem c_fttold(n:Nat)(f:Ft)(m:List AO):cN prog (n+1) 11 [.v (ftV f)] m=some (.ok (.v (ftT f)),m):=by
 refine rCl f_FeatureRow_told rfl rfl ?_
 unfold f_FeatureRow_told;top_caught
 top_raise
 exact fnv (tkA _)
local macro_rules (kind:=PySem.W.tacticTb_start) | x=>alts "c_fttold"
theorem c_told(n:Nat)(p:List Lk×List Ft)(m:List AO)(h1:p.1.length≤1000)(h2:p.2.length≤1000)(h3:∀l∈p.1,l.2.2.length≤1000):cN prog (n+3) 1 [.v (treeV p)] m=some (.ok (.v (toldV p)),m):=by
 refine rCl f_RuleTree_told rfl rfl ?_
 unfold f_RuleTree_told;top_caught
 have ht1:p.1.length≤1000000:=ltr h1 (by decide)
 have ht2:p.2.length≤1000000:=ltr h2 (by decide)
 top_raise
 refine At.comp1 (g:=lkT) Nat.one_lt_two (fun l hl P k h=>?_) ?_
 ·have e:=c_lktold n l m (h3 l hl)
  top_raise
  exact h
 ·top_raise
  refine At.comp1 (g:=ftT) Nat.one_lt_two (fun f hf P k h=>?_) ?_
  ·top_raise
   exact h
  ·top_raise
   exact fnv (tkA _)
theorem At.try_ok{γ:Type}{P:R γ→Prop}{r:R Flow}{f s:Nat}{fl:Flow}{st:St}{K:Kt Flow γ}(h:r=some (.ok fl,st))(hk:At P (K fl st)):At P (bR (tryR r f s) K):=by subst h;exact hk
theorem At.try_err{γ:Type}{P:R γ→Prop}{r:R Flow}{f s:Nat}{e:Nat}{st:St}{K:Kt Flow γ}(h:r=some (.error (.exc (.int e)),st))(hk:At P (bR (tryE f s (.exc (.int e)) st) K)):At P (bR (tryR r f s) K):=by subst h;exact hk
noncomputable def heardT(k:Nat)(t:Wd):Option V:=match readT k t with
 |none=>none
 |some (.error e)=>some (.int e)
 |some (.ok p)=>some (toldV p)
theorem c_heard(n:Nat)(b:List AO){t:Wd}{k:Nat}{v:V}(h:heardT k t=some v):cN prog (n+9) 50 [.v (.str t)] b=some (.ok (.v v),b):=by
 refine rCl f_law_heard rfl rfl ?_
 unfold f_law_heard;top_caught
 have hc:=c_rules n b t k
 unfold heardT at h
 top_raise
 cases hr:readT k t with
 |none=>rw[hr]at h;cases h
 |some p=>
  rw[hr]at h hc
  cases p with
  |error e=>
   cases h
   have hc:cN prog (n+8) 42 [.v (.str t),.v gLG] b=_:=hc
   have hi:cmpW .is_ b (.v (.int e)) (.v .none)=some false:=rfl
   refine At.try_err (e:=e) (st:=⟨[some (.v (.str t)),some (.v .none),none,none],b⟩) (show At (· =_) _ from ?_) ?_
   ·top_raise
    exact At.call_err hc rfl
   ·show At _ (kSeq _ _ _ .next ⟨[some (.v (.str t)),some (.v (.int e)),none,none],b⟩)
    top_raise
    exact fnv (tkA _)
  |ok p=>
   cases h
   have hc:cN prog (n+8) 42 [.v (.str t),.v gLG] b=_:=hc
   have hk:=readT_ok hr
   have ht:=c_told (n+5) p b hk.1 hk.2.1 hk.2.2
   refine At.try_ok (fl:=.next) (st:=⟨[some (.v (.str t)),some (.v .none),some (.v (toldV p)),none],b⟩) (show At (· =_) _ from ?_) ?_
   ·top_raise
    exact rfl
   ·have hi:cmpW .is_ b (.v .none) (.v .none)=some true:=rfl
    top_raise
    exact fnv (tkA _)
end
section
noncomputable def pm(c:List V)(a:Nat)(ex:List AO):List AO:=.list [.list c,.int a]::ex
theorem pm_sub0(c:List V)(a:Nat)(ex:List AO):subO (pm c a ex) (.l 0) (.int 0)=some (.v (.list c)):=sub_l (l:=[.list c,.int a]) [] (k:=0) rfl
theorem pm_sub1(c:List V)(a:Nat)(ex:List AO):subO (pm c a ex) (.l 0) (.int 1)=some (.v (.int a)):=sub_l (l:=[.list c,.int a]) [] (k:=1) rfl
theorem pm_sub0a(c:List V)(a:Nat)(ex l:List AO):subO (pm c a ex++l) (.l 0) (.int 0)=some (.v (.list c)):=pm_sub0 c a (ex++l)
theorem pm_set(c:List V)(a b:Nat)(ex:List AO)(loc):setitemM (.l 0) (.v (.int 1)) (.int b) ⟨loc,pm c a ex⟩=some (.ok (),⟨loc,pm c b ex⟩):=by
 show(if(0:Int)≤1∧(1:Int) < ([V.list c,V.int a].length:Nat)then _ else none)=_
 rw[if_pos ⟨by decide,Int.ofNat_lt.2 Nat.one_lt_two⟩];rfl
theorem pm_set1(c:List V)(a:Nat)(ex:List AO)(loc):setitemM (.l 0) (.v (.int 1)) (.int ((a:Int)+1)) ⟨loc,pm c a ex⟩=some (.ok (),⟨loc,pm c (a+1) ex⟩):=pm_set c a (a+1) ex loc
theorem mod_nat(mem:List AO)(x:Int){m:Nat}(h:0 < m):bin2 .mod mem (.v (.int x)) (.v (.int m))=some (.v (.int (x.fmod m).toNat)):=by
 show(if(m:Int)=0 then none else some (V.int (x.fmod m))).map W.v=_
 rw[if_neg (Int.ne_of_gt (Int.natCast_pos.2 h)),Int.toNat_of_nonneg (Int.fmod_nonneg_of_pos _ (Int.natCast_pos.2 h))];rfl
theorem mod_lt(x:Int){m:Nat}(h:0 < m):(x.fmod m).toNat < m:=by
 have h1:x.fmod m < m:=Int.fmod_lt_of_pos _ (Int.natCast_pos.2 h)
 have h2:=Int.fmod_nonneg_of_pos x (Int.natCast_pos.2 h)
 exact Int.ofNat_lt.1 (by rw[Int.toNat_of_nonneg h2];exact h1)
theorem pow_lt{y:Nat}(h:y≤1500):(30:Nat) ^ y < 2 ^ 8000:=
 Nat.lt_of_le_of_lt (Nat.pow_le_pow_left (by decide) y) (by rw[show(32:Nat)=2 ^ 5 from rfl,←Nat.pow_mul];exact Nat.pow_lt_pow_right (by decide) (by lia):(32:Nat) ^ y < 2 ^ 8000)
theorem fdiv_nat(mem:List AO)(x:Int){k:Nat}(h:0 < k)(h2:k < 2 ^ 8000):bin2 .fdiv mem (.v (.int x)) (.v (.int k))=some (.v (.int (x.fdiv k))):=by
 show(if(k:Int)=0∨2 ^ 8000≤(k:Int).natAbs then none else some (V.int (x.fdiv k))).map W.v=_
 rw[if_neg fun q=>q.elim (Int.ne_of_gt (Int.natCast_pos.2 h)) fun q=>by rw[Int.natAbs_natCast]at q;exact absurd h2 (Nat.not_lt.2 q)];rfl
theorem mul_nat(mem:List AO){a:Nat}(ha:a≤1400)(y:Int):bin2 .mul mem (.v (.int a)) (.v (.int y))=some (.v (.int (a*y))):=by
 show(if(a:Int).natAbs≤2 ^ 60 then some (V.int (a*y))else none).map W.v=_
 rw[if_pos (by rw[Int.natAbs_natCast];exact ltr ha (by decide))];rfl
theorem pow_nat(mem:List AO){y:Nat}(hy:y≤1500):bin2 .pow mem (.v (.int 30)) (.v (.int y))=some (.v (.int (30 ^ y:Nat))):=by
 show(if(30:Int)=30∧(0:Int)≤(y:Int)∧(y:Int)≤1500 then some (V.int (30 ^ (y:Int).toNat))else none).map W.v=_
 rw[if_pos ⟨rfl,Int.natCast_nonneg y,Int.ofNat_le.2 hy⟩,Int.toNat_natCast,Int.natCast_pow];rfl
theorem small{k:Nat}(h:k < 2 ^ 11):k < 2 ^ 8000:=Nat.lt_of_lt_of_le h (Nat.pow_le_pow_right (by decide) (by decide))
theorem fdiv_4(mem:List AO)(x:Int):bin2 .fdiv mem (.v (.int x)) (.v (.int 4))=some (.v (.int (x.fdiv (4:Nat)))):=fdiv_nat mem x (k:=4) (by decide) (small (by decide))
theorem pm_take{c:List V}{a b:Nat}{ex l:List AO}:(pm c b ex++l).take (pm c a ex).length=pm c b ex:=by unfold pm;exact List.take_left (l₁:=AO.list [.list c,.int b]::ex)
theorem pm_take0{c:List V}{a b:Nat}{ex:List AO}:(pm c b ex).take (pm c a ex).length=pm c b ex:=by unfold pm;exact List.take_length (l:=AO.list [.list c,.int b]::ex)
local macro_rules (kind:=PySem.W.tacticTb_rel) | x=>alts "pm_sub0 pm_sub1 pm_sub0a"
local macro_rules (kind:=PySem.W.tacticK_memK) | x=>alts "pm_set1"
noncomputable def allInt(c:List V):Prop:=∀v∈c,∃i:Int,v=.int i
theorem c_draw(c:List V)(hc:allInt c)(a:Nat)(ha:a≤1400)(m:Nat)(hm:0 < m):
  ∃r:Nat,r < m∧∀(n:Nat) (ex:List AO),cN prog (n+1) 44 [.l 0,.v (.int m)] (pm c a ex)=some (.ok (.v (.int r)),pm c (a+1) ex):=by
 by_cases hl:a < c.length
 ·obtain⟨i,hi⟩:=hc c[a] (List.getElem_mem _)
  refine⟨(i.fmod m).toNat,mod_lt i hm,fun n ex=>?_⟩
  have hs:=sub_l (pm c (a+1) ex) ((gqe hl).trans (congrArg some hi))
  have hl':(a:Int) < c.length:=Int.ofNat_lt.2 hl
  have h2:=mod_nat (pm c (a+1) ex) i hm
  refine rCl f_law_draw rfl rfl ?_
  unfold f_law_draw;top_caught
  top_raise
  exact fnv pm_take0
 ·have hl':¬(a:Int) < c.length:=fun q=>hl (Int.ofNat_lt.1 q)
  cases c with
  |nil=>
   refine⟨(((0:Int)+a+((a:Int)*a).fdiv (4:Nat)).fmod m).toNat,mod_lt _ hm,fun n ex=>?_⟩
   have h3:=mul_nat (pm [] (a+1) ex++[.list []]) ha a
   have h4:=fdiv_4 (pm [] (a+1) ex++[.list []]) ((a:Int)*a)
   have he:List.isEmpty ([]:List V)=true:=rfl
   have h2:=mod_nat (pm [] (a+1) ex++[.list []]) ((0:Int)+a+((a:Int)*a).fdiv (4:Nat)) hm
   refine rCl f_law_draw rfl rfl ?_
   unfold f_law_draw;top_caught
   top_raise
   exact fnv pm_take
  |cons x c=>
   have hp:0 < (x::c).length:=Nat.zero_lt_succ _
   have hk:=mod_lt (a:Int) hp
   generalize hkk:((a:Int).fmod (x::c).length).toNat=k at hk
   obtain⟨i,hi⟩:=hc (x::c)[k] (List.getElem_mem _)
   have hlen:(x::c).length < 2 ^ 8000:=small (Nat.lt_of_le_of_lt (ltr (Nat.le_of_not_lt hl) ha) (by decide))
   have hdl:a / (x::c).length≤1500:=ltr (Nat.div_le_self _ _) (ltr ha (by decide))
   have hfd:(a:Int).fdiv (x::c).length=((a / (x::c).length:Nat):Int):=by rw[Int.fdiv_eq_ediv_of_nonneg _ (Int.natCast_nonneg _)];rfl
   refine⟨((i.fdiv ((30 ^ (a / (x::c).length):Nat):Int)+a+((a:Int)*a).fdiv (4:Nat)).fmod m).toNat,mod_lt _ hm,fun n ex=>?_⟩
   have h3:=mul_nat (pm (x::c) (a+1) ex++[.list []]) ha a
   have h4:=fdiv_4 (pm (x::c) (a+1) ex++[.list []]) ((a:Int)*a)
   have h2:=mod_nat (pm (x::c) (a+1) ex++[.list []]) (i.fdiv ((30 ^ (a / (x::c).length):Nat):Int)+a+((a:Int)*a).fdiv (4:Nat)) hm
   have h5:=mod_nat (pm (x::c) (a+1) ex++[.list []]) a hp
   rw[hkk]at h5
   have h6:=sub_l (pm (x::c) (a+1) ex++[.list []]) ((gqe hk).trans (congrArg some hi))
   have h7:=fdiv_nat (pm (x::c) (a+1) ex++[.list []]) a hp hlen
   rw[hfd]at h7
   have h8:=pow_nat (pm (x::c) (a+1) ex++[.list []]) hdl
   have h9:=fdiv_nat (pm (x::c) (a+1) ex++[.list []]) i (Nat.pow_pos (by decide)) (pow_lt hdl)
   generalize a / (x::c).length=q at*
   generalize 30 ^ q=pw at*
   have he:List.isEmpty (x::c)=false:=rfl
   refine rCl f_law_draw rfl rfl ?_
   unfold f_law_draw;top_caught
   top_raise
   exact fnv pm_take
end
section
abbrev Pair:=Wd×Wd
noncomputable def prV(p:Pair):V:=.tup [.str p.1,.str p.2]
noncomputable def sN:Wd:=[110,97,109,101]
noncomputable def sRow:Wd:=[114,111,119]
noncomputable def sUse:Wd:=[117,115,101]
noncomputable def sOwn:Wd:=[111,119,110]
noncomputable def sChain:Wd:=[99,104,97,105,110]
inductive RowD where
 |single (g:Wd) | multi (g h:Wd) | alt (g:Wd) | lig (g h:Wd) | adj (i:Int) | pair (g:Wd)
 |chain (turns:Bool) (pre:List Wd) (us:List Wd) (set:Bool)
noncomputable def kwCh(t:Bool):Wd:=Bool.rec [109,111,118,101,115] [116,117,114,110,115] t
noncomputable def kwOf(d:RowD):Wd:=RowD.casesOn d (fun o0=>SINGLE) (fun o0 o0=>MULT) (fun o0=>ALT) (fun o0 o0=>LIG) (fun o0=>ADJ) (fun o0=>PAIR) fun t o0 o0 o0=>kwCh t
noncomputable def uPs(us:List Wd):List Pair:=us.flatMap fun u=>[(LKP,[]),(u,sUse)]
noncomputable def setPs(b:Bool):List Pair:=Bool.rec [] [([91],[]),([98],sN),([120,46,97,108,116],sN),([93],[])] b
noncomputable def chKw(t:Bool):Wd:=Bool.rec POS SUB t
noncomputable def rPs(f:Wd)(d:RowD):List Pair:=RowD.casesOn d
 (fun g=>[(SUB,sRow),(f,sN),(BY,[]),(g,sN),([59],[])])
 (fun g h=>[(SUB,sRow),(f,sN),(BY,[]),(g,sN),(h,sN),([59],[])])
 (fun g=>[(SUB,sRow),(f,sN),(FROM,[]),([91],[]),(g,sN),([78,49],sN),([93],[]),([59],[])])
 (fun g h=>[(SUB,sRow),(f,sN),(g,sN),(BY,[]),(h,sN),([59],[])])
 (fun i=>[(POS,sRow),(f,sN),(intTo i,[]),([59],[])])
 (fun g=>[(POS,sRow),(f,sN),(g,sN),([60],[]),([49],[]),([45,50],[]),([51,48],[]),([48],[]),([62],[]),([59],[])])
 fun t pre us set=>[(chKw t,sChain)]++(pre.map fun g=>(g,sN))++[(f,sN),([39],[])]++uPs us++setPs set++[([59],[])]
noncomputable def okRow(names:List Wd)(d:RowD):Prop:=RowD.casesOn d (fun g=>g∈GLYPHS) (fun g h=>g∈GLYPHS∧h∈GLYPHS) (fun g=>g∈GLYPHS.take 5) (fun g h=>g∈GLYPHS∧h∈GLYPHS)
 (fun i=> -450≤i∧i < 450) (fun g=>g∈GLYPHS) fun o0 pre us o0=>(pre=[]∨∃g∈GLYPHS,pre=[g])∧∃u∈names,∃k:Nat,k < 3∧us=List.replicate k u
noncomputable def glAt(k:Nat):Wd:=GLYPHS.getD k []
theorem gl_get{k:Nat}(h:k < 6):GLYPHS[k]?=some (glAt k):=by
 have h:k < GLYPHS.length:=h
 unfold glAt;rw[List.getD_eq_getElem?_getD,gqe h];rfl
theorem glAt_mem{k:Nat}(h:k < 6):glAt k∈GLYPHS:=List.mem_of_getElem? (gl_get h)
theorem gl_sub(m:List AO){k:Nat}(h:k < 6):subO m (.v gLG) (.int k)=some (.v (.str (glAt k))):=sbN m V.str (gl_get h)
theorem gl_sub1(m:List AO):subO m (.v gLG) (.int 1)=some (.v (.str [98])):=sbN m V.str (i:=1) (l:=GLYPHS) rfl
theorem gl_sub4(m:List AO):subO m (.v gLG) (.int 4)=some (.v (.str [120,46,97,108,116])):=sbN m V.str (i:=4) (l:=GLYPHS) rfl
theorem gl_sub5(m:List AO):subO m (.v gLG) (.int 5)=some (.v (.str [78,49])):=sbN m V.str (i:=5) (l:=GLYPHS) rfl
theorem pm_app(c:List V)(a:Nat)(ex l:List AO):pm c a ex++l=pm c a (ex++l):=rfl
theorem bin_lb(m)(x y:List V)(h:Nat.ble (x.length+y.length) 1000000=true):bin2 .add m (.v (.list x)) (.v (.list y))=some (.v (.list (x++y))):=bin_al m x y (bTl h)
theorem pm_last{c:List V}{a b:Nat}{ex:List AO}{y:AO}:(pm c b (ex++[y]))[(pm c a ex).length]?=some y:=by
 unfold pm;exact(List.getElem?_cons_succ ..).trans (get_app ex [y] 0)
theorem bin_ll{c:List V}{a b:Nat}{ex:List AO}(x y:List V)(h:Nat.ble (x.length+y.length) 1000000=true):bin2 .add (pm c b (ex++[.list y])) (.v (.list x)) (.l (pm c a ex).length)=some (.v (.list (x++y))):=by
 unfold bin2 deref
 dsimp only
 rw[pm_last]
 exact bin_lb [] x y h
local macro_rules (kind:=PyProof.Rows.tacticMem_news) | x=>dsL "Mine.pm_app"
local macro_rules (kind:=PySem.W.tacticTb_rel) | x=>alts "bin_lb:r bin_ll:r any_two gl_sub1 gl_sub4 gl_sub5"
section
variable(c:List V)(hc:allInt c)
inductive RowRes(a f:Nat)(kw:Wd)(names:List Wd)(nv:V):Prop
 |mk (d:RowD) (a':Nat) (le:a'≤a+10) (k:kwOf d=kw) (ok:okRow names d) (run:∀n ex,cN prog (n+3) 46 [.l 0,.v (.str kw),.v (.int f),.v nv] (pm c a ex)=some (.ok (.v (.list ((rPs (glAt f) d).map prV))),pm c a' ex))
include hc
theorem c_lglyph(a:Nat)(ha:a≤1400):∃g∈GLYPHS,∀(n:Nat) (ex:List AO),cN prog (n+2) 45 [.l 0] (pm c a ex)=some (.ok (.v (prV (g,sN))),pm c (a+1) ex):=by
 obtain⟨r,hr,h⟩:=c_draw c hc a ha 6 (by decide)
 refine⟨glAt r,glAt_mem hr,fun n ex=>?_⟩
 have h:cN prog (n+1) 44 [.l 0,.v (.int 6)] (pm c a ex)=_:=h n ex
 have h2:=gl_sub (pm c (a+1) ex) hr
 refine rCl f_law_glyph rfl rfl ?_
 unfold f_law_glyph;top_caught
 top_raise
 exact fnv pm_take0
theorem g_single(a:Nat)(ha:a≤1300)(f:Nat)(hf:f < 6)(names:List Wd)(nv:V):RowRes c a f SINGLE names nv:=by
 obtain⟨g,hg,h⟩:=c_lglyph c hc a (ltr ha (by decide))
 refine .mk (.single g) (a+1) (by lia) rfl hg fun n ex=>?_
 have h1:=gl_sub (pm c a ex) hf
 have q1:memW SINGLE [[115,105,110,103,108,101],[109,117,108,116,105,112,108,101]]=true:=rfl
 have q2:¬SINGLE=[109,117,108,116,105,112,108,101]:=by unfold SINGLE;decide
 have h:=h n (ex++[.list []])
 refine rCl f_law_row rfl rfl ?_
 unfold f_law_row;top_caught
 top_raise
 exact fnv pm_take
theorem g_multi(a:Nat)(ha:a≤1300)(f:Nat)(hf:f < 6)(names:List Wd)(nv:V):RowRes c a f MULT names nv:=by
 obtain⟨g,hg,h⟩:=c_lglyph c hc a (ltr ha (by decide))
 obtain⟨g2,hg2,h2⟩:=c_lglyph c hc (a+1) (by lia)
 refine .mk (.multi g2 g) (a+2) (by lia) rfl ⟨hg2,hg⟩ fun n ex=>?_
 have h1:=gl_sub (pm c a ex) hf
 have q1:memW MULT [[115,105,110,103,108,101],[109,117,108,116,105,112,108,101]]=true:=rfl
 have q2:MULT=[109,117,108,116,105,112,108,101]:=rfl
 have h:=h n ex
 have h2:=h2 n ex
 refine rCl f_law_row rfl rfl ?_
 unfold f_law_row;top_caught
 top_raise
 exact fnv pm_take0
theorem g_alt(a:Nat)(ha:a≤1300)(f:Nat)(hf:f < 6)(names:List Wd)(nv:V):RowRes c a f ALT names nv:=by
 obtain⟨r,hr,h⟩:=c_draw c hc a (ltr ha (by decide)) 5 (by decide)
 refine .mk (.alt (glAt r)) (a+1) (by lia) rfl (List.mem_of_getElem? (i:=r) (by rw[List.getElem?_take_of_lt hr];exact gl_get (Nat.lt_succ_of_lt hr))) fun n ex=>?_
 have h1:=gl_sub (pm c a ex) hf
 have h2:=gl_sub (pm c (a+1) ex) (Nat.lt_succ_of_lt hr)
 have q1:memW ALT [[115,105,110,103,108,101],[109,117,108,116,105,112,108,101]]=false:=rfl
 have q2:ALT=[97,108,116,101,114,110,97,116,101]:=rfl
 have h:cN prog (n+2) 44 [.l 0,.v (.int 5)] (pm c a ex)=_:=h (n+1) ex
 refine rCl f_law_row rfl rfl ?_
 unfold f_law_row;top_caught
 top_raise
 exact fnv pm_take0
theorem g_lig(a:Nat)(ha:a≤1300)(f:Nat)(hf:f < 6)(names:List Wd)(nv:V):RowRes c a f LIG names nv:=by
 obtain⟨g,hg,h⟩:=c_lglyph c hc a (ltr ha (by decide))
 obtain⟨g2,hg2,h2⟩:=c_lglyph c hc (a+1) (by lia)
 refine .mk (.lig g g2) (a+2) (by lia) rfl ⟨hg,hg2⟩ fun n ex=>?_
 have h1:=gl_sub (pm c a ex) hf
 have q1:memW LIG [[115,105,110,103,108,101],[109,117,108,116,105,112,108,101]]=false:=rfl
 have q2:¬LIG=[97,108,116,101,114,110,97,116,101]:=by unfold LIG;decide
 have q3:LIG=[108,105,103,97,116,117,114,101]:=rfl
 have h:=h n ex
 have h2:=h2 n ex
 refine rCl f_law_row rfl rfl ?_
 unfold f_law_row;top_caught
 top_raise
 exact fnv pm_take0
theorem g_adj(a:Nat)(ha:a≤1300)(f:Nat)(hf:f < 6)(names:List Wd)(nv:V):RowRes c a f ADJ names nv:=by
 obtain⟨r,hr,h⟩:=c_draw c hc a (ltr ha (by decide)) 900 (by decide)
 refine .mk (.adj ((r:Int) - 450)) (a+1) (by lia) rfl (show -450≤(r:Int) - 450∧(r:Int) - 450 < 450 by lia) fun n ex=>?_
 have h1:=gl_sub (pm c a ex) hf
 have q1:memW ADJ [[115,105,110,103,108,101],[109,117,108,116,105,112,108,101]]=false:=rfl
 have q2:¬ADJ=[97,108,116,101,114,110,97,116,101]:=by unfold ADJ;decide
 have q3:¬ADJ=[108,105,103,97,116,117,114,101]:=by unfold ADJ;decide
 have q4:ADJ=[97,100,106,117,115,116]:=rfl
 have h:cN prog (n+2) 44 [.l 0,.v (.int 900)] (pm c a ex)=_:=h (n+1) ex
 have hs:(toStrV (.int ((r:Int) - 450))).map W.v=some (.v (.str (intTo ((r:Int) - 450)))):=by
  show(if((r:Int) - 450).natAbs < 10 ^ 6 then some (V.str (intTo ((r:Int) - 450)))else none).map W.v=_
  rw[if_pos (Nat.lt_of_le_of_lt (by lia:((r:Int) - 450).natAbs≤450) (by decide))];rfl
 refine rCl f_law_row rfl rfl ?_
 unfold f_law_row;top_caught
 top_raise
 exact fnv pm_take0
theorem g_pair(a:Nat)(ha:a≤1300)(f:Nat)(hf:f < 6)(names:List Wd)(nv:V):RowRes c a f PAIR names nv:=by
 obtain⟨g,hg,h⟩:=c_lglyph c hc a (ltr ha (by decide))
 refine .mk (.pair g) (a+1) (by lia) rfl hg fun n ex=>?_
 have h1:=gl_sub (pm c a ex) hf
 have q1:memW PAIR [[115,105,110,103,108,101],[109,117,108,116,105,112,108,101]]=false:=rfl
 have q2:¬PAIR=[97,108,116,101,114,110,97,116,101]:=by unfold PAIR;decide
 have q3:¬PAIR=[108,105,103,97,116,117,114,101]:=by unfold PAIR;decide
 have q4:¬PAIR=[97,100,106,117,115,116]:=by unfold PAIR;decide
 have q5:PAIR=[112,97,105,114]:=rfl
 have h:=h n ex
 refine rCl f_law_row rfl rfl ?_
 unfold f_law_row;top_caught
 top_raise
 exact fnv pm_take0
omit hc in
theorem chain_ps{f:Wd}{t:Bool}{pre us:List Wd}{s:Bool}:(rPs f (.chain t pre us s)).map prV=
  [V.tup [V.str (chKw t),V.str [99,104,97,105,110]]]++(pre.map fun g=>prV (g,sN))++[V.tup [V.str f,V.str [110,97,109,101]],V.tup [V.str [39],V.str []]]++(uPs us).map prV++(setPs s).map prV++[V.tup [V.str [59],V.str []]]:=by
 show List.map prV ([(chKw t,sChain)]++(pre.map fun g=>(g,sN))++[(f,sN),([39],[])]++uPs us++setPs s++[([59],[])])=_
 rw[mpa,mpa,mpa,mpa,mpa,List.map_map];rfl
omit hc in
theorem rep_mul(m)(x:List V)(k:Nat)(h:x.length≤8)(hk:k≤8):bin2 .mul m (.v (.list x)) (.v (.int k))=some (.v (.list (List.replicate k x).flatten)):=by
 show(if x.length≤8∧(0:Int)≤k∧(k:Int)≤8 then some (V.list (List.replicate (k:Int).toNat x).flatten)else none).map W.v=_
 rw[if_pos ⟨h,Int.natCast_nonneg k,Int.ofNat_le.2 hk⟩,Int.toNat_natCast];rfl
omit hc in
theorem use_rep(nu:Wd):∀k:Nat,(List.replicate k [V.tup [V.str [108,111,111,107,117,112],V.str []],V.tup [V.str nu,V.str [117,115,101]]]).flatten=(uPs (List.replicate k nu)).map prV
 |0=>rfl
 |k+1=>congrArg (fun l=>V.tup [V.str [108,111,111,107,117,112],V.str []]::V.tup [V.str nu,V.str [117,115,101]]::l) (use_rep nu k)
omit hc in
theorem use_len(nu:Wd):∀k:Nat,((uPs (List.replicate k nu)).map prV).length=k+k
 |0=>rfl
 |k+1=>(congrArg (· +1+1) (use_len nu k)).trans (by lia)
omit hc in
theorem set_rep:∀s:Nat,s < 2→(List.replicate s [V.tup [V.str [91],V.str []],V.tup [V.str [98],V.str [110,97,109,101]],V.tup [V.str [120,46,97,108,116],V.str [110,97,109,101]],V.tup [V.str [93],V.str []]]).flatten=(setPs (decide (s=1))).map prV
 |0,_=>rfl
 |1,_=>rfl
 |_+2,h=>absurd h (by lia)
omit hc in
theorem set_len(b:Bool):((setPs b).map prV).length≤4:=by cases b<;>decide
theorem pre_of(a p:Nat)(ha:a≤1390)(hp:p < 2):∃(pre:List Wd) (a2:Nat),(pre=[]∨∃g∈GLYPHS,pre=[g])∧pre.length≤1∧a2≤a+1∧
  ∀(n:Nat) (ex:List AO) {γ:Type} {P:R γ→Prop} {loc0} {K:Kt (List V) γ},At P (K (pre.map fun g=>prV (g,sN)) ⟨loc0,pm c a2 ex⟩)→At P (wiK (Co (cN prog (n+2)) [1] true (.bool true) (.call 45 [(.loc 2)]) (upFrom 0 p) ⟨[none,none,some (.l 0)],pm c a ex⟩) loc0 K):=by
 match p,hp with
 |0,_=>exact⟨[],a,.inl rfl,Nat.zero_le _,Nat.le_succ _,fun n ex {γ P loc0 K} h=>h⟩
 |1,_=>
  obtain⟨g,hg,h⟩:=c_lglyph c hc a (by lia)
  refine⟨[g],a+1,.inr ⟨g,hg,rfl⟩,Nat.le_refl _,Nat.le_refl _,fun n ex {γ P loc0 K} hk=>?_⟩
  have h:=h n ex
  refine At.wiCo (x:=.int 0) (r:=[]) ?_
  top_raise
  exact hk
 |_+2,h=>exact absurd h (by lia)
theorem g_chain(t:Bool)(a:Nat)(ha:a≤1300)(f:Nat)(hf:f < 6)(names:List Wd)(hn:0 < names.length):RowRes c a f (kwCh t) names (.list (names.map .str)):=by
 obtain⟨u,hu,h1⟩:=c_draw c hc a (by lia) (names.map V.str).length (by rw[lmp];exact hn)
 rw[lmp]at hu
 obtain⟨p,hp,h2⟩:=c_draw c hc (a+1) (by lia) 2 (by decide)
 obtain⟨pre,a2,hpre,hpl,ha2,h3⟩:=pre_of c hc (a+2) p (by lia) hp
 obtain⟨k,hk,h4⟩:=c_draw c hc a2 (by lia) 3 (by decide)
 obtain⟨s,hs,h5⟩:=c_draw c hc (a2+1) (by lia) 2 (by decide)
 refine .mk (.chain t pre (List.replicate k names[u]) (decide (s=1))) (a2+2) (by lia) rfl ⟨hpre,names[u],List.getElem_mem _,k,hk,rfl⟩ fun n ex=>?_
 have e1:=gl_sub (pm c a ex) hf
 have e2:=sbN (pm c (a+1) ex) V.str (gqe hu)
 have h1:=h1 (n+1) ex
 have h2:cN prog (n+2) 44 [.l 0,.v (.int 2)] (pm c (a+1) ex)=_:=h2 (n+1) ex
 have h3:= @h3 n ex
 have h4:cN prog (n+2) 44 [.l 0,.v (.int 3)] (pm c a2 ex)=_:=h4 (n+1) ex
 have h5:cN prog (n+2) 44 [.l 0,.v (.int 2)] (pm c (a2+1) ex)=_:=h5 (n+1) ex
 have hr:=rng1_nat (n:=p) (ltr (Nat.le_of_lt hp) (by decide))
 have m1:=rep_mul (pm c (a2+1) ex) [V.tup [V.str [108,111,111,107,117,112],V.str []],V.tup [V.str names[u],V.str [117,115,101]]] k (bTl rfl) (by lia)
 rw[use_rep]at m1
 have m2:=rep_mul (pm c (a2+2) ex) [V.tup [V.str [91],V.str []],V.tup [V.str [98],V.str [110,97,109,101]],V.tup [V.str [120,46,97,108,116],V.str [110,97,109,101]],V.tup [V.str [93],V.str []]] s (by decide) (by lia)
 rw[set_rep s hs]at m2
 have q1:memW (kwCh t) [[115,105,110,103,108,101],[109,117,108,116,105,112,108,101]]=false:=by cases t<;>rfl
 have q2:¬kwCh t=[97,108,116,101,114,110,97,116,101]:=by cases t<;>exact(by decide)
 have q3:¬kwCh t=[108,105,103,97,116,117,114,101]:=by cases t<;>exact(by decide)
 have q4:¬kwCh t=[97,100,106,117,115,116]:=by cases t<;>exact(by decide)
 have q5:¬kwCh t=[112,97,105,114]:=by cases t<;>exact(by decide)
 refine rCl f_law_row rfl rfl ?_
 unfold f_law_row;top_caught
 top_raise
 have hkw:∀{K:Kt W Flow} {st:St},ifK (decide (kwCh t=[116,117,114,110,115])) (ek (cN prog (n+2)) (.str [115,117,98]) K) (ek (cN prog (n+2)) (.str [112,111,115]) K) st=K (.v (.str (chKw t))) st:=by cases t<;>intros<;>rfl
 rw[hkw]
 have lp:(pre.map fun g=>prV (g,sN)).length≤1:=by rw[lmp];exact hpl
 have lu:((uPs (List.replicate k names[u])).map prV).length≤4:=by rw[use_len];lia
 have ls:=set_len (decide (s=1))
 top_raise
 refine h3 ?_
 refine At.eq (r':=oK (compO (pre.map fun g=>prV (g,sN))) _ _) rfl ?_
 refine At.opt (compO_map (ltr hpl (by decide))) ?_
 top_raise
 refine At.opt (bin_al _ _ _ (ltr (Nat.add_le_add (Nat.le_refl 1) lp) (by decide))) ?_
 have l1:=le_app (x:=[V.tup [V.str (chKw t),V.str [99,104,97,105,110]]]) (Nat.le_refl 1) lp (c:=2) rfl
 top_raise
 refine At.opt (bin_al _ _ _ (ltr (Nat.add_le_add l1 (Nat.le_refl 2)) (by decide))) ?_
 have l2:=le_app (y:=[V.tup [V.str (glAt f),V.str [110,97,109,101]],V.tup [V.str [39],V.str []]]) l1 (Nat.le_refl 2) (c:=4) rfl
 top_raise
 refine At.opt (bin_al _ _ _ (ltr (Nat.add_le_add l2 lu) (by decide))) ?_
 have l3:=le_app l2 lu (c:=8) rfl
 top_raise
 refine At.opt (bin_al _ _ _ (ltr (Nat.add_le_add l3 ls) (by decide))) ?_
 have l4:=le_app l3 ls (c:=12) rfl
 top_raise
 refine At.opt (bin_al _ _ _ (ltr (Nat.add_le_add l4 (Nat.le_refl 1)) (by decide))) ?_
 top_raise
 rw[chain_ps]
 exact fnv pm_take0
end
end
section
noncomputable def KINDS:List Wd:=[SINGLE,PAIR,LIG,kwCh true,ALT,MULT,kwCh false,ADJ]
theorem rowPs_len(f:Wd)(names:List Wd)(d:RowD)(h:okRow names d):(rPs f d).length≤20:=by
 cases d with
 |chain t pre us set=>
  obtain⟨h1,u,_,k,hk,rfl⟩:=h
  have hp:pre.length≤1:=h1.elim (fun h=>h▸Nat.zero_le _) fun⟨g,_,h⟩=>h▸Nat.le_refl 1
  have hs:=set_len set
  have hu:=use_len u k
  rw[lmp]at hs hu
  show([(chKw t,sChain)]++(pre.map fun g=>(g,sN))++[(f,sN),([39],[])]++uPs (List.replicate k u)++setPs set++[([59],[])]).length≤20
  rw[lap,lap,lap,lap,lap,lmp,hu]
  show 1+pre.length+2+(k+k)+(setPs set).length+1≤20
  lia
 |_=>exact bTl rfl
section
variable(c:List V)(hc:allInt c)
include hc
theorem c_grow(i:Nat)(hi:i < 8)(a:Nat)(ha:a≤1300)(f:Nat)(hf:f < 6)(names:List Wd)(hn:0 < names.length):RowRes c a f (KINDS.getD i []) names (.list (names.map .str)):=match i,hi with
 |0,_=>g_single c hc a ha f hf names _
 |1,_=>g_pair c hc a ha f hf names _
 |2,_=>g_lig c hc a ha f hf names _
 |3,_=>g_chain c hc true a ha f hf names hn
 |4,_=>g_alt c hc a ha f hf names _
 |5,_=>g_multi c hc a ha f hf names _
 |6,_=>g_chain c hc false a ha f hf names hn
 |7,_=>g_adj c hc a ha f hf names _
end
structure LkD where
 own:Wd
 flag:Bool
 r0:RowD
 r1:Option RowD
structure FtD where
 tag:Wd
 script:Bool
 u0:Wd
 u1:Option Wd
noncomputable def flagPs(b:Bool):List Pair:=Bool.rec [] [(FLAG,[]),([56],[])] b
noncomputable def rowsPs(d:LkD):List Pair:=rPs [97] d.r0++d.r1.elim [] (rPs [98])
noncomputable def lkPs(d:LkD):List Pair:=[(LKP,[]),(d.own,sOwn)]++flagPs d.flag++[([123],[])]++rowsPs d++[([125],[])]
noncomputable def scriptPs(b:Bool):List Pair:=Bool.rec [] [(SCRIPT,[]),([108,97,116,110],sN)] b
noncomputable def usedPs(d:FtD):List Pair:=(d.u0,sUse)::d.u1.elim [] fun u=>[(u,sUse)]
noncomputable def ftPs(d:FtD):List Pair:=[(FEATURE,[]),(d.tag,sN)]++scriptPs d.script++[([123],[])]++usedPs d++[([125],[])]
structure OkLk(names:List Wd)(d:LkD):Prop where
 own:d.own∈names
 r0:okRow names d.r0
 r1:∀r∈d.r1,okRow names r∧kwOf r=kwOf d.r0
noncomputable def TAGS:List Wd:=[[108,105,103,97],[107],[115,115,48,49]]
structure OkFt(names:List Wd)(d:FtD):Prop where
 tag:d.tag∈TAGS
 u0:d.u0∈names
 u1:∀u∈d.u1,u∈names
noncomputable def NAMES:List Wd:=[[65,49],[108,105,103,97],[107,46,50]]
noncomputable def lkBody:List S:=[.assign 4 (.sub (.list false [(.str [115,105,110,103,108,101]),(.str [112,97,105,114]),(.str [108,105,103,97,116,117,114,101]),(.str [116,117,114,110,115]),(.str [97,108,116,101,114,110,97,116,101]),(.str [109,117,108,116,105,112,108,101]),(.str [109,111,118,101,115]),(.str [97,100,106,117,115,116])]) (.call 44 [(.loc 0),(.int 8)])),.assign 5 (.bin .mul (.list false [(.tup [(.str [102,108,97,103]),(.str [])]),(.tup [(.str [56]),(.str [])])]) (.call 44 [(.loc 0),(.int 2)])),.assign 6 (.bin .add (.bin .add (.list false [(.tup [(.str [108,111,111,107,117,112]),(.str [])]),(.tup [(.loc 3),(.str [111,119,110])])]) (.loc 5)) (.list false [(.tup [(.str [123]),(.str [])])])),.for_ [7] true (.rng [(.bin .add (.int 1) (.call 44 [(.loc 0),(.int 2)]))]) [.assign 6 (.bin .add (.loc 6) (.call 46 [(.loc 0),(.loc 4),(.loc 7),(.loc 1)]))],.expr (.append (.loc 2) (.bin .add (.loc 6) (.list false [(.tup [(.str [125]),(.str [])])])))]
noncomputable def ftBody:List S:=[.assign 9 (.bin .mul (.list false [(.tup [(.str [115,99,114,105,112,116]),(.str [])]),(.tup [(.str [108,97,116,110]),(.str [110,97,109,101])])]) (.call 44 [(.loc 0),(.int 2)])),.assign 10 (.comp [none,none,some 1,some 0] [1] true (.rng [(.bin .add (.int 1) (.call 44 [(.loc 0),(.int 2)]))]) (.bool true) (.tup [(.sub (.loc 2) (.call 44 [(.loc 3),(.len (.loc 2))])),(.str [117,115,101])])),.expr (.append (.loc 2) (.bin .add (.bin .add (.bin .add (.bin .add (.list false [(.tup [(.str [102,101,97,116,117,114,101]),(.str [])]),(.tup [(.sub (.list false [(.str [108,105,103,97]),(.str [107]),(.str [115,115,48,49])]) (.loc 8)),(.str [110,97,109,101])])]) (.loc 9)) (.list false [(.tup [(.str [123]),(.str [])])])) (.loc 10)) (.list false [(.tup [(.str [125]),(.str [])])])))]
noncomputable def blV(ps:List Pair):V:=.list (ps.map prV)
noncomputable def benv(names:List Wd)(j:Nat)(o3 o4 o5 o6 o7 o8 o9 o10:Option W):List (Option W):=[some (.l 0),some (.v (.list (names.map .str))),some (.l j),o3,o4,o5,o6,o7,o8,o9,o10]
inductive LkEnd(names:List Wd)(j:Nat)(o8 o9 o10:Option W)(m:List AO)(r:R Flow):Prop
 |mk (p3 p4 p5 p6 p7:Option W) (h:r=some (.ok .next,⟨benv names j p3 p4 p5 p6 p7 o8 o9 o10,m⟩))
inductive FtEnd(names:List Wd)(j:Nat)(o3 o4 o5 o6 o7:Option W)(m:List AO)(r:R Flow):Prop
 |mk (p8 p9 p10:Option W) (h:r=some (.ok .next,⟨benv names j o3 o4 o5 o6 o7 p8 p9 p10,m⟩))
inductive LkIter(c:List V)(names:List Wd)(own:Wd)(a:Nat):Prop
 |mk (d:LkD) (a':Nat) (le:a'≤a+30) (ow:d.own=own) (ok:OkLk names d) (run:∀n ex (b:Nat) (acc:List V) o4 o5 o6 o7 o8 o9 o10,acc.length≤100→At (LkEnd names (pm c b ex).length o8 o9 o10 (pm c a' (ex++[.list (acc++[blV (lkPs d)])])))
   (B (cN prog (n+3)) lkBody kEnd ⟨benv names (pm c b ex).length (some (.v (.str own))) o4 o5 o6 o7 o8 o9 o10,pm c a (ex++[.list acc])⟩))
inductive FtIter(c:List V)(names:List Wd)(t:Nat)(a:Nat):Prop
 |mk (d:FtD) (a':Nat) (le:a'≤a+30) (ok:OkFt names d) (run:∀n ex (b:Nat) (acc:List V) o3 o4 o5 o6 o7 o9 o10,acc.length≤100→At (FtEnd names (pm c b ex).length o3 o4 o5 o6 o7 (pm c a' (ex++[.list (acc++[blV (ftPs d)])])))
   (B (cN prog (n+3)) ftBody kEnd ⟨benv names (pm c b ex).length o3 o4 o5 o6 o7 (some (.v (.int t))) o9 o10,pm c a (ex++[.list acc])⟩))
inductive LkLoop(c:List V)(names:List Wd)(ns:List Wd)(a:Nat):Prop
 |mk (ds:List LkD) (a':Nat) (le:a'≤a+30*ns.length) (ow:ds.map (·.own)=ns) (ok:∀d∈ds,OkLk names d) (run:∀n ex (b:Nat) (acc:List V) o3 o4 o5 o6 o7 o8 o9 o10,acc.length+ns.length≤100→At (LkEnd names (pm c b ex).length o8 o9 o10 (pm c a' (ex++[.list (acc++ds.map fun d=>blV (lkPs d))])))
   (Fo (cN prog (n+3)) [3] true lkBody (ns.map .str) ⟨benv names (pm c b ex).length o3 o4 o5 o6 o7 o8 o9 o10,pm c a (ex++[.list acc])⟩))
inductive FtLoop(c:List V)(names:List Wd)(k t:Nat)(a:Nat):Prop
 |mk (ds:List FtD) (a':Nat) (le:a'≤a+30*k) (len:ds.length=k) (ok:∀d∈ds,OkFt names d) (run:∀n ex (b:Nat) (acc:List V) o3 o4 o5 o6 o7 o8 o9 o10,acc.length+k≤100→At (FtEnd names (pm c b ex).length o3 o4 o5 o6 o7 (pm c a' (ex++[.list (acc++ds.map fun d=>blV (ftPs d))])))
   (Fo (cN prog (n+3)) [8] true ftBody (upFrom t k) ⟨benv names (pm c b ex).length o3 o4 o5 o6 o7 o8 o9 o10,pm c a (ex++[.list acc])⟩))
theorem app_pm(c:List V)(a b:Nat)(ex:List AO)(l:List V)(x:V)(loc)(h:l.length≤1000):appendM (.l (pm c b ex).length) x ⟨loc,pm c a (ex++[.list l])⟩=some (.ok (.v .none),⟨loc,pm c a (ex++[.list (l++[x])])⟩):=by
 dsimp only[appendM]
 rw[pm_last]
 show(if l.length < top then _ else none)=_
 rw[if_pos (Nat.lt_of_le_of_lt h (by unfold top;decide):l.length < top)]
 exact congrArg (fun m=>some (Except.ok (W.v .none),(⟨loc,m⟩:St))) (congrArg (AO.list [.list c,.int a]:: ·) (set_app ex [.list l] 0 _))
theorem asL_pm{c:List V}{a b:Nat}{ex:List AO}{l:List V}:asL (pm c a (ex++[.list l])) (.l (pm c b ex).length)=some l:=by
 unfold asL deref;dsimp only;rw[pm_last];rfl
theorem aoL_pm{c:List V}{a b:Nat}{ex:List AO}{l:List V}:aoL (pm c a (ex++[.list l]))[(pm c b ex).length]?=some l:=by rw[pm_last];rfl
theorem pm_setl{c:List V}{a b:Nat}{ex:List AO}{x y:AO}:(pm c a (ex++[x])).set (pm c b ex).length y=pm c a ex++[y]:=congrArg (AO.list [.list c,.int a]:: ·) (set_app ex [x] 0 _)
theorem lk_map{d:LkD}:(lkPs d).map prV=[V.tup [V.str [108,111,111,107,117,112],V.str []],V.tup [V.str d.own,V.str [111,119,110]]]++(flagPs d.flag).map prV++[V.tup [V.str [123],V.str []]]++((rPs [97] d.r0).map prV++(d.r1.elim [] (rPs [98])).map prV)++[V.tup [V.str [125],V.str []]]:=by
 unfold lkPs rowsPs
 rw[mpa,mpa,mpa,mpa,mpa];rfl
theorem flag_rep:∀s:Nat,s < 2→(List.replicate s [V.tup [V.str [102,108,97,103],V.str []],V.tup [V.str [56],V.str []]]).flatten=(flagPs (decide (s=1))).map prV
 |0,_=>rfl
 |1,_=>rfl
 |_+2,h=>absurd h (by lia)
theorem flag_len(b:Bool):((flagPs b).map prV).length≤2:=by cases b<;>decide
theorem kinds_get{k:Nat}(h:k < 8):KINDS[k]?=some (KINDS.getD k []):=by
 have h:k < KINDS.length:=h
 rw[List.getD_eq_getElem?_getD,gqe h];rfl
local macro_rules (kind:=PyProof.Rows.tacticMem_news) | x=>dsL "Mine.pm_app"
local macro_rules (kind:=PySem.W.tacticTb_rel) | x=>alts "asL_pm"
local macro_rules (kind:=PySem.W.tacticK_memK) | x=>alts "app_pm:a"
section
variable(c:List V)(hc:allInt c)
include hc
theorem lk_iter(names:List Wd)(hn:0 < names.length)(own:Wd)(ho:own∈names)(a:Nat)(ha:a≤1200):LkIter c names own a:=by
 obtain⟨kd,hkd,h1⟩:=c_draw c hc a (by lia) 8 (by decide)
 obtain⟨fl,hfl,h2⟩:=c_draw c hc (a+1) (by lia) 2 (by decide)
 obtain⟨nr,hnr,h3⟩:=c_draw c hc (a+1+1) (by lia) 2 (by decide)
 obtain⟨d0,a0,ha0,hd0,ok0,h4⟩:=c_grow c hc kd hkd (a+1+1+1) (by lia) 0 (by decide) names hn
 obtain⟨d1,a1,ha1,hd1,ok1,h5⟩:=c_grow c hc kd hkd a0 (by lia) 1 (by decide) names hn
 have g0:glAt 0=[97]:=rfl
 have g1:glAt 1=[98]:=rfl
 rw[g0]at h4
 rw[g1]at h5
 have hll:=flag_len (decide (fl=1))
 have hl0:((rPs [97] d0).map prV).length≤20:=by rw[lmp];exact rowPs_len [97] names d0 ok0
 have hl1:((rPs [98] d1).map prV).length≤20:=by rw[lmp];exact rowPs_len [98] names d1 ok1
 refine .mk ⟨own,decide (fl=1),d0,if nr=1 then some d1 else none⟩ (if nr=1 then a1 else a0) (by split<;>lia) rfl ⟨ho,ok0,fun r hr=>?_⟩ ?_
 ·by_cases q:nr=1
  ·rw[if_pos q]at hr;cases hr;exact⟨ok1,hd1.trans hd0.symm⟩
  ·rw[if_neg q]at hr;cases hr
 ·intro n ex b acc o4 o5 o6 o7 o8 o9 o10 hacc
  have h1:cN prog (n+3) 44 [.l 0,.v (.int 8)] (pm c a (ex++[AO.list acc]))=some (.ok (.v (.int kd)),pm c (a+1) (ex++[AO.list acc])):=h1 (n+2) (ex++[AO.list acc])
  have h2:cN prog (n+3) 44 [.l 0,.v (.int 2)] (pm c (a+1) (ex++[AO.list acc]))=some (.ok (.v (.int fl)),pm c (a+1+1) (ex++[AO.list acc])):=h2 (n+2) (ex++[AO.list acc])
  have h3:cN prog (n+3) 44 [.l 0,.v (.int 2)] (pm c (a+1+1) (ex++[AO.list acc]))=some (.ok (.v (.int nr)),pm c (a+1+1+1) (ex++[AO.list acc])):=h3 (n+2) (ex++[AO.list acc])
  have h4:cN prog (n+3) 46 [.l 0,.v (.str (KINDS.getD kd [])),.v (.int 0),.v (.list (names.map .str))] (pm c (a+1+1+1) (ex++[AO.list acc]))=some (.ok (.v (.list ((rPs [97] d0).map prV))),pm c a0 (ex++[AO.list acc])):=h4 n (ex++[AO.list acc])
  have h5:cN prog (n+3) 46 [.l 0,.v (.str (KINDS.getD kd [])),.v (.int 1),.v (.list (names.map .str))] (pm c a0 (ex++[AO.list acc]))=some (.ok (.v (.list ((rPs [98] d1).map prV))),pm c a1 (ex++[AO.list acc])):=h5 n (ex++[AO.list acc])
  have hks:subO (pm c (a+1) (ex++[AO.list acc])) (.v (.list [.str [115,105,110,103,108,101],.str [112,97,105,114],.str [108,105,103,97,116,117,114,101],.str [116,117,114,110,115],.str [97,108,116,101,114,110,97,116,101],.str [109,117,108,116,105,112,108,101],.str [109,111,118,101,115],.str [97,100,106,117,115,116]])) (.int kd)=some (.v (.str (KINDS.getD kd []))):=sbN _ V.str (l:=KINDS) (kinds_get hkd)
  have hfl':=rep_mul (pm c (a+1+1) (ex++[AO.list acc])) [V.tup [V.str [102,108,97,103],V.str []],V.tup [V.str [56],V.str []]] fl (by decide) (by lia)
  rw[flag_rep fl hfl]at hfl'
  generalize hFL:(flagPs (decide (fl=1))).map prV=FL at*
  generalize hR0:(rPs [97] d0).map prV=R0 at*
  generalize hR1:(rPs [98] d1).map prV=R1 at*
  generalize KINDS.getD kd []=kw at*
  have hl2:acc.length≤1000:=ltr hacc (by decide)
  have l1:=le_app (x:=[V.tup [V.str [108,111,111,107,117,112],V.str []],V.tup [V.str own,V.str [111,119,110]]]) (Nat.le_refl 2) hll (c:=4) rfl
  have l2:=le_app (y:=[V.tup [V.str [123],V.str []]]) l1 (Nat.le_refl 1) (c:=5) rfl
  have l3:=le_app l2 hl0 (c:=25) rfl
  unfold lkBody benv
  top_raise
  refine At.opt (bin_al _ _ _ (ltr (Nat.add_le_add (Nat.le_refl 2) hll) (by decide))) ?_
  top_raise
  refine At.opt (bin_al _ _ _ (ltr (Nat.add_le_add l1 (Nat.le_refl 1)) (by decide))) ?_
  top_raise
  match nr,hnr with
  |0,_=>
   have hr:rngW [.v (.int ((1:Int)+(0:Nat)))]=some [.int 0]:=rng1_nat (n:=1) (by decide)
   top_raise
   refine At.bnd (a:=.next) (st:=⟨[some (.l 0),some (.v (.list (names.map .str))),some (.l (pm c b ex).length),some (.v (.str own)),some (.v (.str kw)),some (.v (.list FL)),some (.v (.list ([V.tup [V.str [108,111,111,107,117,112],V.str []],V.tup [V.str own,V.str [111,119,110]]]++FL++[V.tup [V.str [123],V.str []]]++R0))),some (.v (.int 0)),o8,o9,o10],pm c a0 (ex++[AO.list acc])⟩) (show At (· =_) _ from ?_) ?_
   ·refine At.fo ?_
    top_raise
    refine At.opt (bin_al _ _ _ (ltr (Nat.add_le_add l2 hl0) (by decide))) ?_
    top_raise
    exact rfl
   ·top_raise
    refine At.opt (bin_al _ _ _ (ltr (Nat.add_le_add l3 (Nat.le_refl 1)) (by decide))) ?_
    top_raise
    have e:blV (lkPs ⟨own,decide (fl=1),d0,none⟩)=.list ([V.tup [V.str [108,111,111,107,117,112],V.str []],V.tup [V.str own,V.str [111,119,110]]]++FL++[V.tup [V.str [123],V.str []]]++R0++[V.tup [V.str [125],V.str []]]):=by
     unfold blV;rw[lk_map];dsimp only;rw[hFL,hR0,Option.elim_none,map_n,apn]
    rw[if_neg Nat.zero_ne_one,if_neg Nat.zero_ne_one,e]
    exact .mk _ _ _ _ _ rfl
  |1,_=>
   have hr:rngW [.v (.int ((1:Int)+(1:Nat)))]=some [.int 0,.int 1]:=rng1_nat (n:=2) (by decide)
   have l4:=le_app l3 hl1 (c:=45) rfl
   top_raise
   refine At.bnd (a:=.next) (st:=⟨[some (.l 0),some (.v (.list (names.map .str))),some (.l (pm c b ex).length),some (.v (.str own)),some (.v (.str kw)),some (.v (.list FL)),some (.v (.list ([V.tup [V.str [108,111,111,107,117,112],V.str []],V.tup [V.str own,V.str [111,119,110]]]++FL++[V.tup [V.str [123],V.str []]]++R0++R1))),some (.v (.int 1)),o8,o9,o10],pm c a1 (ex++[AO.list acc])⟩) (show At (· =_) _ from ?_) ?_
   ·refine At.fo ?_
    top_raise
    refine At.opt (bin_al _ _ _ (ltr (Nat.add_le_add l2 hl0) (by decide))) ?_
    top_raise
    refine At.fo ?_
    top_raise
    refine At.opt (bin_al _ _ _ (ltr (Nat.add_le_add l3 hl1) (by decide))) ?_
    top_raise
    exact rfl
   ·top_raise
    refine At.opt (bin_al _ _ _ (ltr (Nat.add_le_add l4 (Nat.le_refl 1)) (by decide))) ?_
    top_raise
    have e:blV (lkPs ⟨own,decide (fl=1),d0,some d1⟩)=.list ([V.tup [V.str [108,111,111,107,117,112],V.str []],V.tup [V.str own,V.str [111,119,110]]]++FL++[V.tup [V.str [123],V.str []]]++R0++R1++[V.tup [V.str [125],V.str []]]):=by
     unfold blV;rw[lk_map];dsimp only;rw[hFL,hR0,Option.elim_some,hR1,←asc _ R0 R1]
    rw[if_pos rfl,if_pos rfl,e]
    exact .mk _ _ _ _ _ rfl
  |_+2,h=>exact absurd h (by lia)
omit hc in
theorem script_rep:∀s:Nat,s < 2→(List.replicate s [V.tup [V.str [115,99,114,105,112,116],V.str []],V.tup [V.str [108,97,116,110],V.str [110,97,109,101]]]).flatten=(scriptPs (decide (s=1))).map prV
 |0,_=>rfl
 |1,_=>rfl
 |_+2,h=>absurd h (by lia)
omit hc in
theorem script_len(b:Bool):((scriptPs b).map prV).length≤2:=by cases b<;>decide
omit hc in
theorem ft_map{d:FtD}:(ftPs d).map prV=[V.tup [V.str [102,101,97,116,117,114,101],V.str []],V.tup [V.str d.tag,V.str [110,97,109,101]]]++(scriptPs d.script).map prV++[V.tup [V.str [123],V.str []]]++(usedPs d).map prV++[V.tup [V.str [125],V.str []]]:=by
 unfold ftPs
 rw[mpa,mpa,mpa,mpa];rfl
omit hc in
theorem tags_get{k:Nat}(h:k < 3):TAGS[k]?=some (TAGS.getD k []):=by
 have h:k < TAGS.length:=h
 rw[List.getD_eq_getElem?_getD,gqe h];rfl
local macro_rules (kind:=PySem.W.tacticTb_rel) | x=>alts "compO_ok:b"
theorem ft_iter(names:List Wd)(hn:0 < names.length)(t:Nat)(ht3:t < 3)(a:Nat)(ha:a≤1200):FtIter c names t a:=by
 have hnl:0 < (names.map V.str).length:=by rw[lmp];exact hn
 obtain⟨sc,hsc,h1⟩:=c_draw c hc a (by lia) 2 (by decide)
 obtain⟨nr,hnr,h2⟩:=c_draw c hc (a+1) (by lia) 2 (by decide)
 obtain⟨u0,hu0,h3⟩:=c_draw c hc (a+1+1) (by lia) _ hnl
 obtain⟨u1,hu1,h4⟩:=c_draw c hc (a+1+1+1) (by lia) _ hnl
 rw[lmp]at hu0 hu1
 have hll:=script_len (decide (sc=1))
 refine .mk ⟨TAGS.getD t [],decide (sc=1),names[u0],if nr=1 then some names[u1]else none⟩ (if nr=1 then a+1+1+1+1 else a+1+1+1) (by split<;>lia) ⟨List.mem_of_getElem? (tags_get ht3),List.getElem_mem _,fun r hr=>?_⟩ ?_
 ·dsimp only at hr
  by_cases q:nr=1
  ·rw[if_pos q]at hr;cases hr;exact List.getElem_mem _
  ·rw[if_neg q]at hr;cases hr
 ·intro n ex b acc o3 o4 o5 o6 o7 o9 o10 hacc
  have h1:cN prog (n+3) 44 [.l 0,.v (.int 2)] (pm c a (ex++[AO.list acc]))=some (.ok (.v (.int sc)),pm c (a+1) (ex++[AO.list acc])):=h1 (n+2) (ex++[AO.list acc])
  have h2:cN prog (n+3) 44 [.l 0,.v (.int 2)] (pm c (a+1) (ex++[AO.list acc]))=some (.ok (.v (.int nr)),pm c (a+1+1) (ex++[AO.list acc])):=h2 (n+2) (ex++[AO.list acc])
  have h3:=h3 (n+2) (ex++[AO.list acc])
  have h4:=h4 (n+2) (ex++[AO.list acc])
  have hs0:=sbN (pm c (a+1+1+1) (ex++[AO.list acc])) V.str (gqe hu0)
  have hs1:=sbN (pm c (a+1+1+1+1) (ex++[AO.list acc])) V.str (gqe hu1)
  have hfl:=rep_mul (pm c (a+1) (ex++[AO.list acc])) [V.tup [V.str [115,99,114,105,112,116],V.str []],V.tup [V.str [108,97,116,110],V.str [110,97,109,101]]] sc (by decide) (by lia)
  rw[script_rep sc hsc]at hfl
  have htg:∀m,subO m (.v (.list [.str [108,105,103,97],.str [107],.str [115,115,48,49]])) (.int t)=some (.v (.str (TAGS.getD t []))):=fun m=>sbN m V.str (l:=TAGS) (tags_get ht3)
  generalize hFL:(scriptPs (decide (sc=1))).map prV=FL at*
  generalize TAGS.getD t []=tg at*
  have hl2:acc.length≤1000:=ltr hacc (by decide)
  have l1:=le_app (x:=[V.tup [V.str [102,101,97,116,117,114,101],V.str []],V.tup [V.str tg,V.str [110,97,109,101]]]) (Nat.le_refl 2) hll (c:=4) rfl
  have l2:=le_app (y:=[V.tup [V.str [123],V.str []]]) l1 (Nat.le_refl 1) (c:=5) rfl
  unfold ftBody benv
  match nr,hnr with
  |0,_=>
   have hr:rngW [.v (.int ((1:Int)+(0:Nat)))]=some [.int 0]:=rng1_nat (n:=1) (by decide)
   have htg:=htg (pm c (a+1+1+1) (ex++[AO.list acc]))
   top_raise
   refine At.opt (bin_al _ _ _ (ltr (Nat.add_le_add (Nat.le_refl 2) hll) (by decide))) ?_
   top_raise
   refine At.opt (bin_al _ _ _ (ltr (Nat.add_le_add l1 (Nat.le_refl 1)) (by decide))) ?_
   top_raise
   refine At.opt (bin_al _ _ _ (ltr (Nat.add_le_add l2 (Nat.le_refl 1)) (by decide))) ?_
   have l3:=le_app (y:=[V.tup [V.str names[u0],V.str [117,115,101]]]) l2 (Nat.le_refl 1) (c:=6) rfl
   top_raise
   refine At.opt (bin_al _ _ _ (ltr (Nat.add_le_add l3 (Nat.le_refl 1)) (by decide))) ?_
   top_raise
   have e:blV (ftPs ⟨tg,decide (sc=1),names[u0],none⟩)=.list ([V.tup [V.str [102,101,97,116,117,114,101],V.str []],V.tup [V.str tg,V.str [110,97,109,101]]]++FL++[V.tup [V.str [123],V.str []]]++[V.tup [V.str names[u0],V.str [117,115,101]]]++[V.tup [V.str [125],V.str []]]):=by
    unfold blV;rw[ft_map];dsimp only;rw[hFL];rfl
   rw[if_neg Nat.zero_ne_one,if_neg Nat.zero_ne_one,e]
   exact .mk _ _ _ rfl
  |1,_=>
   have hr:rngW [.v (.int ((1:Int)+(1:Nat)))]=some [.int 0,.int 1]:=rng1_nat (n:=2) (by decide)
   have htg:=htg (pm c (a+1+1+1+1) (ex++[AO.list acc]))
   top_raise
   refine At.opt (bin_al _ _ _ (ltr (Nat.add_le_add (Nat.le_refl 2) hll) (by decide))) ?_
   top_raise
   refine At.opt (bin_al _ _ _ (ltr (Nat.add_le_add l1 (Nat.le_refl 1)) (by decide))) ?_
   top_raise
   refine At.opt (bin_al _ _ _ (ltr (Nat.add_le_add l2 (Nat.le_refl 2)) (by decide))) ?_
   have l3:=le_app (y:=[V.tup [V.str names[u0],V.str [117,115,101]]]++([V.tup [V.str names[u1],V.str [117,115,101]]]++[])) l2 (Nat.le_refl 2) (c:=7) rfl
   top_raise
   refine At.opt (bin_al _ _ _ (ltr (Nat.add_le_add l3 (Nat.le_refl 1)) (by decide))) ?_
   top_raise
   have e:blV (ftPs ⟨tg,decide (sc=1),names[u0],some names[u1]⟩)=.list ([V.tup [V.str [102,101,97,116,117,114,101],V.str []],V.tup [V.str tg,V.str [110,97,109,101]]]++FL++[V.tup [V.str [123],V.str []]]++([V.tup [V.str names[u0],V.str [117,115,101]]]++([V.tup [V.str names[u1],V.str [117,115,101]]]++[]))++[V.tup [V.str [125],V.str []]]):=by
    unfold blV;rw[ft_map];dsimp only;rw[hFL];rfl
   rw[if_pos rfl,if_pos rfl,e]
   exact .mk _ _ _ rfl
  |_+2,h=>exact absurd h (by lia)
omit hc in
theorem At.eqr{γ:Type}{P:R γ→Prop}{r r':R γ}(h:r=r')(hk:At P r'):At P r:=h▸hk
omit hc in
theorem B_end{γ:Type}{C:CallT}{x:List S}{k:Kt Flow γ}{st st':St}(h:B C x kEnd st=some (.ok .next,st')):B C x k st=k .next st':=by
 have e:=nat_B C (x:=x) (k:=kEnd) (f:=k) (st:=st)
 rw[h]at e
 exact e.symm
theorem lk_loop(names:List Wd)(hn:0 < names.length)(ns:List Wd):(∀o∈ns,o∈names)→∀(a:Nat),a+30*ns.length≤1200→LkLoop c names ns a:=by
 induction ns with
 |nil=>exact fun o0 a ha=>.mk [] a (Nat.le_refl _) rfl (fun o0 h=>nomatch h) fun n ex b acc o3 o4 o5 o6 o7 o8 o9 o10 o0=>.mk o3 o4 o5 o6 o7 (by rw[map_n,map_n,apn];rfl)
 |cons o ns ih=>
  intro ho a ha
  rw[lcn]at ha
  cases lk_iter c hc names hn o (ho o (List.mem_cons_self ..)) a (by lia)with
  |mk d a1 ha1 hd hok h=>
  cases ih (fun o ho2=>ho o (List.mem_cons_of_mem _ ho2)) a1 (by lia)with
  |mk ds a2 ha2 hds hoks h2=>
  refine .mk (d::ds) a2 (by rw[lcn];lia) (by rw[map_c,hd,hds]) (fun x hx=>(List.mem_cons.1 hx).elim (fun e=>e▸hok) (hoks x)) fun n ex b acc o3 o4 o5 o6 o7 o8 o9 o10 hacc=>?_
  rw[lcn]at hacc
  rw[map_c,map_c,Fo_cons,List.append_cons acc,bp_one,bindR_ok]
  cases h n ex b acc o4 o5 o6 o7 o8 o9 o10 (by lia)with
  |mk p3 p4 p5 p6 p7 e1=>
  unfold kFoB
  refine At.eqr (B_end (k:=kFoN (cN prog (n+3)) [3] true lkBody (ns.map .str)) e1) ?_
  exact h2 n ex b (acc++[blV (lkPs d)]) p3 p4 p5 p6 p7 o8 o9 o10 (by rw[lap,List.length_singleton];lia)
theorem ft_loop(names:List Wd)(hn:0 < names.length)(k:Nat):∀(t:Nat),t+k≤3→∀(a:Nat),a+30*k≤1200→FtLoop c names k t a:=by
 induction k with
 |zero=>exact fun t o0 a ha=>.mk [] a (Nat.le_refl _) rfl (fun o0 h=>nomatch h) fun n ex b acc o3 o4 o5 o6 o7 o8 o9 o10 o0=>.mk o8 o9 o10 (by rw[map_n,apn];rfl)
 |succ k ih=>
  intro t ht a ha
  cases ft_iter c hc names hn t (by lia) a (by lia)with
  |mk d a1 ha1 hok h=>
  cases ih (t+1) (by lia) a1 (by lia)with
  |mk ds a2 ha2 hds hoks h2=>
  refine .mk (d::ds) a2 (by lia) (congrArg (· +1) hds) (fun x hx=>(List.mem_cons.1 hx).elim (fun e=>e▸hok) (hoks x)) fun n ex b acc o3 o4 o5 o6 o7 o8 o9 o10 hacc=>?_
  show At _ (Fo (cN prog (n+3)) [8] true ftBody (V.int t::upFrom (t+1) k) _)
  rw[map_c,Fo_cons,List.append_cons acc,bp_one,bindR_ok]
  cases h n ex b acc o3 o4 o5 o6 o7 o9 o10 (by lia)with
  |mk p8 p9 p10 e1=>
  unfold kFoB
  refine At.eqr (B_end (k:=kFoN (cN prog (n+3)) [8] true ftBody (upFrom (t+1) k)) e1) ?_
  exact h2 n ex b (acc++[blV (ftPs d)]) o3 o4 o5 o6 o7 p8 p9 p10 (by rw[lap,List.length_singleton];lia)
inductive BlocksRes(a:Nat):Prop
 |mk (k:Nat) (lks:List LkD) (fts:List FtD) (a':Nat) (hk:k < 3) (le:a'≤a+200) (own:lks.map (·.own)=NAMES.take (1+k)) (lk:∀d∈lks,OkLk (NAMES.take (1+k)) d) (fl:fts.length < 3) (ft:∀d∈fts,OkFt (NAMES.take (1+k)) d)
  (run:∀n ex,cN prog (n+4) 47 [.l 0] (pm c a ex)=some (.ok (.v (.tup [.list ((lks.map lkPs++fts.map ftPs).map blV),.list ((NAMES.take (1+k)).map .str)])),pm c a' ex))
theorem c_blocks(a:Nat)(ha:a≤100):BlocksRes c a:=by
 obtain⟨k,hk,h1⟩:=c_draw c hc a (by lia) 3 (by decide)
 have hnl:(NAMES.take (1+k)).length=1+k:=by rw[List.length_take];exact Nat.min_eq_left (show 1+k≤3 by lia)
 cases lk_loop c hc (NAMES.take (1+k)) (by lia) (NAMES.take (1+k)) (fun o0 h=>h) (a+1) (by lia)with
 |mk lks a1 ha1 hl1 hl2 h2=>
 obtain⟨f,hf,h3⟩:=c_draw c hc a1 (by lia) 3 (by decide)
 cases ft_loop c hc (NAMES.take (1+k)) (by lia) f 0 (by lia) (a1+1) (by lia)with
 |mk fts a2 ha2 hf1 hf2 h4=>
 have hll:lks.length≤3:=by
  have:=congrArg List.length hl1
  rw[lmp]at this;lia
 refine .mk k lks fts a2 hk (by lia) hl1 hl2 (by lia) hf2 fun n ex=>?_
 have h1:cN prog (n+3) 44 [.l 0,.v (.int 3)] (pm c a ex)=some (.ok (.v (.int k)),pm c (a+1) ex):=h1 (n+2) ex
 have h3:cN prog (n+3) 44 [.l 0,.v (.int 3)] (pm c a1 (ex++[AO.list ([]++lks.map fun d=>blV (lkPs d))]))=some (.ok (.v (.int f)),pm c (a1+1) (ex++[AO.list ([]++lks.map fun d=>blV (lkPs d))])):=h3 (n+2) _
 cases h2 n ex (a+1) [] none none none none none none none none (by rw[List.length_nil];lia)with
 |mk p3 p4 p5 p6 p7 e2=>
 cases h4 n ex (a+1) ([]++lks.map fun d=>blV (lkPs d)) p3 p4 p5 p6 p7 none none none (by rw[List.nil_append,lmp];lia)with
 |mk q8 q9 q10 e4=>
 have hsl:sliceO (pm c (a+1) ex) (.v (.list [.str [65,49],.str [108,105,103,97],.str [107,46,50]])) none (some (.int ((1:Int)+k)))=some (.v (.list ((NAMES.take (1+k)).map .str))):=by
  have:=sliceTo_n (pm c (a+1) ex) [.str [65,49],.str [108,105,103,97],.str [107,46,50]] (1+k)
  rw[Int.natCast_add]at this
  rw[List.map_take];exact this
 have hr:=rng1_nat (n:=f) (ltr (Nat.le_of_lt hf) (by decide))
 refine rCl f_law_blocks rfl rfl ?_
 unfold f_law_blocks;top_caught
 unfold benv at e2 e4
 top_raise
 refine At.bnd e2 ?_
 top_raise
 refine At.bnd e4 ?_
 top_raise
 refine At.opt aoL_pm ?_
 top_raise
 rw[pm_setl,mpa,List.map_map,List.map_map]
 exact fnv pm_take
end
end
section
noncomputable def GAPS:List Wd:=[[32],[],[10],[32,32],[32,35,32,98,121,32,59,10],[35,39,13],[9]]
noncomputable def HEADS:List Wd:=[[],[10,32],[35,32,120,10]]
structure GapOk(one other g:Wd):Prop where
 mem:g∈GAPS
 nil:g=[]→iSb one SIGNS=true∨iSb other SIGNS=true
inductive SpellT:Option Wd→Nat→List Wd→List Nat→List Nat→Prop
 |nil (prev:Option Wd) (pos:Nat):SpellT prev pos [] [] []
 |cons (prev:Option Wd) (pos:Nat) (w:Wd) (ws:List Wd) (g t':Wd) (ps':List Nat) (hg:prev.elim (g=[]) fun p=>GapOk p w g) (h:SpellT (some w) (pos+g.length+w.length) ws t' ps'):SpellT prev pos (w::ws) (g++(w++t')) ((pos+g.length)::ps')
structure Spelled(ws:List Wd)(text:Wd)(ps:List Nat):Prop where
 ex:∃h∈HEADS,∃t,text=h++t∧SpellT none h.length ws t ps
theorem gaps_get{k:Nat}(h:k < 7):GAPS[k]?=some (GAPS.getD k []):=by
 have h:k < GAPS.length:=h
 rw[List.getD_eq_getElem?_getD,gqe h];rfl
theorem heads_get{k:Nat}(h:k < 3):HEADS[k]?=some (HEADS.getD k []):=by
 have h:k < HEADS.length:=h
 rw[List.getD_eq_getElem?_getD,gqe h];rfl
section
variable(c:List V)(hc:allInt c)
include hc
theorem c_gap(one other:Wd)(a:Nat)(ha:a≤1400):∃g,GapOk one other g∧∀n ex,cN prog (n+2) 48 [.l 0,.v (.str one),.v (.str other)] (pm c a ex)=some (.ok (.v (.str g)),pm c (a+1) ex):=by
 obtain⟨r,hr,h⟩:=c_draw c hc a ha 7 (by decide)
 have hs:∀m,subO m (.v (.list [.str [32],.str [],.str [10],.str [32,32],.str [32,35,32,98,121,32,59,10],.str [35,39,13],.str [9]])) (.int r)=some (.v (.str (GAPS.getD r []))):=fun m=>sbN m V.str (l:=GAPS) (gaps_get hr)
 have hm:=List.mem_of_getElem? (gaps_get hr)
 generalize GAPS.getD r []=g at*
 have go:∀n ex,cN prog (n+1) 44 [.l 0,.v (.int 7)] (pm c a ex)=some (.ok (.v (.int r)),pm c (a+1) ex):=h
 by_cases hg:g=[]
 ·cases h1:iSb one SIGNS
  ·cases h2:iSb other SIGNS
   ·refine⟨[32],⟨.head _,fun q=>(nomatch q)⟩,fun n ex=>?_⟩
    have hs:=hs (pm c (a+1) ex)
    have go:=go n ex
    have h1:iSb one [123,125,91,93,59,39,60,62]=false:=h1
    have h2:iSb other [123,125,91,93,59,39,60,62]=false:=h2
    refine rCl f_law_gap rfl rfl ?_
    unfold f_law_gap;top_caught
    top_raise
    exact fnv pm_take0
   ·refine⟨g,⟨hm,fun o0=>.inr h2⟩,fun n ex=>?_⟩
    have hs:=hs (pm c (a+1) ex)
    have go:=go n ex
    have h1:iSb one [123,125,91,93,59,39,60,62]=false:=h1
    have h2:iSb other [123,125,91,93,59,39,60,62]=true:=h2
    refine rCl f_law_gap rfl rfl ?_
    unfold f_law_gap;top_caught
    top_raise
    exact fnv pm_take0
  ·refine⟨g,⟨hm,fun o0=>.inl h1⟩,fun n ex=>?_⟩
   have hs:=hs (pm c (a+1) ex)
   have go:=go n ex
   have h1:iSb one [123,125,91,93,59,39,60,62]=true:=h1
   refine rCl f_law_gap rfl rfl ?_
   unfold f_law_gap;top_caught
   top_raise
   exact fnv pm_take0
 ·refine⟨g,⟨hm,fun q=>absurd q hg⟩,fun n ex=>?_⟩
  have hs:=hs (pm c (a+1) ex)
  have go:=go n ex
  refine rCl f_law_gap rfl rfl ?_
  unfold f_law_gap;top_caught
  top_raise
  exact fnv pm_take0
end
theorem gap_len{g:Wd}(h:g∈GAPS):g.length≤8:=by
 have h:g∈[[32],[],[10],[32,32],[32,35,32,98,121,32,59,10],[35,39,13],[9]]:=h
 exact(by decide:∀g∈([[32],[],[10],[32,32],[32,35,32,98,121,32,59,10],[35,39,13],[9]]:List Wd),g.length≤8) g h
noncomputable abbrev natsV(ps:List Nat):List V:=ps.map fun(p:Nat)=>V.int p
noncomputable def spBody:List S:=[.ite (.cmp .gt (.loc 4) (.int 0)) [.assign 2 (.bin .add (.loc 2) (.call 48 [(.loc 0),(.sub (.loc 1) (.bin .sub (.loc 4) (.int 1))),(.loc 5)]))] [],.expr (.append (.loc 3) (.len (.loc 2))),.assign 2 (.bin .add (.loc 2) (.loc 5))]
noncomputable def senv(ws:List Wd)(text:Wd)(j:Nat)(o4 o5:Option W):List (Option W):=[some (.l 0),some (.v (.list (ws.map .str))),some (.v (.str text)),some (.l j),o4,o5]
local macro_rules (kind:=PyProof.Rows.tacticMem_news) | x=>dsL "Mine.pm_app"
local macro_rules (kind:=PySem.W.tacticTb_rel) | x=>alts "asL_pm"
local macro_rules (kind:=PySem.W.tacticK_memK) | x=>alts "app_pm:a"
theorem sp_first(c:List V)(ws:List Wd)(w text:Wd)(ps:List Nat)(a:Nat)(h1:text.length+w.length≤1000000)(h2:(natsV ps).length≤1000)(n:Nat)(ex:List AO)(b:Nat):
  B (cN prog (n+2)) spBody kEnd ⟨senv ws text (pm c b ex).length (some (.v (.int (0:Nat)))) (some (.v (.str w))),pm c a (ex++[.list (natsV ps)])⟩=
   some (.ok .next,⟨senv ws (text++w) (pm c b ex).length (some (.v (.int (0:Nat)))) (some (.v (.str w))),pm c a (ex++[.list (natsV ps++[.int text.length])])⟩):=by
 show At (· =_) _
 have h0:¬((0:Nat):Int) > 0:=Int.lt_irrefl 0
 unfold spBody senv
 top_raise
 refine At.opt (bin_as _ _ _ h1) ?_
 top_raise
 exact rfl
theorem sp_next(c:List V)(ws:List Wd)(w p g text:Wd)(ps:List Nat)(a k:Nat)(hk:ws[k]?=some p)(h1:text.length+g.length≤1000000)(h3:(text++g).length+w.length≤1000000)(h2:(natsV ps).length≤1000)(n:Nat)(ex:List AO)(b:Nat)
  (hg:cN prog (n+2) 48 [.l 0,.v (.str p),.v (.str w)] (pm c a (ex++[.list (natsV ps)]))=some (.ok (.v (.str g)),pm c (a+1) (ex++[.list (natsV ps)]))):
  B (cN prog (n+2)) spBody kEnd ⟨senv ws text (pm c b ex).length (some (.v (.int (k+1:Nat)))) (some (.v (.str w))),pm c a (ex++[.list (natsV ps)])⟩=
   some (.ok .next,⟨senv ws (text++g++w) (pm c b ex).length (some (.v (.int (k+1:Nat)))) (some (.v (.str w))),pm c (a+1) (ex++[.list (natsV ps++[.int (text++g).length])])⟩):=by
 show At (· =_) _
 have h0:((k+1:Nat):Int) > 0:=Int.natCast_pos.2 (Nat.succ_pos k)
 have hs:subO (pm c a (ex++[AO.list (natsV ps)])) (.v (.list (ws.map .str))) (.int (((k+1:Nat):Int) - 1))=some (.v (.str p)):=by
  rw[show((k+1:Nat):Int) - 1=(k:Int) by lia]
  exact sbN _ V.str hk
 unfold spBody senv
 top_raise
 refine At.opt (bin_as _ _ _ h1) ?_
 top_raise
 refine At.opt (bin_as _ _ _ h3) ?_
 top_raise
 exact rfl
theorem nats_snoc{ps:List Nat}{k:Nat}:natsV ps++[.int k]=natsV (ps++[k]):=by unfold natsV;rw[mpa];rfl
inductive SpEnd(ws:List Wd)(text:Wd)(j:Nat)(m:List AO)(r:R Flow):Prop
 |mk (p4 p5:Option W) (h:r=some (.ok .next,⟨senv ws text j p4 p5,m⟩))
inductive SpRun(c:List V)(ws:List Wd)(prev:Option Wd)(i:Nat)(text:Wd)(ps:List Nat)(ws2:List Wd)(a:Nat):Prop
 |mk (t:Wd) (ps':List Nat) (a':Nat) (le:a'≤a+ws2.length) (sp:SpellT prev text.length ws2 t ps') (run:∀n ex b o4 o5,At (SpEnd ws (text++t) (pm c b ex).length (pm c a' (ex++[.list (natsV (ps++ps'))])))
   (Fo (cN prog (n+2)) [4,5] false spBody (enumFrom i (ws2.map .str)) ⟨senv ws text (pm c b ex).length o4 o5,pm c a (ex++[.list (natsV ps)])⟩))
theorem sp_loop(c:List V)(hc:allInt c)(ws:List Wd)(hw:∀w∈ws,w.length≤20)(ws2:List Wd):∀(ws1:List Wd),ws=ws1++ws2→∀(a:Nat) (text:Wd) (ps:List Nat),a+ws2.length≤1300→text.length+40*ws2.length≤100000→ps.length+ws2.length≤1000→SpRun c ws ws1.getLast? ws1.length text ps ws2 a:=by
 induction ws2 with
 |nil=>exact fun ws1 o0 a text ps o0 o0 o0=>.mk [] [] a (Nat.le_refl _) (.nil _ _) fun n ex b o4 o5=>.mk o4 o5 (by rw[apn,apn];rfl)
 |cons w ws2 ih=>
  intro ws1 he a text ps ha ht hp
  rw[lcn]at ha ht hp
  have hwl:w.length≤20:=hw w (he▸List.mem_append_right _ (List.mem_cons_self ..))
  have hpl:(natsV ps).length≤1000:=by rw[lmp];lia
  rcases List.eq_nil_or_concat ws1 with rfl | ⟨ws0,p,rfl⟩
  ·cases ih [w] he a (text++w) (ps++[text.length]) (by lia) (by rw[lap];lia) (by rw[lap,List.length_singleton];lia)with
   |mk t ps' a' h1 h2 h3=>
   rw[lap]at h2
   refine .mk (w++t) (text.length::ps') a' (by rw[lcn];lia) (.cons none _ w ws2 [] t ps' rfl h2) fun n ex b o4 o5=>?_
   have e1:=sp_first c ws w text ps a (by lia) hpl n ex b
   rw[nats_snoc]at e1
   rw[←asc,List.append_cons ps]
   show At _ (Fo (cN prog (n+2)) [4,5] false spBody (V.tup [.int (0:Nat),.str w]::enumFrom 1 (ws2.map .str)) _)
   rw[Fo_cons,bp_two,bindR_ok]
   unfold kFoB
   exact At.eq (B_end (k:=kFoN (cN prog (n+2)) [4,5] false spBody (enumFrom 1 (ws2.map .str))) e1) (h3 n ex b (some (.v (.int (0:Nat)))) (some (.v (.str w))))
  ·obtain⟨g,hg,hgap⟩:=c_gap c hc p w a (by lia)
   have hgl:=gap_len hg.mem
   have hk:(ws0.concat p).length=ws0.length+1:=List.length_concat
   have hl:(text++g).length=text.length+g.length:=lap
   cases ih ((ws0.concat p)++[w]) (by rw[he,asc];rfl) (a+1) (text++g++w) (ps++[(text++g).length]) (by lia) (by rw[lap,hl];lia) (by rw[lap,List.length_singleton];lia)with
   |mk t ps' a' h1 h2 h3=>
   have hlast:(ws0.concat p).getLast?=some p:=by rw[List.concat_eq_append];exact List.getLast?_concat
   rw[List.getLast?_concat,lap,hl]at h2
   rw[hlast,hk]
   rw[lap (as:=ws0.concat p),hk]at h3
   refine .mk (g++(w++t)) ((text.length+g.length)::ps') a' (by rw[lcn];lia) (.cons (some p) _ w ws2 g t ps' hg h2) fun n ex b o4 o5=>?_
   have hwk:ws[ws0.length]?=some p:=by rw[he,List.concat_eq_append,asc,List.getElem?_append_right (Nat.le_refl _),Nat.sub_self];rfl
   have e1:=sp_next c ws w p g text ps a ws0.length hwk (by lia) (by rw[hl];lia) hpl n ex b (hgap n _)
   rw[nats_snoc]at e1
   rw[←asc,←asc,List.append_cons ps,←hl]
   show At _ (Fo (cN prog (n+2)) [4,5] false spBody (V.tup [.int (ws0.length+1:Nat),.str w]::enumFrom (ws0.length+1+1) (ws2.map .str)) _)
   rw[Fo_cons,bp_two,bindR_ok]
   unfold kFoB
   exact At.eq (B_end (k:=kFoN (cN prog (n+2)) [4,5] false spBody (enumFrom (ws0.length+1+1) (ws2.map .str))) e1) (h3 n ex b (some (.v (.int (ws0.length+1:Nat)))) (some (.v (.str w))))
theorem spell_len{prev:Option Wd}{pos:Nat}{ws:List Wd}{t ps:List Nat}(h:SpellT prev pos ws t ps):(∀w∈ws,w.length≤20)→t.length≤40*ws.length:=by
 induction h with
 |nil=>exact fun o0=>Nat.le_refl 0
 |cons prev pos w ws g t' ps' hg h ih=>
  intro hw
  have h1:=ih fun w hw2=>hw w (List.mem_cons_of_mem _ hw2)
  have h2:=hw w (List.mem_cons_self ..)
  have h3:g.length≤8:=by
   cases prev with
   |none=>cases (hg:g=[]);exact Nat.zero_le _
   |some p=>exact gap_len (hg:GapOk p w g).mem
  rw[lap,lap,lcn]
  lia
theorem c_spelled(c:List V)(hc:allInt c)(ws:List Wd)(hw:∀w∈ws,w.length≤20)(hl:ws.length≤300)(a:Nat)(ha:a≤900):∃(text:Wd) (ps:List Nat) (a':Nat),a'≤a+ws.length+1∧Spelled ws text ps∧text.length≤50000∧
  ∀n ex,cN prog (n+3) 49 [.l 0,.v (.list (ws.map .str))] (pm c a ex)=some (.ok (.v (.tup [.str text,.list (natsV ps)])),pm c a' ex):=by
 obtain⟨r,hr,h⟩:=c_draw c hc a (by lia) 3 (by decide)
 have hs:=fun m=>sbN m V.str (l:=HEADS) (heads_get hr)
 have hm:=List.mem_of_getElem? (heads_get hr)
 have hhl:(HEADS.getD r []).length≤4:=(by decide:∀g∈([[],[10,32],[35,32,120,10]]:List Wd),g.length≤4) _ hm
 generalize HEADS.getD r []=hd at*
 cases sp_loop c hc ws hw ws [] rfl (a+1) hd [] (by lia) (by lia) (by rw[List.length_nil];lia)with
 |mk t ps a' h1 h2 h3=>
 have htl:=spell_len h2 hw
 refine⟨hd++t,ps,a',by lia,⟨hd,hm,t,rfl,h2⟩,by rw[lap];lia,fun n ex=>?_⟩
 have h:cN prog (n+2) 44 [.l 0,.v (.int 3)] (pm c a ex)=some (.ok (.v (.int r)),pm c (a+1) ex):=h (n+1) ex
 have hs:subO (pm c (a+1) ex) (.v (.list [.str [],.str [10,32],.str [35,32,120,10]])) (.int r)=some (.v (.str hd)):=hs _
 cases h3 n ex (a+1) none none with
 |mk p4 p5 e=>
 refine rCl f_law_spelled rfl rfl ?_
 unfold f_law_spelled;top_caught
 unfold senv spBody at e
 top_raise
 refine At.bnd e ?_
 top_raise
 refine At.opt aoL_pm ?_
 top_raise
 rw[pm_setl]
 exact fnv pm_take
end
section
theorem isSub_one(c:Nat)(s:Wd):iSb [c] s=true↔c∈s:=by
 induction s with
 |nil=>exact⟨fun h=>Bool.noConfusion h,fun h=>nomatch h⟩
 |cons a s ih=>
  rw[show iSb [c] (a::s)=((decide (c=a)&&true) || iSb [c] s)from rfl,Bool.and_true,Bool.or_eq_true_iff,decide_eq_true_iff,ih,List.mem_cons]
theorem isSub_f{c:Nat}{s:Wd}(h:c∉s):iSb [c] s=false:=Bool.eq_false_iff.2 fun q=>h ((isSub_one c s).1 q)
theorem isSub_head(c:Nat)(r s:Wd)(h:iSb (c::r) s=true):c∈s:=by
 induction s with
 |nil=>exact Bool.noConfusion h
 |cons a s ih=>
  have h:((decide (c=a)&&isPre r s) || iSb (c::r) s)=true:=h
  exact(Bool.or_eq_true_iff.mp h).elim (fun h=>of_decide_eq_true ((Bool.and_eq_true _ _).mp h).1▸List.mem_cons_self ..) fun h=>List.mem_cons_of_mem _ (ih h)
inductive WOk:Wd→Prop
 |let_ (c:Nat) (r:Wd) (h:c∈LTS) (a:∀x∈c::r,x∈LF):WOk (c::r)
 |fig (c:Nat) (r:Wd) (h0:c∉LTS) (h:c∈FIGS) (a:∀x∈c::r,x∈FIGS):WOk (c::r)
 |neg (d:Nat) (r:Wd) (a:∀x∈d::r,x∈FIGS):WOk (45::d::r)
 |sign (c:Nat) (h:c∈SIGNS):WOk [c]
inductive HOk:Wd→Prop
 |mk (c:Nat) (r:Wd) (b:c∉BLANKS) (n:c≠35) (s:iSb (c::r) SIGNS=true→c∉LF):HOk (c::r)
theorem sign_no:∀c∈SIGNS,c∉LF∧c∉FIGS∧c∉LTS∧c∉BLANKS∧c≠35∧c≠45:=by
 unfold SIGNS LF FIGS LTS BLANKS;decide
theorem let_no:∀c∈LTS,c∉BLANKS∧c≠35∧c∉SIGNS:=by unfold SIGNS LTS BLANKS;decide
theorem fig_no:∀c∈FIGS,c∉BLANKS∧c≠35∧c∉SIGNS:=by unfold SIGNS FIGS BLANKS;decide
theorem figs_lf{c:Nat}(h:c∈FIGS):c∈LF:=List.mem_append_right _ h
theorem neg_no:(45:Nat)∉BLANKS∧(45:Nat)∉SIGNS∧(45:Nat)∉LTS∧(45:Nat)∉FIGS:=by unfold SIGNS FIGS LTS BLANKS;decide
theorem wOk_h{w:Wd}(h:WOk w):HOk w:=match h with
 |.let_ c r h _=>.mk c r (let_no c h).1 (let_no c h).2.1 fun hs=>absurd (isSub_head _ _ _ hs) (let_no c h).2.2
 |.fig c r _ h _=>.mk c r (fig_no c h).1 (fig_no c h).2.1 fun hs=>absurd (isSub_head _ _ _ hs) (fig_no c h).2.2
 |.neg d r _=>.mk 45 (d::r) neg_no.1 (by decide) fun hs=>absurd (isSub_head _ _ _ hs) neg_no.2.1
 |.sign c h=>.mk c [] (sign_no c h).2.2.2.1 (sign_no c h).2.2.2.2.1 fun o0=>(sign_no c h).1
theorem runLen_app(s:Wd)(w rest:List Nat)(h:∀x∈w,x∈s):rLn s (w++rest)=w.length+rLn s rest:=by
 induction w with
 |nil=>exact(Nat.zero_add _).symm
 |cons c w ih=>
  rw[List.cons_append,runLen_t ((isSub_one c s).2 (h c (List.mem_cons_self ..))),ih fun x hx=>h x (List.mem_cons_of_mem _ hx),lcn,Nat.add_right_comm]
theorem runF_of{rest:List Nat}(h:rLn LF rest=0):rLn FIGS rest=0:=by
 cases rest with
 |nil=>rfl
 |cons c r=>
  refine runLen_f (isSub_f fun hc=>?_)
  rw[runLen_t ((isSub_one c LF).2 (figs_lf hc))]at h
  exact Nat.noConfusion h
theorem wEnd_ok{c:Nat}{r rest:List Nat}(h:WOk (c::r))(hr:iSb (c::r) SIGNS=true∨rLn LF rest=0):wEnd1 c (r++rest)=some (c::r).length:=by
 have hr':c∉SIGNS→rLn LF rest=0:=fun q=>hr.elim (fun h=>absurd (isSub_head _ _ _ h) q) id
 cases h with
 |let_ _ _ h a=>rw[wEnd1_L ((isSub_one c _).2 h),←List.cons_append,runLen_app LF _ _ a,hr' (let_no c h).2.2];rfl
 |fig _ _ h0 h a=>rw[wEnd1_F (isSub_f h0) ((isSub_one c _).2 h),←List.cons_append,runLen_app FIGS _ _ a,runF_of (hr' (fig_no c h).2.2)];rfl
 |neg d r a=>
  have e:=runLen_app FIGS (d::r) rest a
  rw[runF_of (hr' neg_no.2.1),Nat.add_zero]at e
  rw[wEnd1_M (isSub_f neg_no.2.2.1) (isSub_f neg_no.2.2.2) rfl (e▸Nat.zero_lt_succ _),e];rfl
 |sign _ h=>
  have q:=sign_no c h
  rw[wEnd1_S (isSub_f q.2.2.1) (isSub_f q.2.1) fun z=>q.2.2.2.2.2 z.1,if_pos ((isSub_one c _).2 h)];rfl
structure BadC(c:Nat):Prop where
 l:c∉LTS
 f:c∉FIGS
 n:c≠45
 s:c∉SIGNS
theorem wEnd_bad{c:Nat}{rest:List Nat}(h:BadC c):wEnd1 c rest=none:=by
 rw[wEnd1_S (isSub_f h.l) (isSub_f h.f) fun z=>h.n z.1,if_neg (Bool.eq_false_iff.1 (isSub_f h.s))]
theorem skip_hOk{w t:List Nat}(h:HOk w):skN false (w++t)=0:=match h with
 |.mk c r h1 h2 _=>(skipF_f (isSub_f h1)).trans (if_neg h2)
theorem skip_lit{g:Wd}(h:g∈([[32],[],[10],[32,32],[32,35,32,98,121,32,59,10],[35,39,13],[9],[10,32],[35,32,120,10]]:List Wd))(z:List Nat):skN false (g++z)=skN false z+g.length:=by
 simp only[List.mem_cons,List.not_mem_nil,or_false]at h
 rcases h with rfl | rfl | rfl | rfl | rfl | rfl | rfl | rfl | rfl<;>rfl
theorem gap_mem{g:Wd}(hg:g∈GAPS∨g∈HEADS):g∈([[32],[],[10],[32,32],[32,35,32,98,121,32,59,10],[35,39,13],[9],[10,32],[35,32,120,10]]:List Wd):=by
 have e:∀g∈([[32],[],[10],[32,32],[32,35,32,98,121,32,59,10],[35,39,13],[9]]:List Wd)++[[],[10,32],[35,32,120,10]],g∈([[32],[],[10],[32,32],[32,35,32,98,121,32,59,10],[35,39,13],[9],[10,32],[35,32,120,10]]:List Wd):=by decide
 exact e g (List.mem_append.2 hg)
theorem skip_gap{g w t:List Nat}(hg:g∈GAPS∨g∈HEADS)(h:HOk w):skN false (g++(w++t))=g.length:=by
 rw[skip_lit (gap_mem hg),skip_hOk h,Nat.zero_add]
theorem gap_stop{g t:List Nat}(hg:g∈GAPS)(hne:g≠[]):rLn LF (g++t)=0:=by
 have key:∀g∈([[32],[],[10],[32,32],[32,35,32,98,121,32,59,10],[35,39,13],[9]]:List Wd),g≠[]→iSb [g.headD 0] LF=false:=by decide
 cases g with
 |nil=>exact absurd rfl hne
 |cons c r=>exact runLen_f (key _ hg hne)
theorem next_stop{w:Wd}{pos:Nat}{ws:List Wd}{t ps tail:List Nat}(hw:∀w∈ws.head?,HOk w)(h:SpellT (some w) pos ws t ps)(ht:rLn LF tail=0):iSb w SIGNS=true∨rLn LF (t++tail)=0:=by
 cases h with
 |nil=>exact .inr ht
 |cons _ _ w2 ws g t' ps' hg h=>
  have hg:GapOk w w2 g:=hg
  by_cases hne:g=[]
  ·refine(hg.nil hne).imp id fun h1=>?_
   cases hw w2 rfl with
   |mk c r _ _ s=>rw[hne];exact runLen_f (isSub_f (s h1))
  ·rw[asc];exact .inr (gap_stop hg.mem hne)
theorem lexT_step{k pos:Nat}{w rest:List Nat}{found:List Tk}(hw:WOk w)(hs:iSb w SIGNS=true∨rLn LF rest=0)(hf:found.length < 10000):
  lexT (k+1) pos (w++rest) found=lexT k (pos+w.length+skN false rest) (rest.drop (skN false rest)) (found++[(w,pos)]):=by
 cases w with
 |nil=>cases hw
 |cons c r=>
  rw[List.cons_append,lexT,wEnd_ok hw hs]
  dsimp only
  rw[if_pos hf,←List.cons_append,List.drop_left,List.take_left]
theorem lex_good{tail:List Nat}(h1:skN false tail=tail.length)(h2:rLn LF tail=0)(ws:List Wd):∀(w:Wd) (pos:Nat) (t ps:List Nat),(∀x∈w::ws,WOk x)→SpellT (some w) (pos+w.length) ws t ps→∀(k:Nat) (found:List Tk),ws.length+1 < k→found.length+ws.length < 10000→
  lexT k pos (w++(t++tail)) found=some (.ok (found++(w,pos)::ws.zip ps++[([],pos+w.length+t.length+tail.length)])):=by
 induction ws with
 |nil=>
  intro w pos t ps hok h k found hk hf
  cases h
  match k,hk with
  |k+2,_=>
   rw[List.nil_append,lexT_step (hok w (List.mem_cons_self ..)) (.inr h2) hf,h1,List.drop_length,lexT];rfl
  |1,hk=>exact absurd hk (Nat.lt_irrefl _)
 |cons w2 ws ih=>
  intro w pos t ps hok h k found hk hf
  rw[lcn]at hk hf
  have hn:=next_stop (tail:=tail) (fun x hx=>wOk_h (hok x (by cases hx;exact List.mem_cons_of_mem _ (List.mem_cons_self ..)))) h h2
  have hok2:∀x∈w2::ws,WOk x:=fun x hx=>hok x (List.mem_cons_of_mem _ hx)
  cases h with
  |cons _ _ _ _ g t' ps' hg h=>
   have hg:GapOk w w2 g:=hg
   match k,hk with
   |k+1,hk=>
    rw[lexT_step (hok w (List.mem_cons_self ..)) hn (by lia),asc,asc,skip_gap (.inl hg.mem) (wOk_h (hok2 w2 (List.mem_cons_self ..))),List.drop_left,
     ih w2 (pos+w.length+g.length) t' ps' hok2 h k (found++[(w,pos)]) (by lia) (by rw[lap,List.length_singleton];lia)]
    have e:pos+w.length+g.length+w2.length+t'.length+tail.length=pos+w.length+(g++(w2++t')).length+tail.length:=by rw[lap,lap];lia
    rw[e,asc found];rfl
theorem lex_badw{c:Nat}{ws2:List Wd}(hc:HOk [c])(hbad:BadC c)(ws1:List Wd):∀(w:Wd) (pos:Nat) (t ps:List Nat),(∀x∈w::ws1,WOk x)→SpellT (some w) (pos+w.length) (ws1++[c]::ws2) t ps→∀(k:Nat) (found:List Tk),ws1.length+1 < k→found.length+ws1.length < 10000→
  ∃e,ps[ws1.length]?=some e∧lexT k pos (w++t) found=some (.error e):=by
 induction ws1 with
 |nil=>
  intro w pos t ps hok h k found hk hf
  have hn:=next_stop (tail:=[]) (fun x hx=>by cases hx;exact hc) h rfl
  rw[apn]at hn
  cases h with
  |cons _ _ _ _ g t' ps' hg h=>
   have hg:GapOk w [c] g:=hg
   match k,hk with
   |k+2,_=>
    refine⟨_,rfl,?_⟩
    rw[lexT_step (hok w (List.mem_cons_self ..)) hn hf,skip_gap (.inl hg.mem) hc,List.drop_left,List.cons_append,lexT,wEnd_bad hbad]
   |1,hk=>exact absurd hk (Nat.lt_irrefl _)
 |cons w2 ws1 ih=>
  intro w pos t ps hok h k found hk hf
  rw[lcn]at hk hf
  have hok2:∀x∈w2::ws1,WOk x:=fun x hx=>hok x (List.mem_cons_of_mem _ hx)
  have hn:=next_stop (tail:=[]) (fun x hx=>by cases hx;exact wOk_h (hok2 w2 (List.mem_cons_self ..))) h rfl
  rw[apn]at hn
  cases h with
  |cons _ _ _ _ g t' ps' hg h=>
   have hg:GapOk w w2 g:=hg
   match k,hk with
   |k+1,hk=>
    rw[lexT_step (hok w (List.mem_cons_self ..)) hn (by lia),skip_gap (.inl hg.mem) (wOk_h (hok2 w2 (List.mem_cons_self ..))),List.drop_left]
    exact ih w2 (pos+w.length+g.length) t' ps' hok2 h k (found++[(w,pos)]) (by lia) (by rw[lap,List.length_singleton];lia)
theorem spellT_len{prev:Option Wd}{pos:Nat}{ws:List Wd}{t ps:List Nat}(h:SpellT prev pos ws t ps):ps.length=ws.length:=by
 induction h with
 |nil=>rfl
 |cons _ _ _ _ _ _ _ _ _ ih=>exact congrArg (· +1) ih
theorem spelled_len{ws:List Wd}{text:Wd}{ps:List Nat}(h:Spelled ws text ps):ps.length=ws.length:=
 let ⟨_,_,_,_,hs⟩:=h.ex
 spellT_len hs
theorem lex_spelled{ws:List Wd}{text:Wd}{ps:List Nat}(hne:ws≠[])(h:Spelled ws text ps)(hok:∀x∈ws,WOk x){tail:List Nat}(h1:skN false tail=tail.length)(h2:rLn LF tail=0)(hl:ws.length≤4000):
  lex 5000 (text++tail)=some (.ok (ws.zip ps++[([],(text++tail).length)])):=by
 obtain⟨hd,hhd,t,rfl,hs⟩:=h.ex
 cases hs with
 |nil=>exact absurd rfl hne
 |cons _ _ w ws g t' ps' hg hs=>
  cases (hg:g=[])
  rw[lcn]at hl
  unfold lex
  rw[List.nil_append,asc,asc,skip_gap (.inr hhd) (wOk_h (hok w (List.mem_cons_self ..))),List.drop_left,
   lex_good h1 h2 ws w hd.length t' ps' hok hs 5000 [] (by lia) (by rw[List.length_nil];lia)]
  have e:hd.length+w.length+t'.length+tail.length=(hd++(w++(t'++tail))).length:=by rw[lap,lap,lap];lia
  rw[e];rfl
theorem lex_bad{ws1:List Wd}{c:Nat}{ws2:List Wd}{text:Wd}{ps:List Nat}(h:Spelled (ws1++[c]::ws2) text ps)(hok:∀x∈ws1,WOk x)(hc:HOk [c])(hbad:BadC c)(hl:ws1.length≤4000):
  ∃e,ps[ws1.length]?=some e∧lex 5000 text=some (.error e):=by
 obtain⟨hd,hhd,t,rfl,hs⟩:=h.ex
 cases ws1 with
 |nil=>
  cases hs with
  |cons _ _ _ _ g t' ps' hg hs=>
   cases (hg:g=[])
   refine⟨_,rfl,?_⟩
   unfold lex
   rw[List.nil_append,skip_gap (.inr hhd) hc,List.drop_left,List.cons_append,lexT,wEnd_bad hbad];rfl
 |cons w ws1=>
  cases hs with
  |cons _ _ _ _ g t' ps' hg hs=>
   cases (hg:g=[])
   rw[lcn]at hl
   unfold lex
   rw[List.nil_append,skip_gap (.inr hhd) (wOk_h (hok w (List.mem_cons_self ..))),List.drop_left]
   exact lex_badw hc hbad ws1 w hd.length t' ps' hok hs 5000 [] (by lia) (by rw[List.length_nil];lia)
noncomputable def blanked(ws:List Wd):Wd:=ws.flatMap ([32]++ ·)
theorem strs_map:∀ws:List Wd,strsOf (ws.map .str)=some ws
 |[]=>rfl
 |w::ws=>by
  show(strsOf (ws.map .str)).map (w:: ·)=_
  rw[strs_map ws];rfl
theorem join_str(w:Wd)(ws:List Wd):joinV [32] ((w::ws).map .str)=some (w++blanked ws):=by
 unfold joinV
 rw[strs_map];rfl
theorem join_spell(ws:List Wd):∀(w:Wd) (pos:Nat),∃ps,SpellT (some w) pos ws (blanked ws) ps:=by
 induction ws with
 |nil=>exact fun w pos=>⟨[],.nil _ _⟩
 |cons w2 ws ih=>
  intro w pos
  obtain⟨ps,h⟩:=ih w2 (pos+1+w2.length)
  exact⟨_,.cons (some w) pos w2 ws [32] (blanked ws) ps ⟨.head _,fun q=>nomatch q⟩ h⟩
theorem blanked_len(ws:List Wd):(blanked ws).length=(ws.map fun x=>x.length+1).sum:=by
 induction ws with
 |nil=>rfl
 |cons w ws ih=>
  show(32::w++blanked ws).length=w.length+1+(ws.map fun x=>x.length+1).sum
  rw[lap,ih];rfl
theorem join_spelled(w:Wd)(ws:List Wd):∃ps,Spelled (w::ws) (w++blanked ws) ps:=by
 obtain⟨ps,h⟩:=join_spell ws w (0+0+w.length)
 exact⟨_,⟨[],.head _,_,rfl,.cons none 0 w ws [] (blanked ws) ps rfl h⟩⟩
end
section
noncomputable def isUse(s:Wd):Bool:=List.casesOn s false fun c o0=>Nat.beq c 117
noncomputable def refs(s:Wd):Bool:=List.casesOn s false fun c o0=>Nat.beq c 117 || Nat.beq c 111
noncomputable def tkn(o:Nat→Nat)(P:List Pair):Nat→List Tk:=List.rec (fun o0=>[]) (fun p o0 ih i=>(p.1,o i)::ih (i+1)) P
noncomputable def adv(o:Nat→Nat)(P:List Pair):Nat→List Tk→List Tk:=List.rec (fun o0 d=>d) (fun p o0 ih i d=>ih (i+1) ((p.1,o i)::d)) P
noncomputable def nx(P:List Pair):Nat→Nat:=List.rec (fun i=>i) (fun o0 o0 ih i=>ih (i+1)) P
noncomputable def uT(o:Nat→Nat)(P:List Pair):Nat→List Tk:=List.rec (fun o0=>[]) (fun p o0 ih i=>Bool.rec (ih (i+1)) ((p.1,o i)::ih (i+1)) (isUse p.2)) P
section
variable(o:Nat→Nat)(P Q:List Pair)
theorem tkn_app:∀i,tkn o (P++Q) i=tkn o P i++tkn o Q (nx P i):=by
 induction P with
 |nil=>exact fun i=>rfl
 |cons p P ih=>exact fun i=>congrArg ((p.1,o i):: ·) (ih (i+1))
theorem adv_app:∀i d,adv o (P++Q) i d=adv o Q (nx P i) (adv o P i d):=by
 induction P with
 |nil=>exact fun i d=>rfl
 |cons p P ih=>exact fun i d=>ih (i+1) _
theorem nx_app:∀i,nx (P++Q) i=nx Q (nx P i):=by
 induction P with
 |nil=>exact fun i=>rfl
 |cons p P ih=>exact fun i=>ih (i+1)
theorem nx_len:∀i,nx P i=i+P.length:=by
 induction P with
 |nil=>exact fun i=>rfl
 |cons p P ih=>exact fun i=>(ih (i+1)).trans (by rw[lcn];lia)
theorem tkn_len:∀i,(tkn o P i).length=P.length:=by
 induction P with
 |nil=>exact fun i=>rfl
 |cons p P ih=>exact fun i=>congrArg (· +1) (ih (i+1))
theorem usesT_app:∀i,uT o (P++Q) i=uT o P i++uT o Q (nx P i):=by
 induction P with
 |nil=>exact fun i=>rfl
 |cons p P ih=>
  intro i
  show Bool.rec (uT o (P++Q) (i+1)) ((p.1,o i)::uT o (P++Q) (i+1)) (isUse p.2)=Bool.rec (uT o P (i+1)) ((p.1,o i)::uT o P (i+1)) (isUse p.2)++uT o Q (nx P (i+1))
  rw[ih]
  cases isUse p.2<;>rfl
theorem usesT_le:∀i,(uT o P i).length≤P.length:=by
 induction P with
 |nil=>exact fun i=>Nat.le_refl _
 |cons p P ih=>
  intro i
  show(Bool.rec (uT o P (i+1)) ((p.1,o i)::uT o P (i+1)) (isUse p.2):List Tk).length≤P.length+1
  cases isUse p.2
  ·exact Nat.le_succ_of_le (ih _)
  ·exact Nat.succ_le_succ (ih _)
end
noncomputable def BARS:List Wd:=[FLAG,SUB,POS,FEATURE,SCRIPT,LANGUAGE]
noncomputable def isNm(s:Wd):Bool:=memW s [sN,sOwn,sUse]
inductive Ok2:Wd→Wd→Prop
 |nil (s:Wd):Ok2 [] s
 |bar (w s:Wd) (h:w∈BARS) (hs:isNm s=true):Ok2 w s
theorem Ok2.no{w s:Wd}(h:Ok2 w s)(hs:isNm s=false):w=[]:=match h with
 |.nil _=>rfl
 |.bar _ _ _ h=>Bool.noConfusion (hs.symm.trans h)
theorem Ok2.bd{w s:Wd}(h:Ok2 w s):w∈[]::BARS:=match h with
 |.nil _=>List.mem_cons_self ..
 |.bar _ _ h _=>List.mem_cons_of_mem _ h
structure Bd(w:Wd):Prop where
 name:iNm w=false
 num:numOf w=some none
 n39:w≠[39]
 n91:w≠[91]
 n93:w≠[93]
 n59:w≠[59]
 n60:w≠[60]
 n62:w≠[62]
 n125:w≠[125]
 nF:w≠FROM
 nB:w≠BY
 nN:w≠NULL
 nL:w≠LKP
theorem bd_name:∀w∈[]::BARS,iNm w=false:=by decide+kernel
theorem bd_num:∀w∈[]::BARS,numOf w=some none:=by decide+kernel
theorem bd_n39:∀w∈[]::BARS,w≠[39]:=by decide+kernel
theorem bd_n91:∀w∈[]::BARS,w≠[91]:=by decide+kernel
theorem bd_n93:∀w∈[]::BARS,w≠[93]:=by decide+kernel
theorem bd_n59:∀w∈[]::BARS,w≠[59]:=by decide+kernel
theorem bd_n60:∀w∈[]::BARS,w≠[60]:=by decide+kernel
theorem bd_n62:∀w∈[]::BARS,w≠[62]:=by decide+kernel
theorem bd_n125:∀w∈[]::BARS,w≠[125]:=by decide+kernel
theorem bd_nF:∀w∈[]::BARS,w≠FROM:=by decide+kernel
theorem bd_nB:∀w∈[]::BARS,w≠BY:=by decide+kernel
theorem bd_nN:∀w∈[]::BARS,w≠NULL:=by decide+kernel
theorem bd_nL:∀w∈[]::BARS,w≠LKP:=by decide+kernel
theorem bd_of(w:Wd)(h:w∈[]::BARS):Bd w:=⟨bd_name w h,bd_num w h,bd_n39 w h,bd_n91 w h,bd_n93 w h,bd_n59 w h,bd_n60 w h,bd_n62 w h,bd_n125 w h,bd_nF w h,bd_nB w h,bd_nN w h,bd_nL w h⟩
theorem bd_nil:Bd []:=bd_of [] (.head _)
theorem Ok2.bd'{w s:Wd}(h:Ok2 w s):Bd w:=bd_of w h.bd
noncomputable def wokB(w:Wd):Bool:=List.casesOn w false fun c r=>(iSb [c] LTS&&(c::r).all fun x=>iSb [x] LF) || ((iSb [c] FIGS&&(c::r).all fun x=>iSb [x] FIGS) || ((Nat.beq c 45&&(!r.isEmpty&&r.all fun x=>iSb [x] FIGS)) || (r.isEmpty&&iSb [c] SIGNS)))
noncomputable def chk(w:Wd):Bool:=wokB w&&Nat.ble w.length 20
theorem all_sub{s l:Wd}(h:(l.all fun x=>iSb [x] s)=true):∀x∈l,x∈s:=fun x hx=>(isSub_one x s).1 (List.all_eq_true.1 h x hx)
theorem wok_of{w:Wd}(h:wokB w=true):WOk w:=by
 cases w with
 |nil=>cases h
 |cons c r=>
  refine(Bool.or_eq_true_iff.1 h).elim (fun h=>.let_ c r ((isSub_one c _).1 (Bool.and_eq_true_iff.1 h).1) (all_sub (Bool.and_eq_true_iff.1 h).2)) fun h=>?_
  refine(Classical.em (c∈LTS)).elim (fun hl=>?_) fun hn=>?_
  ·refine .let_ c r hl ?_
   refine(Bool.or_eq_true_iff.1 h).elim (fun h x hx=>figs_lf (all_sub (Bool.and_eq_true_iff.1 h).2 x hx)) fun h=>?_
   refine(Bool.or_eq_true_iff.1 h).elim (fun h=>?_) fun h=>?_
   ·cases Nat.eq_of_beq_eq_true (Bool.and_eq_true_iff.1 h).1
    exact absurd hl neg_no.2.2.1
   ·exact absurd hl (sign_no c ((isSub_one c _).1 (Bool.and_eq_true_iff.1 h).2)).2.2.1
  ·refine(Bool.or_eq_true_iff.1 h).elim (fun h=>.fig c r hn ((isSub_one c _).1 (Bool.and_eq_true_iff.1 h).1) (all_sub (Bool.and_eq_true_iff.1 h).2)) fun h=>?_
   refine(Bool.or_eq_true_iff.1 h).elim (fun h=>?_) fun h=>?_
   ·have h1:=Bool.and_eq_true_iff.1 h
    have h2:=Bool.and_eq_true_iff.1 h1.2
    cases Nat.eq_of_beq_eq_true h1.1
    cases r with
    |nil=>exact Bool.noConfusion h2.1
    |cons x r=>exact .neg x r (all_sub h2.2)
   ·have h1:=Bool.and_eq_true_iff.1 h
    cases r with
    |nil=>exact .sign c ((isSub_one c _).1 h1.2)
    |cons x r=>exact Bool.noConfusion h1.1
end
section
structure Vp(U:Wd→Prop)(p:Pair):Prop where
 chk:chk p.1=true
 ref:refs p.2=true→U p.1
theorem Vp.lit{U:Wd→Prop}{w s:Wd}(h:Mine.chk w=true)(hs:refs s=false):Vp U (w,s):=⟨h,fun q=>Bool.noConfusion (hs.symm.trans q)⟩
structure Gl(g:Wd):Prop where
 name:iNm g=true
 mem:memW g GLYPHS=true
 chk:chk g=true
structure NmP(U:Wd→Prop)(u:Wd):Prop where
 name:iNm u=true
 chk:chk u=true
 u:U u
theorem name_ne{g k:Wd}(h:iNm g=true)(hk:iNm k=false):g≠k:=fun e=>Bool.noConfusion (h.symm.trans (e▸hk))
theorem Gl.v{g:Wd}(h:Gl g)(U:Wd→Prop):Vp U (g,sN):=.lit h.chk rfl
inductive Ch{β:Type}(U:Wd→Prop)(o:Nat→Nat):Nat→List Tk→Ps β→List Pair→Ps β→Prop
 |nil (i:Nat) (d:List Tk) (q:Ps β):Ch U o i d q [] q
 |cons (i:Nat) (d:List Tk) (q q1 q':Ps β) (w s:Wd) (P:List Pair) (v:Vp U (w,s)) (ok:∀r,q (d,(w,o i)::r)=q1 ((w,o i)::d,r)) (bad:∀w' x r,Ok2 w' s→q (d,(w',x)::r)=some (.error x))
   (h:Ch U o (i+1) ((w,o i)::d) q1 P q'):Ch U o i d q ((w,s)::P) q'
section
variable{α β:Type}{U:Wd→Prop}{o:Nat→Nat}{i:Nat}{d:List Tk}{q q2 q':Ps β}{P:List Pair}
theorem Ch.ok(h:Ch U o i d q P q'):∀r,q (d,tkn o P i++r)=q' (adv o P i d,r):=by
 induction h with
 |nil=>exact fun r=>rfl
 |cons i d q q1 q' w s P v ok bad h ih=>exact fun r=>(ok _).trans (ih r)
theorem Ch.v(h:Ch U o i d q P q'):∀p∈P,Vp U p:=by
 induction h with
 |nil=>exact fun p h=>nomatch h
 |cons i d q q1 q' w s P v ok bad h ih=>exact List.forall_mem_cons.2 ⟨v,ih⟩
theorem Ch.bad(h:Ch U o i d q P q'):∀(A:List Pair) (p:Pair) (B:List Pair),P=A++p::B→∀w x r,Ok2 w p.2→q (d,tkn o A i++(w,x)::r)=some (.error x):=by
 induction h with
 |nil=>exact fun A p B e=>by cases A<;>cases e
 |cons i d q q1 q' w s P v ok bad h ih=>
  intro A p B e
  cases A with
  |nil=>cases e;exact bad
  |cons a A=>cases e;exact fun w x r hw=>(ok _).trans (ih A p B rfl w x r hw)
theorem Ch.app{q1:Ps β}{Q:List Pair}(h:Ch U o i d q P q1):Ch U o (nx P i) (adv o P i d) q1 Q q'→Ch U o i d q (P++Q) q':=by
 induction h with
 |nil=>exact id
 |cons i d q q1 q' w s P v ok bad h ih=>exact fun h2=>.cons _ _ _ q1 _ w s _ v ok bad (ih h2)
theorem Ch.via{w s:Wd}(h:Ch U o i d q2 ((w,s)::P) q')(ok:∀r,q (d,(w,o i)::r)=q2 (d,(w,o i)::r))(bad:∀w' x r,Ok2 w' s→q (d,(w',x)::r)=some (.error x)):Ch U o i d q ((w,s)::P) q':=by
 cases h with
 |cons _ _ _ q1 _ _ _ _ v ok2 bad2 h=>exact .cons _ _ _ q1 _ _ _ _ v (fun r=>(ok r).trans (ok2 r)) bad h
theorem Ch.look{p:Pair}{F:Wd→Prop}(hp:F p.1)(hb:∀w,Ok2 w p.2→F w)(hq:∀w x r,F w→q (d,(w,x)::r)=q2 (d,(w,x)::r))(h:Ch U o i d q2 (p::P) q'):Ch U o i d q (p::P) q':=by
 cases h with
 |cons _ _ _ q1 _ w s _ v ok2 bad2 h=>exact .cons _ _ _ q1 _ _ _ _ v (fun r=>(hq _ _ _ hp).trans (ok2 r)) (fun w' x r hw=>(hq _ _ _ (hb _ hw)).trans (bad2 w' x r hw)) h
theorem Ch.same{p:Pair}(hq:∀w x r,q (d,(w,x)::r)=q2 (d,(w,x)::r))(h:Ch U o i d q2 (p::P) q'):Ch U o i d q (p::P) q':=Ch.look (F:=fun o0=>True) trivial (fun o0 o0=>trivial) (fun w x r o0=>hq w x r) h
theorem Ch.lit{w:Wd}{q1:Ps β}(hw:chk w=true)(ok:∀r,q (d,(w,o i)::r)=q1 ((w,o i)::d,r))(bad:∀x r,q (d,([],x)::r)=some (.error x))(h:Ch U o (i+1) ((w,o i)::d) q1 P q'):Ch U o i d q ((w,[])::P) q':=
 .cons _ _ _ q1 _ _ _ _ (.lit hw rfl) ok (fun w' x r h=>by cases h.no rfl;exact bad x r) h
section
variable{γ:Type}
theorem skip_t(k:Wd)(f:Bool→Ps γ)(d r:List Tk)(x:Nat):bP (pSkip k (d,(k,x)::r)) f=f true ((k,x)::d,r):=by unfold pSkip onT;dsimp only;rw[if_pos rfl];rfl
theorem skip_f{k w:Wd}(h:w≠k)(f:Bool→Ps γ)(d r:List Tk)(x:Nat):bP (pSkip k (d,(w,x)::r)) f=f false (d,(w,x)::r):=by unfold pSkip onT;dsimp only;rw[if_neg h];rfl
theorem need_t(k:Wd)(f:Unit→Ps γ)(d r:List Tk)(x:Nat):bP (pNeed k (d,(k,x)::r)) f=f () ((k,x)::d,r):=by unfold pNeed onT tokIf;dsimp only;rw[if_pos rfl];rfl
theorem need_f{k w:Wd}(h:w≠k)(f:Unit→Ps γ)(d r:List Tk)(x:Nat):bP (pNeed k (d,(w,x)::r)) f=some (.error x):=by unfold pNeed onT tokIf;dsimp only;rw[if_neg h];rfl
theorem glyph_t{g:Wd}(h:Gl g)(f:Wd→Ps γ)(d r:List Tk)(x:Nat):bP (pGlyph (d,(g,x)::r)) f=f g ((g,x)::d,r):=by unfold pGlyph onT tokIf;dsimp only;rw[if_pos ⟨h.name,h.mem⟩];rfl
theorem glyph_f{w:Wd}(h:iNm w=false)(f:Wd→Ps γ)(d r:List Tk)(x:Nat):bP (pGlyph (d,(w,x)::r)) f=some (.error x):=by unfold pGlyph onT tokIf;dsimp only;rw[if_neg fun q=>Bool.noConfusion (h.symm.trans q.1)];rfl
theorem num_t{lo hi i:Int}{w:Wd}(h:numOf w=some (some i))(h2:lo≤i∧i≤hi)(f:Int→Ps γ)(d r:List Tk)(x:Nat):bP (pNum lo hi (d,(w,x)::r)) f=f i ((w,x)::d,r):=by unfold pNum onT tokIf;dsimp only;rw[h];dsimp only;rw[if_pos h2];rfl
theorem num_f{lo hi:Int}{w:Wd}(h:numOf w=some none)(f:Int→Ps γ)(d r:List Tk)(x:Nat):bP (pNum lo hi (d,(w,x)::r)) f=some (.error x):=by unfold pNum onT;dsimp only;rw[h];rfl
end
theorem Ch.need{w:Wd}{f:Unit→Ps β}(hw:chk w=true)(h0:[]≠w)(h:Ch U o (i+1) ((w,o i)::d) (f ()) P q'):Ch U o i d (fun z=>bP (pNeed w z) f) ((w,[])::P) q':=
 .lit hw (fun r=>need_t ..) (fun x r=>need_f h0 ..) h
theorem Ch.skip{k:Wd}{f:Bool→Ps β}{p:Pair}(hp:p.1≠k)(hb:∀w,Ok2 w p.2→w≠k)(h:Ch U o i d (f false) (p::P) q'):Ch U o i d (fun z=>bP (pSkip k z) f) (p::P) q':=
 .look hp hb (fun w x r hw=>skip_f hw ..) h
theorem Ch.skipT{k:Wd}{f:Bool→Ps β}(hw:chk k=true)(h0:[]≠k)(hf:∀x r,f false (d,([],x)::r)=some (.error x))(h:Ch U o (i+1) ((k,o i)::d) (f true) P q'):Ch U o i d (fun z=>bP (pSkip k z) f) ((k,[])::P) q':=
 .lit hw (fun r=>skip_t ..) (fun x r=>(skip_f h0 ..).trans (hf x r)) h
theorem Ch.glyph{g:Wd}{f:Wd→Ps β}(hg:Gl g)(h:Ch U o (i+1) ((g,o i)::d) (f g) P q'):Ch U o i d (fun z=>bP (pGlyph z) f) ((g,sN)::P) q':=
 .cons _ _ _ (f g) _ _ _ _ (hg.v U) (fun r=>glyph_t hg ..) (fun w x r hw=>glyph_f hw.bd'.name ..) h
theorem Ch.num{w:Wd}{lo hi n:Int}{f:Int→Ps β}(hw:chk w=true)(hn:numOf w=some (some n))(h2:lo≤n∧n≤hi)(h:Ch U o (i+1) ((w,o i)::d) (f n) P q'):Ch U o i d (fun z=>bP (pNum lo hi z) f) ((w,[])::P) q':=
 .lit hw (fun r=>num_t hn h2 ..) (fun x r=>num_f rfl ..) h
theorem Ch.assoc{p:Ps α}{γ:Type}{f:α→Ps γ}{g:γ→Ps β}{pr:Pair}(h:Ch U o i d (fun z=>bP (p z) fun a z=>bP (f a z) g) (pr::P) q'):Ch U o i d (fun z=>bP (bP (p z) f) g) (pr::P) q':=
 .same (fun w x r=>bPa ..) h
variable{KI:Item→Ps β}{p:Pair}
theorem item_eq{g:Wd}(hg:Gl g)(r:List Tk)(x:Nat):bP (pItem (d,(g,x)::r)) KI=bP (pItemT [g] ((g,x)::d,r)) KI:=by
 unfold pItem
 rw[skip_f (name_ne hg.name rfl)]
 show bP (bP (pGlyph (d,(g,x)::r)) fun g z=>pItemT [g] z) KI=_
 rw[glyph_t hg]
theorem item_bad{w:Wd}(hw:Bd w)(r:List Tk)(x:Nat):bP (pItem (d,(w,x)::r)) KI=some (.error x):=by
 unfold pItem
 rw[skip_f hw.n91]
 show bP (bP (pGlyph (d,(w,x)::r)) fun g z=>pItemT [g] z) KI=_
 rw[glyph_f hw.name];rfl
theorem Ch.itemT{gs:List Wd}(hp:p.1≠[39])(h:Ch U o i d (KI (gs,false,[])) (p::P) q'):Ch U o i d (fun z=>bP (pItemT gs z) KI) (p::P) q':=
 .look hp (fun w h=>h.bd'.n39) (fun w x r hw=>by unfold pItemT;rw[skip_f hw];rfl) h
theorem Ch.item{g:Wd}(hg:Gl g)(hp:p.1≠[39])(h:Ch U o (i+1) ((g,o i)::d) (KI ([g],false,[])) (p::P) q'):Ch U o i d (fun z=>bP (pItem z) KI) ((g,sN)::p::P) q':=
 .cons _ _ _ (fun z=>bP (pItemT [g] z) KI) _ _ _ _ (hg.v U) (fun r=>item_eq hg ..) (fun w x r hw=>item_bad hw.bd' ..) (.itemT hp h)
theorem Ch.itemM{g:Wd}(hg:Gl g)(hK:∀x r,KI ([g],false,[]) ((g,o i)::d,([],x)::r)=some (.error x))(h:Ch U o (i+1+1) (([39],o (i+1))::(g,o i)::d) (fun z=>bP (luLoop 40 [] z) fun ls=>KI ([g],true,ls)) P q'):Ch U o i d (fun z=>bP (pItem z) KI) ((g,sN)::([39],[])::P) q':=
 .cons _ _ _ (fun z=>bP (pItemT [g] z) KI) _ _ _ _ (hg.v U) (fun r=>item_eq hg ..) (fun w x r hw=>item_bad hw.bd' ..) <|
 .lit rfl (fun r=>by unfold pItemT;rw[skip_t];exact bPa ..) (fun x r=>by unfold pItemT;rw[skip_f (by decide)];exact hK ..) h
theorem Ch.uses{KL:List Tk→Ps β}(hp:p.1≠LKP)(hK:∀l:List Tk,l.length≤2→∀d x r,KL l (d,([],x)::r)=some (.error x))(us:List Wd):∀(n i:Nat) (d found:List Tk),us.length≤n→found.length+us.length≤2→(∀u∈us,NmP U u)→
  Ch U o (nx (uPs us) i) (adv o (uPs us) i d) (KL (found++uT o (uPs us) i)) (p::P) q'→Ch U o i d (fun z=>bP (luLoop (n+1) found z) KL) (uPs us++p::P) q':=by
 induction us with
 |nil=>
  intro n i d found _ _ _ h
  rw[show found++uT o (uPs []) i=found from apn _]at h
  exact .look hp (fun w h=>h.bd'.nL) (fun w x r hw=>by
   show bP (bP (pSkip LKP (d,(w,x)::r)) _) KL=_
   rw[skip_f hw];rfl) h
 |cons u us ih=>
  intro n i d found hn hf hu h
  cases n with
  |zero=>cases hn
  |succ n=>
  have hu1:=hu u (List.mem_cons_self ..)
  have hf1:found.length < 1000:=by rw[lcn]at hf;lia
  have h:Ch U o (nx (uPs us) (i+1+1)) (adv o (uPs us) (i+1+1) ((u,o (i+1))::(LKP,o i)::d)) (KL (found++(u,o (i+1))::uT o (uPs us) (i+1+1))) (p::P) q':=h
  rw[List.append_cons]at h
  refine .lit rfl (q1:=fun z=>bP (pTok z) fun t z=>bP (pName z) fun o0 z=>bP (luLoop (n+1) (found++[t]) z) KL) (fun r=>?_) (fun x r=>?_) <|
   .cons _ _ _ (fun z=>bP (luLoop (n+1) (found++[(u,o (i+1))]) z) KL) _ _ _ _ ⟨hu1.chk,fun o0=>hu1.u⟩ (fun r=>?_) (fun w x r hw=>?_) <|
   ih n _ _ _ (Nat.le_of_succ_le_succ hn) (by rw[lap,List.length_singleton];rw[lcn]at hf;lia) (fun v hv=>hu v (List.mem_cons_of_mem _ hv)) h
  ·unfold luLoop
   rw[show∀f:Bool→Ps (List Tk),bP (pSkip [108,111,111,107,117,112] (d,(LKP,o i)::r)) f=f true ((LKP,o i)::d,r)from fun f=>skip_t LKP f ..]
   rw[if_pos rfl,bPa]
   refine congrArg _ (funext fun t=>funext fun z=>?_)
   rw[if_pos hf1,bPa];rfl
  ·unfold luLoop
   rw[skip_f (by decide)]
   exact hK found (by lia) ..
  ·show bP (pName _) _=_
   unfold pName onT tokIf;dsimp only;rw[if_pos hu1.name];rfl
  ·show bP (pName _) _=_
   unfold pName onT tokIf;dsimp only;rw[if_neg fun q=>Bool.noConfusion (hw.bd'.name.symm.trans q)];rfl
theorem Ch.gs{KG:List Wd→Ps β}{g:Wd}{n:Nat}{found:List Wd}(hg:Gl g)(hm:memW g found=false)(hb:∀w,Bd w→memW w found=false)(hf:found.length < 1000)(h:Ch U o (i+1) ((g,o i)::d) (fun z=>bP (gsLoop n (found++[g]) z) KG) P q'):
  Ch U o i d (fun z=>bP (gsLoop (n+1) found z) KG) ((g,sN)::P) q':=by
 have e:∀w x r,w≠[93]→memW w found=false→bP (gsLoop (n+1) found (d,(w,x)::r)) KG=bP (pGlyph (d,(w,x)::r)) fun g z=>bP (gsLoop n (found++[g]) z) KG:=by
  intro w x r h1 h2
  show bP (bP (pSkip [93] (d,(w,x)::r)) _) KG=_
  rw[skip_f h1]
  show bP (if memW w found=true then pFault (d,(w,x)::r)else bP (pGlyph (d,(w,x)::r)) fun g z=>if found.length < 1000 then gsLoop n (found++[g]) z else none) KG=_
  rw[h2,if_neg Bool.false_ne_true,bPa]
  exact congrArg _ (funext fun g=>funext fun z=>by rw[if_pos hf])
 exact .cons _ _ _ (fun z=>bP (gsLoop n (found++[g]) z) KG) _ _ _ _ (hg.v U) (fun r=>(e _ _ _ (name_ne hg.name rfl) hm).trans (glyph_t hg ..)) (fun w x r hw=>(e _ _ _ hw.bd'.n93 (hb _ hw.bd')).trans (glyph_f hw.bd'.name ..)) h
theorem Ch.gsEnd{KG:List Wd→Ps β}{n:Nat}{found:List Wd}(hb:memW [] found=false)(h:Ch U o (i+1) (([93],o i)::d) (KG found) P q'):
  Ch U o i d (fun z=>bP (gsLoop (n+1) found z) KG) (([93],[])::P) q':=by
 refine .lit rfl (fun r=>?_) (fun x r=>?_) h
 ·unfold gsLoop;rw[skip_t];rfl
 ·unfold gsLoop
  rw[skip_f (by decide)]
  show bP (if memW [] found=true then pFault (d,([],x)::r)else bP (pGlyph (d,([],x)::r)) fun g z=>if found.length < 1000 then gsLoop n (found++[g]) z else none) KG=_
  rw[hb,if_neg Bool.false_ne_true,glyph_f rfl];rfl
theorem Ch.set2{KG:List Wd→Ps β}{g h:Wd}(hg:Gl g)(hh:Gl h)(hn:memW h [g]=false)(H:Ch U o (i+1+1+1) (([93],o (i+1+1))::(h,o (i+1))::(g,o i)::d) (KG [g,h]) (p::P) q'):
  Ch U o i d (fun z=>bP (pGlyphSet z) KG) ((g,sN)::(h,sN)::([93],[])::p::P) q':=by
 have no:∀{w k:Wd},iNm w=false→iNm k=true→decide (k=w)=false:=fun h1 h2=>decide_eq_false (name_ne h2 h1)
 refine .assoc (p:=gsLoop 40 [])<| .gs hg rfl (fun o0 o0=>rfl) (bTl rfl)<| .gs hh hn (fun w hw=>?_) (bTl rfl)<| .gsEnd ?_ H
 ·show(decide (g=w) || false)=false
  rw[no hw.name hg.name];rfl
 ·show(decide (g=[]) || (decide (h=[]) || false))=false
  rw[no rfl hg.name,no rfl hh.name];rfl
structure Stop(w:Wd):Prop where
 name:iNm w=false
 n39:w≠[39]
 n91:w≠[91]
theorem Bd.stop{w:Wd}(h:Bd w):Stop w:=⟨h.name,h.n39,h.n91⟩
variable{KS:List Item→Ps β}{pre:List Item}{it:Item}{over:Bool}{n:Nat}
theorem items_stop{w:Wd}(h:Stop w)(x:Nat)(r:List Tk):bP (itL (n+1) pre it over (d,(w,x)::r)) KS=KS (pre++[it]) (d,(w,x)::r):=by
 unfold itL
 show bP (if(decide (w=[91]) || iNm w)=true then _ else okP (pre++[it]) (d,(w,x)::r)) KS=_
 rw[h.name,decide_eq_false h.n91,if_neg (show¬(false || false)=true from Bool.false_ne_true)];rfl
theorem Ch.itemsEnd(hp:Stop p.1)(h:Ch U o i d (KS (pre++[it])) (p::P) q'):Ch U o i d (fun z=>bP (itL (n+1) pre it over z) KS) (p::P) q':=
 .look hp (fun w h=>h.bd'.stop) (fun w x r hw=>items_stop hw ..) h
theorem items_go{w:Wd}(hw:(decide (w=[91]) || iNm w)=true)(hl:pre.length < 900)(x:Nat)(r:List Tk):bP (itL (n+1) pre it over (d,(w,x)::r)) KS=bP (pItem (d,(w,x)::r)) fun it2 z=>
  bP (if((over || (it.2.1&&!it2.2.1))&&it2.2.1)=true then pFault (d,[(w,x)])else itL n (pre++[it]) it2 (over || (it.2.1&&!it2.2.1)) z) KS:=by
 show bP (if(decide (w=[91]) || iNm w)=true then(if pre.length < 900 then bP (pItem (d,(w,x)::r)) fun it2 z'=>if((over || (it.2.1&&!it2.2.1))&&it2.2.1)=true then pFault (d,[(w,x)])else itL n (pre++[it]) it2 (over || (it.2.1&&!it2.2.1)) z' else none)else okP (pre++[it]) (d,(w,x)::r)) KS=_
 rw[hw,if_pos rfl,if_pos hl,bPa]
end
end
section
theorem refuse_ok(l d0 r:List Tk)(h:∀t∈l,t.1≠[91]):pRefuse d0.length (l++d0,r)=some (.ok ((),(l++d0,r))):=by
 have h1:(l++d0).reverse.drop d0.length=l.reverse:=by
  rw[List.reverse_append,←List.length_reverse (as:=d0)];exact List.drop_left
 have h2:l.reverse.find? (fun t=>decide (t.1=[91]))=none:=List.find?_eq_none.2 fun t ht q=>h t (List.mem_reverse.1 ht) (of_decide_eq_true q)
 unfold pRefuse
 dsimp only
 rw[h1,h2];rfl
noncomputable def pAfter(kw:Wd)(items:List Item):Ps (Row×List Tk):=fun z=>if kw=SUB then bP (pSub items z) fun row z=>bP (pNeed [59] z) fun o0 z=>okP (row,[]) z else bP (pPos items z) fun row z=>bP (pNeed [59] z) fun o0 z=>okP (row,[]) z
noncomputable def rowGo{β:Type}(kw:Wd)(d:List Tk)(K:Row×List Tk→Ps β):Ps β:=fun z=>bP (pItems z) fun items z=>bP (pRow1 kw (d,[]) items z) K
noncomputable def endRow{β:Type}(K:Row×List Tk→Ps β)(row:Row):Ps β:=fun z=>bP (pNeed [59] z) fun o0 z=>K (row,[]) z
theorem after_eq{kw:Wd}{d l r:List Tk}{items:List Item}{β:Type}{K:Row×List Tk→Ps β}(h:∀t∈l,t.1≠[91])(hl:items.length≤1000)(hm:(items.any fun i=>i.2.1)=false):bP (pRow1 kw (d,[]) items (l++d,r)) K=bP (pAfter kw items (l++d,r)) K:=by
 unfold pRow1
 rw[if_pos hl,hm,if_neg Bool.false_ne_true,refuse_ok l d r h];rfl
section
variable{β:Type}{K:Row×List Tk→Ps β}{kw f g:Wd}
theorem sub1_eq(z:Zp):bP (pAfter SUB [([f],false,[])] z) K=bP (pSkip FROM z) fun t z=>Bool.rec (bP (pNeed BY z) fun o0 z=>bP (pSkip NULL z) fun t z=>Bool.rec (bP (pGlyph z) fun g z=>bP (namesLoop 40 [g] z) fun rt z=>endRow K (subRow f rt) z) (endRow K (MULT,[.str f,.tup []]) z) t)
  (bP (pNeed [91] z) fun o0 z=>bP (pGlyphSet z) fun s z=>endRow K (ALT,[.str f,.tup (s.map .str)]) z) t:=by
 unfold pAfter
 rw[if_pos rfl]
 show bP (bP (bP (pSkip FROM z) _) _) K=_
 rw[bPa,bPa]
 refine congrArg _ (funext fun t=>funext fun z=>?_)
 cases t
 ·show bP (bP (pNeed BY z) _) _=_
  refine(bPa ..).trans (congrArg _ (funext fun t=>funext fun z=>?_))
  refine(bPa ..).trans (congrArg _ (funext fun t=>funext fun z=>?_))
  cases t
  ·show bP (bP (bP (pGlyph z) _) _) _=_
   rw[bPa,bPa]
   refine congrArg _ (funext fun t=>funext fun z=>?_)
   exact congrArg _ (funext fun t=>funext fun z=>bPa ..)
  ·exact bPa ..
 ·show bP (bP (pNeed [91] z) _) _=_
  refine(bPa ..).trans (congrArg _ (funext fun t=>funext fun z=>?_))
  refine(bPa ..).trans (congrArg _ (funext fun t=>funext fun z=>?_))
  exact bPa ..
theorem sub2_eq(z:Zp):bP (pAfter SUB [([f],false,[]),([g],false,[])] z) K=bP (pNeed BY z) fun o0 z=>bP (pGlyph z) fun h z=>endRow K (LIG,[.tup [.str f,.str g],.str h]) z:=by
 unfold pAfter
 rw[if_pos rfl]
 show bP (bP (bP (pNeed BY z) _) _) K=_
 rw[bPa,bPa]
 refine congrArg _ (funext fun t=>funext fun z=>?_)
 refine(bPa ..).trans (congrArg _ (funext fun t=>funext fun z=>?_))
 exact bPa ..
theorem pos_eq(h:kw≠SUB)(items:List Item)(ho:okIt items=true)(hl:¬2 < (leftOf items).length)(z:Zp):bP (pAfter kw items z) K=bP (pWorth z) fun ws z=>endRow K ((if(leftOf items).length=1 then ADJ else PAIR),(leftOf items).map .str++[.tup (ws.map .int)]) z:=by
 unfold pAfter pPos
 rw[if_neg h,if_pos ho,if_neg hl,bPa,bPa]
 exact congrArg _ (funext fun t=>funext fun z=>bPa ..)
theorem worth_eq{KW:List Int→Ps β}(z:Zp):bP (pWorth z) KW=bP (pSkip [60] z) fun t z=>Bool.rec (bP (pNum LOW 32767 z) fun i z=>KW [0,0,i,0] z)
  (bP (pNum LOW 32767 z) fun i0 z=>bP (pNum LOW 32767 z) fun i1 z=>bP (pNum LOW 32767 z) fun i2 z=>bP (pNum LOW 32767 z) fun i3 z=>bP (pNeed [62] z) fun o0 z=>KW [i0,i1,i2,i3] z) t:=by
 unfold pWorth
 rw[bPa]
 refine congrArg _ (funext fun t=>funext fun z=>?_)
 cases t
 ·exact bPa ..
 ·refine(bPa ..).trans (congrArg _ (funext fun t=>funext fun z=>?_))
  refine(bPa ..).trans (congrArg _ (funext fun t=>funext fun z=>?_))
  refine(bPa ..).trans (congrArg _ (funext fun t=>funext fun z=>?_))
  refine(bPa ..).trans (congrArg _ (funext fun t=>funext fun z=>?_))
  exact bPa ..
theorem one_bad{w:Wd}(hw:Bd w)(d r:List Tk)(x:Nat):bP (pAfter kw [([f],false,[])] (d,(w,x)::r)) K=some (.error x):=by
 by_cases h:kw=SUB
 ·rw[h,sub1_eq,skip_f hw.nF]
  exact need_f hw.nB ..
 ·rw[pos_eq h _ rfl (Nat.not_lt_of_le (bTl rfl)),worth_eq,skip_f hw.n60]
  exact num_f hw.num ..
theorem two_bad{w:Wd}(hw:Bd w)(d r:List Tk)(x:Nat):bP (pAfter kw [([f],false,[]),([g],false,[])] (d,(w,x)::r)) K=some (.error x):=by
 by_cases h:kw=SUB
 ·rw[h,sub2_eq]
  exact need_f hw.nB ..
 ·rw[pos_eq h _ rfl (Nat.not_lt_of_le (bTl rfl)),worth_eq,skip_f hw.n60]
  exact num_f hw.num ..
end
section
variable{β:Type}{U:Wd→Prop}{o:Nat→Nat}{i:Nat}{d:List Tk}{q':Ps β}{P:List Pair}{K:Row×List Tk→Ps β}{kw f g:Wd}{p:Pair}
theorem Ch.one(hf:Gl f)(hp:Stop p.1)(h:Ch U o (i+1) ((f,o i)::d) (fun z=>bP (pAfter kw [([f],false,[])] z) K) (p::P) q'):Ch U o i d (rowGo kw d K) ((f,sN)::p::P) q':=
 .assoc (p:=pItem) (g:=fun items z=>bP (pRow1 kw (d,[]) items z) K)<| .item hf hp.n39<| .itemsEnd (it:=([f],false,[])) (pre:=[]) hp <|
 .same (fun w x r=>after_eq (l:=[(f,o i)]) (List.forall_mem_singleton.2 (name_ne hf.name rfl)) (bTl rfl) rfl) h
theorem Ch.two(hf:Gl f)(hg:Gl g)(hp:Stop p.1)(h:Ch U o (i+1+1) ((g,o (i+1))::(f,o i)::d) (fun z=>bP (pAfter kw [([f],false,[]),([g],false,[])] z) K) (p::P) q'):Ch U o i d (rowGo kw d K) ((f,sN)::(g,sN)::p::P) q':=by
 refine .assoc (p:=pItem) (g:=fun items z=>bP (pRow1 kw (d,[]) items z) K)<| .item hf (name_ne hg.name rfl) ?_
 have hS:Ch U o (i+1+1) ((g,o (i+1))::(f,o i)::d) (fun z=>bP (itL 39 [([f],false,[])] ([g],false,[]) false z) fun items z=>bP (pRow1 kw (d,[]) items z) K) (p::P) q':=
  .itemsEnd (it:=([g],false,[])) (pre:=[([f],false,[])]) hp<| .same (fun w x r=>after_eq (l:=[(g,o (i+1)),(f,o i)]) (List.forall_mem_cons.2 ⟨name_ne hg.name rfl,List.forall_mem_singleton.2 (name_ne hf.name rfl)⟩) (bTl rfl) rfl) h
 have hI:Ch U o (i+1) ((f,o i)::d) (fun z=>bP (pItem z) fun it2 z=>bP (itL 39 [([f],false,[])] it2 false z) fun items z=>bP (pRow1 kw (d,[]) items z) K) ((g,sN)::p::P) q':=.item hg hp.n39 hS
 have go:∀{w:Wd} (x:Nat) (r:List Tk),iNm w=true→bP (itL 40 [] ([f],false,[]) false ((f,o i)::d,(w,x)::r)) (fun items z=>bP (pRow1 kw (d,[]) items z) K)=bP (pItem ((f,o i)::d,(w,x)::r)) fun it2 z=>bP (itL 39 [([f],false,[])] it2 false z) fun items z=>bP (pRow1 kw (d,[]) items z) K:=
  fun {w} x r hw=>(items_go (by rw[hw,Bool.or_true]) (bTl rfl) x r).trans rfl
 refine hI.via (fun r=>go _ r hg.name) fun w x r hw=>?_
 rw[items_stop hw.bd'.stop]
 exact(after_eq (l:=[(f,o i)]) (List.forall_mem_singleton.2 (name_ne hf.name rfl)) (bTl rfl) rfl).trans (one_bad hw.bd' ..)
theorem Ch.endRow{row:Row}(h:Ch U o (i+1) (([59],o i)::d) (K (row,[])) P q'):Ch U o i d (Mine.endRow K row) (([59],[])::P) q':=.need rfl (by decide) h
theorem Ch.names{KN:List Wd→Ps β}{n:Nat}{found:List Wd}(hg:Gl g)(hf:found.length < 1000)(hK:∀w,Bd w→∀d x r,KN found (d,(w,x)::r)=some (.error x))(h:Ch U o (i+1) ((g,o i)::d) (fun z=>bP (namesLoop n (found++[g]) z) KN) P q'):Ch U o i d (fun z=>bP (namesLoop (n+1) found z) KN) ((g,sN)::P) q':=by
 refine .cons _ _ _ (fun z=>bP (namesLoop n (found++[g]) z) KN) _ _ _ _ (hg.v U) (fun r=>?_) (fun w x r hw=>?_) h
 ·show bP (if iNm g=true then(if found.length < 1000 then bP (pGlyph (d,(g,o i)::r)) fun g z=>namesLoop n (found++[g]) z else none)else okP found (d,(g,o i)::r)) KN=_
  rw[if_pos hg.name,if_pos hf,bPa]
  exact glyph_t hg ..
 ·show bP (if iNm w=true then _ else okP found (d,(w,x)::r)) KN=_
  rw[if_neg fun q=>Bool.noConfusion (hw.bd'.name.symm.trans q)]
  exact hK w hw.bd' ..
theorem Ch.namesEnd{KN:List Wd→Ps β}{n:Nat}{found:List Wd}(hp:iNm p.1=false)(h:Ch U o i d (KN found) (p::P) q'):Ch U o i d (fun z=>bP (namesLoop (n+1) found z) KN) (p::P) q':=
 .look (F:=fun w=>iNm w=false) hp (fun w h=>h.bd'.name) (fun w x r hw=>by
  show bP (if iNm w=true then _ else okP found (d,(w,x)::r)) KN=_
  rw[if_neg fun q=>Bool.noConfusion (hw.symm.trans q)];rfl) h
theorem stop_lit{w:Wd}(h:(!iNm w&&(decide (w≠[39])&&decide (w≠[91])))=true):Stop w:=
 have h:=Bool.and_eq_true_iff.1 h
 have h2:=Bool.and_eq_true_iff.1 h.2
 ⟨Bool.not_inj h.1,of_decide_eq_true h2.1,of_decide_eq_true h2.2⟩
end
end
section
noncomputable def okRowG(U:Wd→Prop)(d:RowD):Prop:=RowD.casesOn d Gl (fun g h=>Gl g∧Gl h) (fun g=>Gl g∧g≠[78,49]) (fun g h=>Gl g∧Gl h) (fun i=> -450≤i∧i < 450) Gl
 fun o0 pre us o0=>(pre=[]∨∃g,Gl g∧pre=[g])∧us.length≤2∧∀u∈us,NmP U u
noncomputable def hdW(d:RowD):Wd:=RowD.casesOn d (fun o0=>SUB) (fun o0 o0=>SUB) (fun o0=>SUB) (fun o0 o0=>SUB) (fun o0=>POS) (fun o0=>POS) fun t o0 o0 o0=>chKw t
noncomputable def hdS(d:RowD):Wd:=RowD.casesOn d (fun o0=>sRow) (fun o0 o0=>sRow) (fun o0=>sRow) (fun o0 o0=>sRow) (fun o0=>sRow) (fun o0=>sRow) fun o0 o0 o0 o0=>sChain
theorem hd_eq(f:Wd)(d:RowD):rPs f d=(hdW d,hdS d)::(rPs f d).tail:=by cases d<;>rfl
noncomputable def setVs(b:Bool):List V:=Bool.rec [] [.tup [.str [98],.str [120,46,97,108,116]]] b
noncomputable def rowOf(f:Wd)(d:RowD):Row:=RowD.casesOn d (fun g=>(SINGLE,[.str f,.str g])) (fun g h=>(MULT,[.str f,.tup [.str g,.str h]])) (fun g=>(ALT,[.str f,.tup [.str g,.str [78,49]]])) (fun g h=>(LIG,[.tup [.str f,.str g],.str h]))
 (fun i=>(ADJ,[.str f,.tup [.int 0,.int 0,.int i,.int 0]])) (fun g=>(PAIR,[.str f,.str g,.tup [.int 1,.int (-2),.int 30,.int 0]]))
 fun t pre us set=>(CHAIN,[.str (chKw t),.tup (pre.map fun g=>.tup [.str g]),.tup [.tup [.str f]],.tup (setVs set),.tup (us.map fun u=>.tup [.int 0,.str u])])
noncomputable def adjOk(w:Wd)(n:Int):Bool:=decide (numOf w=some (some n))&&(!iNm w&&(chk w&&(decide (w≠[39])&&(decide (w≠[91])&&(decide (w≠[60])&&(decide (w≠[59])&&decide (w≠[125])))))))
theorem adj_all:∀n:Nat,n < 900→adjOk (intTo ((n:Int) - 450)) ((n:Int) - 450)=true:=by decide+kernel
structure Adj(n:Int)(w:Wd):Prop where
 num:numOf w=some (some n)
 name:iNm w=false
 chk:chk w=true
 n39:w≠[39]
 n91:w≠[91]
 n60:w≠[60]
 n59:w≠[59]
 n125:w≠[125]
theorem Adj.of{w:Wd}{n:Int}(h:adjOk w n=true):Adj n w:=
 have h0:=Bool.and_eq_true_iff.1 h
 have h1:=Bool.and_eq_true_iff.1 h0.2
 have h2:=Bool.and_eq_true_iff.1 h1.2
 have h3:=Bool.and_eq_true_iff.1 h2.2
 have h4:=Bool.and_eq_true_iff.1 h3.2
 have h5:=Bool.and_eq_true_iff.1 h4.2
 have h6:=Bool.and_eq_true_iff.1 h5.2
 ⟨of_decide_eq_true h0.1,Bool.not_inj h1.1,h2.1,of_decide_eq_true h3.1,of_decide_eq_true h4.1,of_decide_eq_true h5.1,of_decide_eq_true h6.1,of_decide_eq_true h6.2⟩
theorem adj_ok(n:Int)(h: -450≤n∧n < 450):Adj n (intTo n):=by
 have e:=adj_all (n+450).toNat (by lia)
 rw[show(((n+450).toNat:Nat):Int) - 450=n by lia]at e
 exact .of e
theorem glb:Gl [98]:=⟨rfl,rfl,rfl⟩
theorem glx:Gl [120,46,97,108,116]:=⟨rfl,rfl,rfl⟩
theorem glN:Gl [78,49]:=⟨rfl,rfl,rfl⟩
section
variable{β:Type}{U:Wd→Prop}{o:Nat→Nat}{i:Nat}{d:List Tk}{q':Ps β}{P:List Pair}{K:Row×List Tk→Ps β}{kw f g k:Wd}{p:Pair}
theorem Ch.single(hf:Gl f)(hg:Gl g)(h:Ch U o (nx (rPs f (.single g)) i) (adv o (rPs f (.single g)) i d) (K (rowOf f (.single g),[])) P q'):Ch U o (i+1) ((SUB,o i)::d) (rowGo SUB ((SUB,o i)::d) K) ((rPs f (.single g)).tail++P) q':=
 .one hf (stop_lit rfl)<| .same (fun w x r=>sub1_eq _)<| .skip (by decide) (fun w h=>h.bd'.nF)<| .need rfl (by decide)<| .skip (name_ne hg.name rfl) (fun w h=>h.bd'.nN)<| .glyph hg<| .namesEnd rfl<| .endRow h
theorem Ch.multi(hf:Gl f)(hg:Gl g)(hk:Gl k)(h:Ch U o (nx (rPs f (.multi g k)) i) (adv o (rPs f (.multi g k)) i d) (K (rowOf f (.multi g k),[])) P q'):Ch U o (i+1) ((SUB,o i)::d) (rowGo SUB ((SUB,o i)::d) K) ((rPs f (.multi g k)).tail++P) q':=
 .one hf (stop_lit rfl)<| .same (fun w x r=>sub1_eq _)<| .skip (by decide) (fun w h=>h.bd'.nF)<| .need rfl (by decide)<| .skip (name_ne hg.name rfl) (fun w h=>h.bd'.nN)<| .glyph hg <|
 .names hk (bTl rfl) (fun w h d x r=>need_f h.n59 ..)<| .namesEnd rfl<| .endRow h
theorem Ch.alt(hf:Gl f)(hg:Gl g)(hn:g≠[78,49])(h:Ch U o (nx (rPs f (.alt g)) i) (adv o (rPs f (.alt g)) i d) (K (rowOf f (.alt g),[])) P q'):Ch U o (i+1) ((SUB,o i)::d) (rowGo SUB ((SUB,o i)::d) K) ((rPs f (.alt g)).tail++P) q':=
 .one hf (stop_lit rfl)<| .same (fun w x r=>sub1_eq _)<| .skipT rfl (by decide) (fun x r=>need_f (by decide) ..)<| .need rfl (by decide) <|
 .set2 hg glN (by show(decide (g=[78,49]) || false)=false;rw[decide_eq_false hn];rfl)<| .endRow h
theorem Ch.lig(hf:Gl f)(hg:Gl g)(hk:Gl k)(h:Ch U o (nx (rPs f (.lig g k)) i) (adv o (rPs f (.lig g k)) i d) (K (rowOf f (.lig g k),[])) P q'):Ch U o (i+1) ((SUB,o i)::d) (rowGo SUB ((SUB,o i)::d) K) ((rPs f (.lig g k)).tail++P) q':=
 .two hf hg (stop_lit rfl)<| .same (fun w x r=>sub2_eq _)<| .need rfl (by decide)<| .glyph hk<| .endRow h
theorem Ch.adj(hf:Gl f){n:Int}(hn: -450≤n∧n < 450)(h:Ch U o (nx (rPs f (.adj n)) i) (adv o (rPs f (.adj n)) i d) (K (rowOf f (.adj n),[])) P q'):Ch U o (i+1) ((POS,o i)::d) (rowGo POS ((POS,o i)::d) K) ((rPs f (.adj n)).tail++P) q':=
 have ha:=adj_ok n hn
 .one hf ⟨ha.name,ha.n39,ha.n91⟩<| .same (fun w x r=>(pos_eq (by decide) _ rfl (Nat.not_lt_of_le (bTl rfl)) _).trans (worth_eq _))<| .skip ha.n60 (fun w h=>h.bd'.n60)<| .num ha.chk ha.num (by unfold LOW;lia)<| .endRow h
theorem Ch.pair(hf:Gl f)(hg:Gl g)(h:Ch U o (nx (rPs f (.pair g)) i) (adv o (rPs f (.pair g)) i d) (K (rowOf f (.pair g),[])) P q'):Ch U o (i+1) ((POS,o i)::d) (rowGo POS ((POS,o i)::d) K) ((rPs f (.pair g)).tail++P) q':=
 .two hf hg (stop_lit rfl)<| .same (fun w x r=>(pos_eq (by decide) _ rfl (Nat.not_lt_of_le (bTl rfl)) _).trans (worth_eq _))<| .skipT rfl (by decide) (fun x r=>num_f rfl ..) <|
 .num rfl (n:=1) (by decide) (by decide)<| .num rfl (n:= -2) (by decide) (by decide)<| .num rfl (n:=30) (by decide) (by decide)<| .num rfl (n:=0) (by decide) (by decide)<| .need rfl (by decide)<| .endRow h
end
end
section
noncomputable def preIt(pre:List Wd):List Item:=pre.map fun g=>([g],false,[])
noncomputable def setIt(b:Bool):List Item:=Bool.rec [] [([[98],[120,46,97,108,116]],false,[])] b
inductive Pre(pre:List Wd):Prop
 |no (h:pre=[]):Pre pre
 |one (g:Wd) (hg:Gl g) (h:pre=[g]):Pre pre
theorem Pre.of{pre:List Wd}(h:pre=[]∨∃g,Gl g∧pre=[g]):Pre pre:=h.elim .no fun⟨g,hg,h⟩=>.one g hg h
noncomputable def chR(kw f:Wd)(pre:List Wd)(set:Bool)(L:List V):Row:=(CHAIN,[.str kw,.tup (pre.map fun g=>.tup [.str g]),.tup [.tup [.str f]],.tup (setVs set),.tup L])
noncomputable def chRow(kw f:Wd)(pre:List Wd)(set:Bool)(ls:List Tk):Row:=chR kw f pre set (ls.map fun t=>.tup [.int 0,.str t.1])
theorem chain_of{kw f:Wd}{ls:List Tk}{pre:List Wd}(hp:Pre pre)(set:Bool):chainOf kw (preIt pre++([f],true,ls)::setIt set)=some (chRow kw f pre set ls,ls):=by
 cases hp with
 |no h=>
  cases h
  have e:chainOf kw (preIt []++([f],true,ls)::setIt set)=some (chR kw f [] set (ls.map (actV 0 0)++[]),ls++[]):=by cases set<;>rfl
  rw[e,apn,apn];rfl
 |one g hg h=>
  cases h
  have e:chainOf kw (preIt [g]++([f],true,ls)::setIt set)=some (chR kw f [g] set (ls.map (actV 1 1)++[]),ls++[]):=by cases set<;>rfl
  rw[e,apn,apn];rfl
section
variable{β:Type}{U:Wd→Prop}{o:Nat→Nat}{i:Nat}{d d0:List Tk}{q':Ps β}{P:List Pair}{K:Row×List Tk→Ps β}{kw f:Wd}{pre us:List Wd}{ls:List Tk}{set:Bool}
theorem chain_eq(hp:Pre pre)(hl:ls.length≤100)(z:Zp):bP (pRow1 kw (d0,[]) (preIt pre++([f],true,ls)::setIt set) z) K=bP (pNeed [59] z) fun o0 z=>K (chRow kw f pre set ls,ls) z:=by
 unfold pRow1
 rw[chain_of hp,if_pos (by cases hp with | no h=>cases h;cases set<;>exact bTl rfl | one g hg h=>cases h;cases set<;>exact bTl rfl:(preIt pre++([f],true,ls)::setIt set).length≤1000),
  if_pos (by cases hp with | no h=>cases h;rfl | one g hg h=>cases h;rfl:((preIt pre++([f],true,ls)::setIt set).any fun i=>i.2.1)=true)]
 dsimp only
 rw[if_pos hl,bPa];rfl
noncomputable def marked(kw f:Wd)(d0:List Tk)(pre:List Wd)(n:Nat)(K:Row×List Tk→Ps β)(ls:List Tk):Ps β:=fun z=>bP (itL n (preIt pre) ([f],true,ls) false z) fun items z=>bP (pRow1 kw (d0,[]) items z) K
theorem marked_stop{n:Nat}{w:Wd}(hp:Pre pre)(hw:Stop w)(hl:ls.length≤100)(x:Nat)(r:List Tk):marked kw f d0 pre (n+1) K ls (d,(w,x)::r)=bP (pNeed [59] (d,(w,x)::r)) fun o0 z=>K (chRow kw f pre false ls,ls) z:=
 (items_stop (KS:=fun items z=>bP (pRow1 kw (d0,[]) items z) K) hw x r).trans (chain_eq (set:=false) hp hl _)
theorem marked_bad{n:Nat}(hp:Pre pre)(hl:ls.length≤100)(x:Nat)(r:List Tk):marked kw f d0 pre (n+1) K ls (d,([],x)::r)=some (.error x):=
 (marked_stop hp (stop_lit rfl) hl x r).trans (need_f (by decide) ..)
theorem Ch.mark{n:Nat}(hp:Pre pre)(hl:ls.length≤100)(h:Ch U o (nx (setPs set++[([59],[])]) i) (adv o (setPs set++[([59],[])]) i d) (K (chRow kw f pre set ls,ls)) P q'):Ch U o i d (marked kw f d0 pre (n+2) K ls) (setPs set++([59],[])::P) q':=by
 cases set
 ·exact .look (F:=fun w=>Stop w) (stop_lit rfl) (fun w h=>h.bd'.stop) (fun w x r hw=>marked_stop hp hw hl x r)<| .need (f:=fun o0=>K (chRow kw f pre false ls,ls)) rfl (by decide) h
 ·refine .lit rfl (q1:=fun z=>bP (pGlyphSet z) fun gs z=>bP (pItemT gs z) fun it2 z=>bP (if((false || (true&&!it2.2.1))&&it2.2.1)=true then pFault (d,[([91],o i)])else itL (n+1) (preIt pre++[([f],true,ls)]) it2 (false || (true&&!it2.2.1)) z) fun items z=>bP (pRow1 kw (d0,[]) items z) K) (fun r=>?_) (fun x r=>marked_bad hp hl x r) ?_
  ·unfold marked
   rw[items_go (w:=[91]) rfl (by cases hp with | no h=>cases h;exact bTl rfl | one g hg h=>cases h;exact bTl rfl)]
   show bP (bP (pSkip [91] (d,([91],o i)::r)) _) _=_
   rw[skip_t]
   exact bPa ..
  ·refine .set2 glb glx rfl<| .itemT (by decide) ?_
   refine .itemsEnd (it:=([[98],[120,46,97,108,116]],false,[])) (pre:=preIt pre++[([f],true,ls)]) (KS:=fun items z=>bP (pRow1 kw (d0,[]) items z) K) (stop_lit rfl) ?_
   rw[asc]
   exact .same (fun w x r=>chain_eq (set:=true) hp hl _)<| .need (f:=fun o0=>K (chRow kw f pre true ls,ls)) rfl (by decide) h
theorem uses_map(us:List Wd):∀i,((uT o (uPs us) i).map fun t=>V.tup [.int 0,.str t.1])=us.map fun u=>V.tup [.int 0,.str u]:=by
 induction us with
 |nil=>exact fun i=>rfl
 |cons u us ih=>exact fun i=>congrArg (V.tup [.int 0,.str u]:: ·) (ih (i+1+1))
theorem usesT_use(us:List Wd):∀i,(uT o (uPs us) i).length=us.length:=by
 induction us with
 |nil=>exact fun i=>rfl
 |cons u us ih=>exact fun i=>congrArg (· +1) (ih (i+1+1))
theorem Ch.chain1{n:Nat}(hp:Pre pre)(hl:us.length≤2)(hu:∀u∈us,NmP U u)
  (h:Ch U o (nx (uPs us++(setPs set++[([59],[])])) i) (adv o (uPs us++(setPs set++[([59],[])])) i d) (K (chRow kw f pre set (uT o (uPs us) i),uT o (uPs us) i)) P q'):
  Ch U o i d (fun z=>bP (luLoop 40 [] z) fun ls=>marked kw f d0 pre (n+2) K ls) (uPs us++(setPs set++([59],[])::P)) q':=by
 rw[nx_app,adv_app]at h
 have hm:=Ch.mark (d0:=d0) (n:=n) (kw:=kw) (f:=f) (pre:=pre) (set:=set) (ls:=uT o (uPs us) i) hp (by rw[usesT_use];lia) h
 have hK:∀l:List Tk,l.length≤2→∀d x r,marked kw f d0 pre (n+2) K l (d,([],x)::r)=some (.error x):=fun l hl d x r=>marked_bad hp (ltr hl (bTl rfl)) x r
 cases set
 ·exact .uses (p:=([59],[])) (by decide) hK us 39 i d [] (ltr hl (bTl rfl)) (by rw[List.length_nil];lia) hu hm
 ·exact .uses (p:=([91],[])) (by decide) hK us 39 i d [] (ltr hl (bTl rfl)) (by rw[List.length_nil];lia) hu hm
theorem Ch.chain{t:Bool}(hf:Gl f)(hp:Pre pre)(hl:us.length≤2)(hu:∀u∈us,NmP U u)
  (h:Ch U o (nx (rPs f (.chain t pre us set)) i) (adv o (rPs f (.chain t pre us set)) i d) (K (rowOf f (.chain t pre us set),uT o (rPs f (.chain t pre us set)) i)) P q'):
  Ch U o (i+1) ((chKw t,o i)::d) (rowGo (chKw t) ((chKw t,o i)::d) K) ((rPs f (.chain t pre us set)).tail++P) q':=by
 have e:rPs f (.chain t pre us set)=(chKw t,sChain)::((pre.map fun g=>(g,sN))++((f,sN)::([39],[])::(uPs us++(setPs set++[([59],[])])))):=by
  show [(chKw t,sChain)]++(pre.map fun g=>(g,sN))++[(f,sN),([39],[])]++uPs us++setPs set++[([59],[])]=_
  rw[asc,asc,asc,asc];rfl
 have eu:∀j,uT o (uPs us++(setPs set++[([59],[])])) j=uT o (uPs us) j:=fun j=>by rw[usesT_app];cases set<;>exact apn _
 have er:rowOf f (.chain t pre us set)=chRow (chKw t) f pre set (uT o (uPs us) (nx ((pre.map fun g=>(g,sN))++[(f,sN),([39],[])]) (i+1))):=by
  unfold chRow;rw[uses_map];rfl
 rw[e,er]at h
 rw[e,List.tail_cons,asc]
 cases hp with
 |no hq=>
  cases hq
  have h:Ch U o (nx (uPs us++(setPs set++[([59],[])])) (i+1+1+1)) (adv o (uPs us++(setPs set++[([59],[])])) (i+1+1+1) (([39],o (i+1+1))::(f,o (i+1))::(chKw t,o i)::d)) (K (chRow (chKw t) f [] set (uT o (uPs us) (i+1+1+1)),uT o (uPs us++(setPs set++[([59],[])])) (i+1+1+1))) P q':=h
  rw[eu]at h
  show Ch U o (i+1) _ _ ((f,sN)::([39],[])::((uPs us++(setPs set++[([59],[])]))++P)) q'
  rw[asc,asc]
  refine .assoc (p:=pItem) (g:=fun items z=>bP (pRow1 (chKw t) ((chKw t,o i)::d,[]) items z) K)<| .itemM hf (fun x r=>?_) (.chain1 (n:=38) (.no rfl) hl hu h)
  exact(items_stop (pre:=[]) (stop_lit rfl) x r).trans<| (after_eq (l:=[(f,o (i+1))]) (List.forall_mem_singleton.2 (name_ne hf.name rfl)) (bTl rfl) rfl).trans (one_bad bd_nil ..)
 |one g hg hq=>
  cases hq
  have h:Ch U o (nx (uPs us++(setPs set++[([59],[])])) (i+1+1+1+1)) (adv o (uPs us++(setPs set++[([59],[])])) (i+1+1+1+1) (([39],o (i+1+1+1))::(f,o (i+1+1))::(g,o (i+1))::(chKw t,o i)::d)) (K (chRow (chKw t) f [g] set (uT o (uPs us) (i+1+1+1+1)),uT o (uPs us++(setPs set++[([59],[])])) (i+1+1+1+1))) P q':=h
  rw[eu]at h
  show Ch U o (i+1) _ _ ((g,sN)::(f,sN)::([39],[])::((uPs us++(setPs set++[([59],[])]))++P)) q'
  rw[asc,asc]
  refine .assoc (p:=pItem) (g:=fun items z=>bP (pRow1 (chKw t) ((chKw t,o i)::d,[]) items z) K)<| .item hg (name_ne hf.name rfl) ?_
  have hm:Ch U o (i+1+1) ((g,o (i+1))::(chKw t,o i)::d) (fun z=>bP (pItem z) fun it2 z=>bP (if((false || (false&&!it2.2.1))&&it2.2.1)=true then pFault ((g,o (i+1))::(chKw t,o i)::d,[(f,o (i+1+1))])else itL 39 [([g],false,[])] it2 (false || (false&&!it2.2.1)) z) fun items z=>bP (pRow1 (chKw t) ((chKw t,o i)::d,[]) items z) K)
    ((f,sN)::([39],[])::(uPs us++(setPs set++([59],[])::P))) q':=by
   refine .itemM hf (fun x r=>?_) (.chain1 (n:=37) (.one g hg rfl) hl hu h)
   exact(items_stop (n:=38) (over:=false) (pre:=[([g],false,[])]) (it:=([f],false,[])) (KS:=fun items z=>bP (pRow1 (chKw t) ((chKw t,o i)::d,[]) items z) K) (stop_lit rfl) x r).trans<| (after_eq (l:=[(f,o (i+1+1)),(g,o (i+1))]) (List.forall_mem_cons.2 ⟨name_ne hf.name rfl,List.forall_mem_singleton.2 (name_ne hg.name rfl)⟩) (bTl rfl) rfl).trans (two_bad bd_nil ..)
  refine hm.via (fun r=>items_go (pre:=[]) (by rw[hf.name,Bool.or_true]) (bTl rfl) _ r) fun w x r hw=>?_
  exact(items_stop (pre:=[]) hw.bd'.stop x r).trans<| (after_eq (l:=[(g,o (i+1))]) (List.forall_mem_singleton.2 (name_ne hg.name rfl)) (bTl rfl) rfl).trans (one_bad hw.bd' ..)
theorem Ch.row(rd:RowD)(hf:Gl f)(h:okRowG U rd)(H:Ch U o (nx (rPs f rd) i) (adv o (rPs f rd) i d) (K (rowOf f rd,uT o (rPs f rd) i)) P q'):Ch U o (i+1) ((hdW rd,o i)::d) (rowGo (hdW rd) ((hdW rd,o i)::d) K) ((rPs f rd).tail++P) q':=by
 cases rd with
 |single g=>exact .single hf h H
 |multi g k=>exact .multi hf h.1 h.2 H
 |alt g=>exact .alt hf h.1 h.2 H
 |lig g k=>exact .lig hf h.1 h.2 H
 |adj n=>exact .adj hf h H
 |pair g=>exact .pair hf h H
 |chain t pre us set=>exact .chain hf (.of h.1) h.2.1 h.2.2 H
end
end
section
noncomputable def isCh(d:RowD):Bool:=RowD.casesOn d (fun o0=>false) (fun o0 o0=>false) (fun o0=>false) (fun o0 o0=>false) (fun o0=>false) (fun o0=>false) fun o0 o0 o0 o0=>true
noncomputable def isChW(w:Wd):Bool:=decide (w=kwCh true) || decide (w=kwCh false)
theorem isCh_kw(d:RowD):isCh d=isChW (kwOf d):=by
 cases d with
 |chain t _ _ _=>cases t<;>rfl
 |_=>rfl
noncomputable def kdW(w:Wd):Wd:=bif isChW w then CHAIN else w
noncomputable def wdW(w:Wd):Wd:=bif decide (w=kwCh true)then SUB else bif decide (w=kwCh false) || (decide (w=ADJ) || decide (w=PAIR))then POS else SUB
theorem row_kd(f:Wd)(d:RowD):(rowOf f d).1=kdW (kwOf d):=by
 cases d with
 |chain t _ _ _=>cases t<;>rfl
 |_=>rfl
theorem row_wd(f:Wd)(d:RowD):rowWord (rowOf f d)=some (.str (wdW (kwOf d))):=by
 cases d with
 |chain t _ _ _=>cases t<;>rfl
 |_=>rfl
abbrev RD:=Wd×RowD
noncomputable def rowP(p:RD):Row:=rowOf p.1 p.2
noncomputable def lft(p:RD):List V:=RowD.casesOn p.2 (fun o0=>[.str p.1]) (fun o0 o0=>[.str p.1]) (fun o0=>[.str p.1]) (fun g o0=>[.tup [.str p.1,.str g]]) (fun o0=>[.str p.1]) (fun g=>[.str p.1,.str g]) fun o0 o0 o0 o0=>[]
noncomputable def lftV(p:RD):V:=bif isCh p.2 then .none else .tup (lft p)
theorem row_lf(p:RD):rowLeft (rowP p)=some (lftV p):=by
 obtain⟨f,d⟩:=p
 cases d<;>rfl
theorem plain_lf(p:RD):plain dep (lftV p)=true:=by
 obtain⟨f,d⟩:=p
 cases d<;>rfl
theorem left_all(L:List RD):((L.map rowP).all fun r=>(rowLeft r).isSome)=true∧((L.map rowP).map fun r=>(rowLeft r).getD .none)=L.map lftV∧(L.map lftV).all (plain dep)=true:=by
 induction L with
 |nil=>exact⟨rfl,rfl,rfl⟩
 |cons p L ih=>
  refine⟨?_,?_,?_⟩
  ·show((rowLeft (rowP p)).isSome&&_)=true
   rw[row_lf,ih.1];rfl
  ·show(rowLeft (rowP p)).getD .none::_=_
   rw[row_lf,ih.2.1];rfl
  ·show(plain dep (lftV p)&&_)=true
   rw[plain_lf,ih.2.2];rfl
noncomputable def hdL(l:List V):Wd:=l.head?.elim [] fun x=>(vS x).elim ((vT x).elim [] fun l=>l.head?.elim [] fun y=>(vS y).getD []) id
theorem hd_lf(p:RD)(h:isCh p.2=false):hdL (lft p)=p.1:=by
 obtain⟨f,d⟩:=p
 cases d<;>first | rfl | exact Bool.noConfusion h
open Classical in
theorem lf_ne(p p':RD)(h:isCh p'.2=false)(hne:p.1≠p'.1):eqS (lftV p) (lftV p')=false:=by
 unfold lftV
 rw[h]
 cases hc:isCh p.2
 ·exact decide_eq_false fun e=>hne (by rw[←hd_lf p hc,←hd_lf p' h,e])
 ·rfl
theorem chkA_ok(p p':RD)(rs:List Row)(h:kwOf p.2=kwOf p'.2):chkA (rowP p::rs) (rowP p')=some false:=by
 show(if(rowOf p'.1 p'.2).1=(rowOf p.1 p.2).1 then(rowWord (rowOf p'.1 p'.2)).bind fun a=>(rowWord (rowOf p.1 p.2)).bind fun c=>(eqV dep a c).map fun b=>!b else some true)=_
 rw[row_kd,row_kd,h,if_pos rfl,row_wd,row_wd,h]
 show(some (decide (wdW (kwOf p'.2)=wdW (kwOf p'.2)))).map (fun b=>!b)=_
 rw[decide_eq_true rfl];rfl
theorem chkB_eq(L:List RD)(p:RD)(h:isCh p.2=false):chkB (L.map rowP) (rowP p)=some ((L.map lftV).any fun y=>eqS y (lftV p)):=by
 have hl:=left_all L
 have hk:(rowP p).1≠CHAIN:=by
  obtain⟨f,d⟩:=p
  cases d with
  |chain=>exact Bool.noConfusion h
  |_=>exact of_decide_eq_true rfl
 unfold chkB anyEq
 rw[if_neg hk,row_lf,Option.bind_some,hl.1,if_pos rfl,hl.2.1,hl.2.2,plain_lf];rfl
theorem chkB_new(L:List RD)(p:RD)(hn:p.1∉L.map (·.1)):chkB (L.map rowP) (rowP p)=some false:=by
 cases h:isCh p.2
 ·rw[chkB_eq L p h]
  refine congrArg some (List.any_eq_false.2 fun y hy=>?_)
  obtain⟨p2,h2,rfl⟩:=List.mem_map.1 hy
  exact Bool.eq_false_iff.1 (lf_ne p2 p h fun e=>hn (e▸List.mem_map_of_mem h2))
 ·refine if_pos ?_
  obtain⟨f,d⟩:=p
  cases d<;>first | rfl | exact Bool.noConfusion h
open Classical in
theorem chkB_dup(L:List RD)(p:RD)(hp:p∈L)(h:isCh p.2=false):chkB (L.map rowP) (rowP p)=some true:=by
 rw[chkB_eq L p h]
 refine congrArg some (List.any_eq_true.2 ⟨_,List.mem_map_of_mem hp,?_⟩)
 unfold lftV
 rw[h]
 exact decide_eq_true rfl
section
variable{β:Type}{U:Wd→Prop}{o:Nat→Nat}{i:Nat}{d:List Tk}{q':Ps β}{P:List Pair}{KR:List Row×List Tk→Ps β}{n:Nat}{rows:List Row}{uses:List Tk}{p:RD}
noncomputable def rowK(d:List Tk)(i:Nat)(n:Nat)(rows:List Row)(uses:List Tk)(KR:List Row×List Tk→Ps β)(t:Tk)(a:Row×List Tk):Ps β:=fun z'=>bP (pCheck rows a.1 (d,[t]) z') fun o0 z=>bP (pRows n (rows++[a.1]) (uses++a.2) z) KR
theorem rows_head(hl:rows.length < 900∧uses.length≤200)(rd:RowD)(x:Nat)(r:List Tk):bP (pRows (n+1) rows uses (d,(hdW rd,x)::r)) KR=rowGo (hdW rd) ((hdW rd,x)::d) (rowK d i n rows uses KR (hdW rd,x)) ((hdW rd,x)::d,r):=by
 have hm:memW (hdW rd) [SUB,POS]=true:=by
  cases rd with
  |chain t _ _ _=>cases t<;>rfl
  |_=>rfl
 show bP (if memW (hdW rd) [SUB,POS]=true then(if rows.length < 900∧uses.length≤200 then bP (bP (pItems ((hdW rd,x)::d,r)) fun items z=>pRow1 (hdW rd) ((hdW rd,x)::d,r) items z) fun a z'=>bP (pCheck rows a.1 (d,(hdW rd,x)::r) z') fun o0 z=>pRows n (rows++[a.1]) (uses++a.2) z else none)else okP (rows,uses) (d,(hdW rd,x)::r)) KR=_
 rw[hm,if_pos rfl,if_pos hl,bPa,bPa]
 refine congrArg _ (funext fun items=>funext fun z=>congrArg (bP _) (funext fun a=>funext fun z=>?_))
 exact bPa ..
theorem rows_stop{w:Wd}(h:memW w [SUB,POS]=false)(x:Nat)(r:List Tk):bP (pRows (n+1) rows uses (d,(w,x)::r)) KR=KR (rows,uses) (d,(w,x)::r):=by
 show bP (if memW w [SUB,POS]=true then _ else okP (rows,uses) (d,(w,x)::r)) KR=_
 rw[h,if_neg Bool.false_ne_true];rfl
theorem hd_vp(rd:RowD):Vp U (hdW rd,hdS rd):=by
 cases rd with
 |chain t _ _ _=>cases t<;>exact .lit rfl rfl
 |_=>exact .lit rfl rfl
theorem hd_nm(rd:RowD):isNm (hdS rd)=false:=by cases rd<;>rfl
theorem Ch.rows1(hl:rows.length < 900∧uses.length≤200)(hf:Gl p.1)(hG:okRowG U p.2)(hA:chkA rows (rowP p)=some false)(hB:chkB rows (rowP p)=some false)(hK:∀a d x r,KR a (d,([],x)::r)=some (.error x))
  (h:Ch U o (nx (rPs p.1 p.2) i) (adv o (rPs p.1 p.2) i d) (fun z=>bP (pRows n (rows++[rowP p]) (uses++uT o (rPs p.1 p.2) i) z) KR) P q'):Ch U o i d (fun z=>bP (pRows (n+1) rows uses z) KR) (rPs p.1 p.2++P) q':=by
 have e:rowK d i n rows uses KR (hdW p.2,o i) (rowOf p.1 p.2,uT o (rPs p.1 p.2) i)=fun z=>bP (pRows n (rows++[rowP p]) (uses++uT o (rPs p.1 p.2) i) z) KR:=by
  funext z
  show bP (optP (chkA rows (rowP p)) fun t=>if t=true then pFault (d,[(hdW p.2,o i)])else optP (chkB rows (rowP p)) fun t=>if t=true then pFault (d,[(hdW p.2,o i)])else okP () z) _=_
  rw[hA,hB];rfl
 rw[←e]at h
 have hc:=Ch.row (K:=rowK d i n rows uses KR (hdW p.2,o i)) p.2 hf hG h
 rw[hd_eq]
 refine .cons _ _ _ (rowGo (hdW p.2) ((hdW p.2,o i)::d) (rowK d i n rows uses KR (hdW p.2,o i))) _ _ _ _ (hd_vp _) (fun r=>rows_head hl ..) (fun w x r hw=>?_) hc
 cases hw.no (hd_nm _)
 exact(rows_stop rfl x r).trans (hK ..)
theorem rows_dup(hl:rows.length < 900∧uses.length≤200)(hf:Gl p.1)(hG:okRowG U p.2)(hA:chkA rows (rowP p)=some false)(hB:chkB rows (rowP p)=some true)(r:List Tk):
  bP (pRows (n+1) rows uses (d,tkn o (rPs p.1 p.2) i++r)) KR=some (.error (o i)):=by
 have hc:=(Ch.row (U:=U) (o:=o) (i:=i) (d:=d) (P:=[]) (K:=rowK d i n rows uses KR (hdW p.2,o i)) p.2 hf hG (.nil ..)).ok r
 rw[apn]at hc
 rw[hd_eq]
 refine(rows_head (i:=i) hl ..).trans (hc.trans ?_)
 show bP (optP (chkA rows (rowP p)) fun t=>if t=true then pFault (d,[(hdW p.2,o i)])else optP (chkB rows (rowP p)) fun t=>if t=true then pFault (d,[(hdW p.2,o i)])else _) _=_
 rw[hA,hB];rfl
structure RdG(U:Wd→Prop)(kw:Wd)(p:RD):Prop where
 gl:Gl p.1
 ok:okRowG U p.2
 kw:kwOf p.2=kw
noncomputable def rdPs(L:List RD):List Pair:=L.flatMap fun p=>rPs p.1 p.2
theorem chkA_all{kw:Wd}{L:List RD}{p:RD}(h:∀q∈L,RdG U kw q)(hp:RdG U kw p):chkA (L.map rowP) (rowP p)=some false:=by
 cases L with
 |nil=>rfl
 |cons q L=>exact chkA_ok q p _ ((h q (List.mem_cons_self ..)).kw.trans hp.kw.symm)
theorem Ch.rowsC{kw:Wd}(hK:∀a d x r,KR a (d,([],x)::r)=some (.error x))(L2:List RD):∀(L1:List RD) (n i:Nat) (d:List Tk) (uses:List Tk),(∀q∈L1,RdG U kw q)→(∀q∈L2,RdG U kw q)→((L1++L2).map (·.1)).Nodup→L1.length+L2.length < 900→uses.length+(rdPs L2).length≤200→L2.length≤n→
  Ch U o (nx (rdPs L2) i) (adv o (rdPs L2) i d) (fun z=>bP (pRows (n - L2.length) ((L1++L2).map rowP) (uses++uT o (rdPs L2) i) z) KR) P q'→Ch U o i d (fun z=>bP (pRows n (L1.map rowP) uses z) KR) (rdPs L2++P) q':=by
 induction L2 with
 |nil=>
  intro L1 n i d uses h1 h2 hn hl hu hk h
  rw[apn,show uses++uT o (rdPs []) i=uses from apn _]at h
  exact h
 |cons p L2 ih=>
  intro L1 n i d uses h1 h2 hn hl hu hk h
  have hs:rdPs (p::L2)=rPs p.1 p.2++rdPs L2:=rfl
  rw[lcn]at hl hk
  rw[hs,lap]at hu
  have hle:=usesT_le o (rPs p.1 p.2) i
  have hp:=h2 p (List.mem_cons_self ..)
  rw[hs,nx_app,adv_app,usesT_app,←asc uses,List.append_cons L1 p L2]at h
  rw[List.append_cons]at hn
  rw[hs,asc]
  cases n with
  |zero=>lia
  |succ n=>
  refine .rows1 ⟨by rw[lmp];lia,by lia⟩ hp.gl hp.ok (chkA_all h1 hp) (chkB_new _ _ fun hm=>?_) hK ?_
  ·rw[mpa,mpa]at hn
   exact(List.nodup_append.1 (List.nodup_append.1 hn).1).2.2 _ hm _ (List.mem_singleton.2 rfl) rfl
  ·rw[show n+1 - (p::L2).length=n - L2.length by rw[lcn];lia]at h
   rw[show L1.map rowP++[rowP p]=(L1++[p]).map rowP by rw[mpa];rfl]
   exact ih (L1++[p]) n _ _ _ (fun q hq=>(List.mem_append.1 hq).elim (h1 q) fun h=>(List.mem_singleton.1 h)▸hp) (fun q hq=>h2 q (List.mem_cons_of_mem _ hq)) hn (by rw[lap,List.length_singleton];lia) (by rw[lap];lia) (by lia) h
end
end
section
noncomputable def rowsL(d:LkD):List RD:=([97],d.r0)::d.r1.elim [] fun r=>[([98],r)]
structure LkG(U:Wd→Prop)(d:LkD):Prop where
 own:NmP U d.own
 rows:∀q∈rowsL d,RdG U (kwOf d.r0) q
structure FtG(U:Wd→Prop)(d:FtD):Prop where
 tag:iNm d.tag=true
 len:d.tag.length≤4
 chk:chk d.tag=true
 u0:NmP U d.u0
 u1:∀u∈d.u1,NmP U u
theorem rows_ps(d:LkD):rowsPs d=rdPs (rowsL d):=by
 obtain⟨w,fl,r0,r1⟩:=d
 cases r1 with
 |none=>rfl
 |some r=>exact congrArg (rPs [97] r0++ ·) (apn _).symm
theorem rows_nodup(d:LkD):((rowsL d).map (·.1)).Nodup:=by
 obtain⟨w,fl,r0,r1⟩:=d
 cases r1 with
 |none=>exact(by decide:([[97]]:List Wd).Nodup)
 |some r=>exact(by decide:([[97],[98]]:List Wd).Nodup)
theorem rows_len(d:LkD):(rowsL d).length≤2:=by
 obtain⟨w,fl,r0,r1⟩:=d
 cases r1<;>exact bTl rfl
theorem rowG_len{U:Wd→Prop}(f:Wd)(d:RowD)(h:okRowG U d):(rPs f d).length≤20:=by
 cases d with
 |chain t pre us set=>
  have hp:pre.length≤1:=h.1.elim (fun h=>h▸Nat.zero_le _) fun⟨g,_,h⟩=>h▸Nat.le_refl 1
  have hs:=set_len set
  have hu:(uPs us).length≤4:=match us,h.2.1 with
   |[],_=>Nat.zero_le _
   |[_],_=>bTl rfl
   |[_,_],_=>bTl rfl
   |_::_::_::_,h=>absurd h (by rw[lcn,lcn,lcn];lia)
  rw[lmp]at hs
  show([(chKw t,sChain)]++(pre.map fun g=>(g,sN))++[(f,sN),([39],[])]++uPs us++setPs set++[([59],[])]).length≤20
  rw[lap,lap,lap,lap,lap,lmp]
  show 1+pre.length+2+(uPs us).length+(setPs set).length+1≤20
  lia
 |_=>exact bTl rfl
theorem rdPs_len{U:Wd→Prop}{kw:Wd}(L:List RD)(h:∀q∈L,RdG U kw q):(rdPs L).length≤20*L.length:=by
 induction L with
 |nil=>exact Nat.zero_le _
 |cons p L ih=>
  have h1:=rowG_len p.1 p.2 (h p (List.mem_cons_self ..)).ok
  have h2:=ih fun q hq=>h q (List.mem_cons_of_mem _ hq)
  rw[show rdPs (p::L)=rPs p.1 p.2++rdPs L from rfl,lap,lcn]
  lia
noncomputable def lkOf(d:LkD):Lk:=(d.own,(Bool.rec 0 8 d.flag:Int),(rowsL d).map rowP)
noncomputable def ftOf(d:FtD):Ft:=(d.tag,(Bool.rec DFLT [108,97,116,110] d.script:Wd),dfltP,d.u0::d.u1.elim [] fun u=>[u])
noncomputable def lkHead(d:LkD):List Pair:=(d.own,sOwn)::(flagPs d.flag++[([123],[])])
theorem lk_eq(d:LkD):lkPs d=(LKP,[])::(lkHead d++(rdPs (rowsL d)++[([125],[])])):=by
 rw[←rows_ps]
 show [(LKP,[]),(d.own,sOwn)]++flagPs d.flag++[([123],[])]++rowsPs d++[([125],[])]=(LKP,[])::(d.own,sOwn)::((flagPs d.flag++[([123],[])])++(rowsPs d++[([125],[])]))
 rw[asc,asc,asc,asc (flagPs d.flag)];rfl
section
variable{β:Type}{U:Wd→Prop}{o:Nat→Nat}{i:Nat}{d:List Tk}{q':Ps β}{P:List Pair}{KL:Lk×List Tk→Ps β}{KF:Ft×List Tk→Ps β}
noncomputable def lkEnd(nm:Wd)(fl:Int)(KL:Lk×List Tk→Ps β)(a:List Row×List Tk):Ps β:=fun z=>if a.1.isEmpty=true then pFault z else bP (pNeed [125] z) fun o0 z=>KL ((nm,fl,a.1),a.2) z
noncomputable def lkRows(nm:Wd)(fl:Int)(KL:Lk×List Tk→Ps β):Ps β:=fun z=>bP (pRows 40 [] [] z) (lkEnd nm fl KL)
noncomputable def lkOpen(nm:Wd)(fl:Int)(KL:Lk×List Tk→Ps β):Ps β:=fun z=>bP (pNeed [123] z) fun o0=>lkRows nm fl KL
noncomputable def lkFlag(nm:Wd)(KL:Lk×List Tk→Ps β):Ps β:=fun z=>bP (pSkip FLAG z) fun t z=>Bool.rec (lkOpen nm 0 KL z) (bP (pNum 0 65535 z) fun fl z=>lkOpen nm fl KL z) t
theorem look2_eq(nm:Wd)(fl:Int)(z:Zp):bP (pLookup2 nm fl z) KL=lkOpen nm fl KL z:=by
 unfold pLookup2
 rw[bPa]
 refine congrArg _ (funext fun o0=>funext fun z=>?_)
 rw[bPa]
 refine congrArg _ (funext fun a=>funext fun z=>?_)
 unfold lkEnd
 cases a.1.isEmpty
 ·exact bPa ..
 ·rcases z with⟨d,_ | ⟨t,r⟩⟩<;>rfl
theorem look_eq(z:Zp):bP (pLookup z) KL=bP (pName z) fun nm=>lkFlag nm KL:=by
 unfold pLookup
 rw[bPa]
 refine congrArg _ (funext fun nm=>funext fun z=>?_)
 rw[bPa]
 refine congrArg _ (funext fun t=>funext fun z=>?_)
 cases t
 ·exact look2_eq ..
 ·exact(bPa ..).trans (congrArg _ (funext fun fl=>funext fun z=>look2_eq ..))
theorem lkEnd_bad(nm:Wd)(fl:Int)(a:List Row×List Tk)(d:List Tk)(x:Nat)(r:List Tk):lkEnd nm fl KL a (d,([],x)::r)=some (.error x):=by
 unfold lkEnd
 cases a.1.isEmpty
 ·show bP (pNeed [125] (d,([],x)::r)) (fun o0 z=>KL ((nm,fl,a.1),a.2) z)=_
  exact need_f (by decide) ..
 ·rfl
theorem name_t{g:Wd}(h:iNm g=true)(f:Wd→Ps β)(d r:List Tk)(x:Nat):bP (pName (d,(g,x)::r)) f=f g ((g,x)::d,r):=by unfold pName onT tokIf;dsimp only;rw[if_pos h];rfl
theorem name_f{w:Wd}(h:iNm w=false)(f:Wd→Ps β)(d r:List Tk)(x:Nat):bP (pName (d,(w,x)::r)) f=some (.error x):=by unfold pName onT tokIf;dsimp only;rw[if_neg fun q=>Bool.noConfusion (h.symm.trans q)];rfl
theorem Ch.lkHd(D:LkD)(h:NmP U D.own)(H:Ch U o (nx (lkHead D) i) (adv o (lkHead D) i d) (lkRows D.own (lkOf D).2.1 KL) P q'):Ch U o i d (fun z=>bP (pLookup z) KL) (lkHead D++P) q':=by
 obtain⟨own,fl,r0,r1⟩:=D
 refine .same (q:=fun z=>bP (pLookup z) KL) (q2:=fun z=>bP (pName z) fun nm=>lkFlag nm KL) (p:=(own,sOwn)) (P:=(flagPs fl++[([123],[])])++P) (fun w x r=>look_eq _)<| .cons _ _ (fun z=>bP (pName z) fun nm=>lkFlag nm KL) (lkFlag own KL) _ _ _ _ ⟨h.chk,fun o0=>h.u⟩ (fun r=>name_t h.name ..) (fun w x r hw=>name_f hw.bd'.name ..) ?_
 cases fl
 ·exact .skip (by decide) (fun w h=>by rw[h.no rfl];decide)<| .need (f:=fun o0=>lkRows own 0 KL) rfl (by decide) H
 ·exact .skipT rfl (by decide) (fun x r=>need_f (by decide) ..)<| .num rfl (n:=8) (by decide) (by decide)<| .need (f:=fun o0=>lkRows own 8 KL) rfl (by decide) H
theorem Ch.lookup(D:LkD)(h:LkG U D)(H:Ch U o (nx (lkPs D) i) (adv o (lkPs D) i d) (KL (lkOf D,uT o (lkPs D) i)) P q'):Ch U o (i+1) ((LKP,o i)::d) (fun z=>bP (pLookup z) KL) ((lkPs D).tail++P) q':=by
 have hu:uT o (lkPs D) i=uT o (rdPs (rowsL D)) (nx (lkHead D) (i+1)):=by
  rw[lk_eq]
  show uT o (lkHead D++(rdPs (rowsL D)++[([125],[])])) (i+1)=_
  rw[usesT_app,usesT_app,show uT o (lkHead D) (i+1)=[] by unfold lkHead;cases D.flag<;>rfl]
  exact apn _
 rw[hu,lk_eq]at H
 have H:Ch U o (nx (lkHead D++(rdPs (rowsL D)++[([125],[])])) (i+1)) (adv o (lkHead D++(rdPs (rowsL D)++[([125],[])])) (i+1) ((LKP,o i)::d)) _ P q':=H
 rw[nx_app,nx_app,adv_app,adv_app]at H
 rw[lk_eq,List.tail_cons,asc,asc]
 have hl:=rdPs_len _ h.rows
 have hn:=rows_len D
 refine .lkHd D h.own<| .rowsC (fun a d x r=>lkEnd_bad ..) (rowsL D) [] 40 _ _ [] (fun q h=>nomatch h) h.rows (rows_nodup D) (by rw[List.length_nil];lia) (by rw[List.length_nil];lia) (by lia) ?_
 have hk:40 - (rowsL D).length=39 - (rowsL D).length+1:=by lia
 rw[hk]
 exact .look (p:=([125],[])) (F:=fun w=>memW w [SUB,POS]=false) rfl (fun w h=>by rw[h.no rfl];rfl) (fun w x r hw=>rows_stop hw ..)<| .need (f:=fun o0=>KL (lkOf D,uT o (rdPs (rowsL D)) (nx (lkHead D) (i+1)))) rfl (by decide) H
theorem lookup_dup(D:LkD)(h:LkG U D)(p:RD)(hp:p∈rowsL D)(hc:isCh p.2=false)(r:List Tk):
  bP (pLookup (d,tkn o (lkHead D++(rdPs (rowsL D)++rPs p.1 p.2)) i++r)) KL=some (.error (o (nx (lkHead D++rdPs (rowsL D)) i))):=by
 have hl:=rdPs_len _ h.rows
 have hn:=rows_len D
 have hu:=usesT_le o (rdPs (rowsL D)) (nx (lkHead D) i)
 have hg:=h.rows p hp
 have hk:40 - (rowsL D).length=39 - (rowsL D).length+1:=by lia
 have hch:=(Ch.lkHd (U:=U) (o:=o) (i:=i) (d:=d) (KL:=KL) D h.own (.rowsC (fun a d x r=>lkEnd_bad ..) (rowsL D) [] 40 _ _ [] (fun q h=>nomatch h) h.rows (rows_nodup D) (by rw[List.length_nil];lia) (by rw[List.length_nil];lia) (by lia) (.nil ..))).ok (tkn o (rPs p.1 p.2) (nx (lkHead D++rdPs (rowsL D)) i)++r)
 rw[apn]at hch
 rw[←asc (lkHead D),tkn_app,asc]
 refine hch.trans ?_
 rw[hk]
 exact rows_dup ⟨by rw[lmp];show(rowsL D).length < 900;lia,by rw[List.nil_append];lia⟩ hg.gl hg.ok (chkA_all h.rows hg) (chkB_dup _ p hp hc) r
noncomputable def optT2(k df:Wd)(f:Wd→Ps β):Ps β:=fun z=>bP (pSkip k z) fun t z=>Bool.rec (f df z) (bP (pTag z) f) t
noncomputable def ftEnd(tg sc la:Wd)(KF:Ft×List Tk→Ps β)(us:List Tk):Ps β:=fun z=>if us.isEmpty=true then pFault z else bP (pNeed [125] z) fun o0 z=>KF ((tg,sc,la,us.map (·.1)),us) z
noncomputable def ftOpen(tg sc la:Wd)(KF:Ft×List Tk→Ps β):Ps β:=fun z=>bP (pNeed [123] z) fun o0 z=>bP (usesLoop 40 [] z) (ftEnd tg sc la KF)
theorem feat2_eq(tg sc la:Wd)(z:Zp):bP (pFeature2 tg sc la z) KF=ftOpen tg sc la KF z:=by
 unfold pFeature2
 rw[bPa]
 refine congrArg _ (funext fun o0=>funext fun z=>?_)
 rw[bPa]
 refine congrArg _ (funext fun a=>funext fun z=>?_)
 unfold ftEnd
 cases a.isEmpty
 ·exact bPa ..
 ·rcases z with⟨d,_ | ⟨t,r⟩⟩<;>rfl
theorem optT2_eq{α:Type}(k df:Wd)(f:Wd→Ps α)(g:α→Ps β)(z:Zp):bP (optTag k df f z) g=optT2 k df (fun w z=>bP (f w z) g) z:=by
 unfold optTag
 rw[bPa]
 refine congrArg _ (funext fun t=>funext fun z=>?_)
 cases t
 ·rfl
 ·exact bPa ..
theorem feat_eq(z:Zp):bP (pFeature z) KF=bP (pTag z) fun tg=>optT2 SCRIPT DFLT fun sc=>optT2 LANGUAGE dfltP fun la=>ftOpen tg sc la KF:=by
 unfold pFeature
 rw[bPa]
 refine congrArg _ (funext fun tg=>funext fun z=>(optT2_eq ..).trans ?_)
 refine congrArg (fun f=>optT2 SCRIPT DFLT f z) (funext fun sc=>funext fun z=>(optT2_eq ..).trans ?_)
 exact congrArg (fun f=>optT2 LANGUAGE dfltP f z) (funext fun la=>funext fun z=>feat2_eq ..)
theorem Ch.tag{g:Wd}{f:Wd→Ps β}(h:iNm g=true)(hl:g.length≤4)(hc:chk g=true)(H:Ch U o (i+1) ((g,o i)::d) (f g) P q'):Ch U o i d (fun z=>bP (pTag z) f) ((g,sN)::P) q':=
 .cons _ _ _ (f g) _ _ _ _ (.lit hc rfl) (fun r=>by unfold pTag onT tokIf;dsimp only;rw[if_pos ⟨h,hl⟩];rfl) (fun w x r hw=>by unfold pTag onT tokIf;dsimp only;rw[if_neg fun q=>Bool.noConfusion (hw.bd'.name.symm.trans q.1)];rfl) H
theorem fuses_stop{KU:List Tk→Ps β}{n:Nat}{found:List Tk}{w:Wd}(h:iNm w=false)(x:Nat)(r:List Tk):bP (usesLoop (n+1) found (d,(w,x)::r)) KU=KU found (d,(w,x)::r):=by
 show bP (if iNm w=true then _ else okP found (d,(w,x)::r)) KU=_
 rw[if_neg fun q=>Bool.noConfusion (h.symm.trans q)];rfl
theorem Ch.fuse{KU:List Tk→Ps β}{n:Nat}{found:List Tk}{u:Wd}(h:NmP U u)(hf:found.length < 100)(hK:∀w,Bd w→∀x r,KU found (d,(w,x)::r)=some (.error x))(H:Ch U o (i+1) ((u,o i)::d) (fun z=>bP (usesLoop n (found++[(u,o i)]) z) KU) P q'):Ch U o i d (fun z=>bP (usesLoop (n+1) found z) KU) ((u,sUse)::P) q':=
 .cons _ _ _ (fun z=>bP (usesLoop n (found++[(u,o i)]) z) KU) _ _ _ _ ⟨h.chk,fun o0=>h.u⟩ (fun r=>by
  show bP (if iNm u=true then(if found.length < 100 then usesLoop n (found++[(u,o i)]) ((u,o i)::d,r)else none)else okP found (d,(u,o i)::r)) KU=_
  rw[if_pos h.name,if_pos hf]) (fun w x r hw=>(fuses_stop hw.bd'.name x r).trans (hK w hw.bd' x r)) H
theorem ftEnd_bad{tg sc la w:Wd}(hw:Bd w)(us:List Tk)(x:Nat)(r:List Tk):ftEnd tg sc la KF us (d,(w,x)::r)=some (.error x):=by
 unfold ftEnd
 cases us.isEmpty
 ·show bP (pNeed [125] (d,(w,x)::r)) (fun o0 z=>KF ((tg,sc,la,us.map (·.1)),us) z)=_
  exact need_f hw.n125 ..
 ·rfl
theorem Ch.ftUses{tg sc la u0:Wd}{u1:Option Wd}(h0:NmP U u0)(h1:∀u∈u1,NmP U u)(H:Ch U o (nx ((u0,sUse)::(u1.elim [] (fun u=>[(u,sUse)])++[([125],[])])) i) (adv o ((u0,sUse)::(u1.elim [] (fun u=>[(u,sUse)])++[([125],[])])) i d)
  (KF ((tg,sc,la,u0::u1.elim [] fun u=>[u]),uT o ((u0,sUse)::u1.elim [] fun u=>[(u,sUse)]) i)) P q'):Ch U o i d (fun z=>bP (usesLoop 40 [] z) (ftEnd tg sc la KF)) ((u0,sUse)::(u1.elim [] (fun u=>[(u,sUse)])++([125],[])::P)) q':=by
 cases u1 with
 |none=>exact .fuse h0 (bTl rfl) (fun w hw x r=>ftEnd_bad hw ..)<| .look (p:=([125],[])) (F:=fun w=>iNm w=false) rfl (fun w h=>h.bd'.name) (fun w x r hw=>fuses_stop hw ..)<| .need (f:=fun o0=>KF ((tg,sc,la,[u0]),[(u0,o i)])) rfl (by decide) H
 |some u=>exact .fuse h0 (bTl rfl) (fun w hw x r=>ftEnd_bad hw ..)<| .fuse (h1 u rfl) (bTl rfl) (fun w hw x r=>ftEnd_bad hw ..)<| .look (p:=([125],[])) (F:=fun w=>iNm w=false) rfl (fun w h=>h.bd'.name) (fun w x r hw=>fuses_stop hw ..)<| .need (f:=fun o0=>KF ((tg,sc,la,[u0,u]),[(u0,o i),(u,o (i+1))])) rfl (by decide) H
theorem ft_eq(D:FtD):ftPs D=(FEATURE,[])::(D.tag,sN)::(scriptPs D.script++(([123],[])::(D.u0,sUse)::(D.u1.elim [] (fun u=>[(u,sUse)])++[([125],[])]))):=by
 show [(FEATURE,[]),(D.tag,sN)]++scriptPs D.script++[([123],[])]++usedPs D++[([125],[])]=_
 rw[asc,asc,asc];rfl
theorem Ch.feature(D:FtD)(h:FtG U D)(H:Ch U o (nx (ftPs D) i) (adv o (ftPs D) i d) (KF (ftOf D,uT o (ftPs D) i)) P q'):Ch U o (i+1) ((FEATURE,o i)::d) (fun z=>bP (pFeature z) KF) ((ftPs D).tail++P) q':=by
 obtain⟨tag,sc,u0,u1⟩:=D
 obtain⟨h1,h2,h3,h4,h5⟩:=h
 rw[ft_eq]at H ⊢
 cases sc
 ·refine .same (q:=fun z=>bP (pFeature z) KF) (q2:=fun z=>bP (pTag z) fun tg=>optT2 SCRIPT DFLT fun sc=>optT2 LANGUAGE dfltP fun la=>ftOpen tg sc la KF) (p:=(tag,sN)) (P:=([123],[])::(u0,sUse)::(u1.elim [] (fun u=>[(u,sUse)])++[([125],[])]++P)) (fun w x r=>feat_eq _)<| .tag h1 h2 h3<| .skip (by decide) (fun w h=>by rw[h.no rfl];decide)<| .skip (by decide) (fun w h=>by rw[h.no rfl];decide)<| .need rfl (by decide) ?_
  rw[asc]
  refine .ftUses h4 h5 ?_
  cases u1<;>exact H
 ·refine .same (q:=fun z=>bP (pFeature z) KF) (q2:=fun z=>bP (pTag z) fun tg=>optT2 SCRIPT DFLT fun sc=>optT2 LANGUAGE dfltP fun la=>ftOpen tg sc la KF) (p:=(tag,sN)) (P:=(SCRIPT,[])::([108,97,116,110],sN)::([123],[])::(u0,sUse)::(u1.elim [] (fun u=>[(u,sUse)])++[([125],[])]++P)) (fun w x r=>feat_eq _)<| .tag h1 h2 h3<| .skipT rfl (by decide) (fun x r=>(skip_f (by decide) ..).trans (need_f (by decide) ..)) <|
   .tag rfl (bTl rfl) rfl<| .skip (by decide) (fun w h=>by rw[h.no rfl];decide)<| .need rfl (by decide) ?_
  rw[asc]
  refine .ftUses h4 h5 ?_
  cases u1<;>exact H
end
end
section
inductive Bl where
 |lk (d:LkD) | ft (d:FtD)
noncomputable def bPs(b:Bl):List Pair:=Bl.casesOn b lkPs ftPs
noncomputable def bHd(b:Bl):Wd:=Bl.casesOn b (fun o0=>LKP) fun o0=>FEATURE
noncomputable def bLk(b:Bl):List Lk:=Bl.casesOn b (fun d=>[lkOf d]) fun o0=>[]
noncomputable def bFt(b:Bl):List Ft:=Bl.casesOn b (fun o0=>[]) fun d=>[ftOf d]
noncomputable def BlG(U:Wd→Prop)(b:Bl):Prop:=Bl.casesOn b (LkG U) (FtG U)
noncomputable def pO(bs:List Bl):List Pair:=bs.flatMap bPs
noncomputable def lksOf(bs:List Bl):List Lk:=bs.flatMap bLk
noncomputable def ftsOf(bs:List Bl):List Ft:=bs.flatMap bFt
noncomputable def nmO(bs:List Bl):List Wd:=(lksOf bs).map (·.1)
theorem bl_eq(b:Bl):bPs b=(bHd b,[])::(bPs b).tail:=by
 cases b with
 |lk d=>exact(lk_eq d).trans (congrArg (fun l=>(LKP,[])::List.tail l) (lk_eq d).symm)
 |ft d=>exact(ft_eq d).trans (congrArg (fun l=>(FEATURE,[])::List.tail l) (ft_eq d).symm)
theorem memW_iff{w:Wd}{l:List Wd}:memW w l=true↔w∈l:=
 List.any_eq_true.trans ⟨fun⟨x,h,e⟩=>of_decide_eq_true e▸h,fun h=>⟨w,h,decide_eq_true rfl⟩⟩
theorem memW_f{w:Wd}{l:List Wd}(h:w∉l):memW w l=false:=Bool.eq_false_iff.2 fun q=>h (memW_iff.1 q)
noncomputable def blkHd(n:Nat)(L:List Lk)(F:List Ft)(us:List Tk)(b:Bl):Ps Bk:=Bl.casesOn b
 (fun o0 z=>bP (pWord z) fun w z=>if L.length < 100∧us.length≤600 then(if memW w (L.map (·.1))=true then pFault z else bP (pLookup z) fun a=>pBl n (L++[a.1]) F (us++a.2))else none)
 (fun o0 z=>if F.length < 100∧us.length≤600 then bP (pFeature z) fun a=>pBl n L (F++[a.1]) (us++a.2)else none)
section
variable{U:Wd→Prop}{o:Nat→Nat}{i n:Nat}{d:List Tk}{q':Ps Bk}{P:List Pair}{L:List Lk}{F:List Ft}{us:List Tk}
theorem blocks_eq(w:Wd)(D:LkD)(E:FtD)(x:Nat)(r:List Tk):pBl (n+1) L F us (d,(w,x)::r)=if w=[]then okP (L,F,us) (d,(w,x)::r)else bP (pSkip LKP (d,(w,x)::r)) fun t z=>if t=true then blkHd n L F us (.lk D) z else bP (pNeed FEATURE z) fun o0=>blkHd n L F us (.ft E):=rfl
theorem head_eq(b:Bl)(x:Nat)(r:List Tk):pBl (n+1) L F us (d,(bHd b,x)::r)=blkHd n L F us b ((bHd b,x)::d,r):=by
 cases b with
 |lk D=>
  refine(blocks_eq LKP D ⟨[],false,[],none⟩ x r).trans ?_
  rw[if_neg (show LKP≠[]from List.cons_ne_nil _ _),skip_t];rfl
 |ft D=>
  refine(blocks_eq FEATURE ⟨[],false,.single [],none⟩ D x r).trans ?_
  rw[if_neg (show FEATURE≠[]from List.cons_ne_nil _ _),skip_f (by decide),if_neg Bool.false_ne_true]
  exact need_t ..
theorem Ch.block(b:Bl)(h:BlG U b)(hL:L.length < 100)(hF:F.length < 100)(hu:us.length≤600)(hn:∀l∈bLk b,l.1∉L.map (·.1))
  (H:Ch U o (nx (bPs b) i) (adv o (bPs b) i d) (pBl n (L++bLk b) (F++bFt b) (us++uT o (bPs b) i)) P q'):Ch U o (i+1) ((bHd b,o i)::d) (blkHd n L F us b) ((bPs b).tail++P) q':=by
 cases b with
 |lk D=>
  rw[show F++bFt (.lk D)=F from apn _]at H
  have hc:Ch U o (i+1) ((LKP,o i)::d) (fun z=>bP (pLookup z) fun a=>pBl n (L++[a.1]) F (us++a.2)) ((lkPs D).tail++P) q':=.lookup D h H
  have he:∀{w:Wd} (x:Nat) (r:List Tk),memW w (L.map (·.1))=false→blkHd n L F us (.lk D) ((LKP,o i)::d,(w,x)::r)=bP (pLookup ((LKP,o i)::d,(w,x)::r)) fun a=>pBl n (L++[a.1]) F (us++a.2):=fun x r hm=>by
   show(if L.length < 100∧us.length≤600 then(if memW _ (L.map (·.1))=true then _ else _)else none)=_
   rw[if_pos ⟨hL,hu⟩,hm];rfl
  show Ch U o (i+1) ((LKP,o i)::d) (blkHd n L F us (.lk D)) ((lkPs D).tail++P) q'
  rw[lk_eq]at hc ⊢
  refine Ch.via (w:=D.own) (s:=sOwn) hc (fun r=>he _ r (memW_f (hn _ (.head _)))) fun w x r hw=>?_
  cases hm:memW w (L.map (·.1))
  ·exact(he x r hm).trans (hc.bad [] _ _ rfl w x r hw)
  ·show(if L.length < 100∧us.length≤600 then(if memW w (L.map (·.1))=true then pFault ((LKP,o i)::d,(w,x)::r)else _)else none)=_
   rw[if_pos ⟨hL,hu⟩,hm];rfl
 |ft D=>
  rw[show L++bLk (.ft D)=L from apn _]at H
  have hc:Ch U o (i+1) ((FEATURE,o i)::d) (fun z=>bP (pFeature z) fun a=>pBl n L (F++[a.1]) (us++a.2)) ((ftPs D).tail++P) q':=.feature D h H
  rw[show blkHd n L F us (.ft D)=fun z=>bP (pFeature z) fun a=>pBl n L (F++[a.1]) (us++a.2)from funext fun z=>if_pos ⟨hF,hu⟩]
  exact hc
theorem block_v(b:Bl)(h:BlG U b):∀p∈bPs b,Vp U p:=by
 have hc:=(Ch.block (o:=fun o0=>0) (i:=0) (d:=[]) (n:=0) (L:=[]) (F:=[]) (us:=[]) (P:=[]) b h (bTl rfl) (bTl rfl) (Nat.zero_le _) (fun l o0=>List.not_mem_nil) (.nil ..)).v
 rw[apn]at hc
 rw[bl_eq]
 refine List.forall_mem_cons.2 ⟨?_,hc⟩
 cases b<;>exact .lit rfl rfl
theorem blocks_run(bs:List Bl):∀(n:Nat) (L:List Lk) (F:List Ft) (us:List Tk) (i:Nat) (d rest:List Tk),(∀b∈bs,BlG U b)→(L.map (·.1)++nmO bs).Nodup→L.length+bs.length < 100→F.length+bs.length < 100→us.length+(pO bs).length≤600→
  pBl (bs.length+n) L F us (d,tkn o (pO bs) i++rest)=pBl n (L++lksOf bs) (F++ftsOf bs) (us++uT o (pO bs) i) (adv o (pO bs) i d,rest):=by
 induction bs with
 |nil=>
  intro n L F us i d rest _ _ _ _ _
  rw[show L++lksOf []=L from apn _,show F++ftsOf []=F from apn _,show us++uT o (pO []) i=us from apn _,show [].length+n=n from Nat.zero_add n];rfl
 |cons b bs ih=>
  intro n L F us i d rest hg hn hl hf hu
  have hp:pO (b::bs)=bPs b++pO bs:=rfl
  have hnm:nmO (b::bs)=(bLk b).map (·.1)++nmO bs:=mpa
  rw[lcn]at hl hf
  rw[hp,lap]at hu
  rw[hnm]at hn
  have hul:=usesT_le o (bPs b) i
  have hb:(bLk b).length≤1∧(bFt b).length≤1:=by cases b<;>exact⟨bTl rfl,bTl rfl⟩
  have hc:=(Ch.block (o:=o) (i:=i) (d:=d) (n:=bs.length+n) (P:=[]) b (hg b (List.mem_cons_self ..)) (show L.length < 100 by lia) (show F.length < 100 by lia) (show us.length≤600 by lia)
   (fun l hl hm=>(List.nodup_append.1 hn).2.2 _ hm _ (List.mem_append_left _ (List.mem_map_of_mem hl)) rfl) (.nil ..)).ok (tkn o (pO bs) (nx (bPs b) i)++rest)
  rw[apn]at hc
  rw[hp,tkn_app,adv_app,usesT_app,asc,lcn,Nat.add_right_comm,show lksOf (b::bs)=bLk b++lksOf bs from rfl,show ftsOf (b::bs)=bFt b++ftsOf bs from rfl,←asc,←asc,←asc]
  have he:tkn o (bPs b) i=(bHd b,o i)::tkn o (bPs b).tail (i+1):=by rw[bl_eq];rfl
  have ha:adv o (bPs b) i d=adv o (bPs b).tail (i+1) ((bHd b,o i)::d):=by rw[bl_eq];rfl
  rw[he,List.cons_append,List.cons_append,head_eq,asc,hc,←ha,←asc]
  exact ih n _ _ _ _ _ _ (fun b hb=>hg b (List.mem_cons_of_mem _ hb)) (by rw[mpa,asc];exact hn) (by rw[lap];lia) (by rw[lap];lia) (by rw[lap];lia)
end
structure GoodP(U:Wd→Prop)(bs:List Bl):Prop where
 each:∀b∈bs,BlG U b
 nodup:(nmO bs).Nodup
 few:bs.length≤10
 short:(pO bs).length≤300
section
variable{U:Wd→Prop}{bs bs1 bs2:List Bl}{b:Bl}
theorem GoodP.v(h:GoodP U bs):∀p∈pO bs,Vp U p:=fun p hp=>
 let ⟨b,hb,hp⟩:=List.mem_flatMap.1 hp
 block_v b (h.each b hb) p hp
theorem ps_mid:pO (bs1++b::bs2)=pO bs1++(bPs b++pO bs2):=List.flatMap_append
theorem names_mid:nmO (bs1++b::bs2)=nmO bs1++((bLk b).map (·.1)++nmO bs2):=by
 unfold nmO lksOf
 rw[List.flatMap_append,mpa]
 exact congrArg _ mpa
theorem lks_len:∀bs:List Bl,(lksOf bs).length≤bs.length∧(ftsOf bs).length≤bs.length
 |[]=>⟨Nat.le_refl _,Nat.le_refl _⟩
 |b::bs=>by
  have ih:=lks_len bs
  have hb:(bLk b).length≤1∧(bFt b).length≤1:=by cases b<;>exact⟨bTl rfl,bTl rfl⟩
  rw[show lksOf (b::bs)=bLk b++lksOf bs from rfl,show ftsOf (b::bs)=bFt b++ftsOf bs from rfl,lap,lap,lcn]
  lia
theorem rules_run(h:GoodP U (bs1++bs2))(o:Nat→Nat)(rest:List Tk):∃n,n+bs1.length=39∧(lksOf bs1).length≤10∧(ftsOf bs1).length≤10∧(uT o (pO bs1) 0).length≤300∧
  pBl 40 [] [] [] ([],tkn o (pO bs1) 0++rest)=pBl (n+1) (lksOf bs1) (ftsOf bs1) (uT o (pO bs1) 0) (adv o (pO bs1) 0 [],rest):=by
 have hf:=h.few
 have hs:=h.short
 have hn:=h.nodup
 rw[lap]at hf
 rw[show pO (bs1++bs2)=pO bs1++pO bs2 from List.flatMap_append,lap]at hs
 rw[show nmO (bs1++bs2)=nmO bs1++nmO bs2 by unfold nmO lksOf;rw[List.flatMap_append,mpa]]at hn
 have hl:=lks_len bs1
 have hu:=usesT_le o (pO bs1) 0
 refine⟨39 - bs1.length,by lia,by lia,by lia,by lia,?_⟩
 have hb:=blocks_run (U:=U) (o:=o) bs1 (39 - bs1.length+1) [] [] [] 0 [] rest (fun b hb=>h.each b (List.mem_append_left _ hb)) (List.nodup_append.1 hn).1 (by rw[List.length_nil];lia) (by rw[List.length_nil];lia) (by rw[List.length_nil];lia)
 rw[show bs1.length+(39 - bs1.length+1)=40 by lia]at hb
 exact hb
theorem pRules_err{toks:List Tk}{e:Nat}(h:pBl 40 [] [] [] ([],toks)=some (.error e)):pRules toks=some (.error e):=by unfold pRules;rw[h]
theorem rules_bad(h:GoodP U (bs1++b::bs2)){A B:List Pair}{p:Pair}(hb:(bPs b).tail=A++p::B)(o:Nat→Nat)(w:Wd)(x:Nat)(r:List Tk)(hw:Ok2 w p.2):
  pRules (tkn o (pO bs1++(bHd b,[])::A) 0++(w,x)::r)=some (.error x):=by
 obtain⟨n,_,h1,h2,h3,he⟩:=rules_run h o (tkn o ((bHd b,[])::A) (nx (pO bs1) 0)++(w,x)::r)
 have hn:=h.nodup
 rw[names_mid]at hn
 refine pRules_err ?_
 rw[tkn_app,asc,he]
 show pBl (n+1) _ _ _ (_,(bHd b,o (nx (pO bs1) 0))::(tkn o A (nx (pO bs1) 0+1)++(w,x)::r))=_
 rw[head_eq]
 have hc:=(Ch.block (o:=o) (i:=nx (pO bs1) 0) (d:=adv o (pO bs1) 0 []) (n:=n) (P:=[]) b (h.each b (List.mem_append_right _ (.head _))) (show(lksOf bs1).length < 100 by lia) (show(ftsOf bs1).length < 100 by lia) (show(uT o (pO bs1) 0).length≤600 by lia)
  (fun l hl hm=>(List.nodup_append.1 hn).2.2 _ hm _ (List.mem_append_left _ (List.mem_map_of_mem hl)) rfl) (.nil ..))
 rw[apn]at hc
 exact hc.bad A p B hb w x r hw
theorem rules_twice(h:GoodP U bs){own:Wd}(ho:own∈nmO bs)(o:Nat→Nat)(x y:Nat)(r:List Tk):pRules (tkn o (pO bs) 0++(LKP,x)::(own,y)::r)=some (.error y):=by
 rw[←apn bs]at h
 obtain⟨n,_,h1,h2,h3,he⟩:=rules_run h o ((LKP,x)::(own,y)::r)
 refine pRules_err (he.trans ((head_eq (.lk ⟨own,false,.single [],none⟩) x _).trans ?_))
 show(if(lksOf bs).length < 100∧(uT o (pO bs) 0).length≤600 then(if memW own (nmO bs)=true then pFault (_,(own,y)::r)else _)else none)=_
 rw[if_pos ⟨by lia,by lia⟩,memW_iff.2 ho];rfl
theorem rules_dup{D:LkD}(h:GoodP U (bs1++.lk D::bs2)){p:RD}(hp:p∈rowsL D)(hc:isCh p.2=false)(o:Nat→Nat)(r:List Tk):
  pRules (tkn o (pO bs1++(LKP,[])::(lkHead D++(rdPs (rowsL D)++rPs p.1 p.2))) 0++r)=some (.error (o (pO bs1++(LKP,[])::(lkHead D++rdPs (rowsL D))).length)):=by
 have hG:LkG U D:=h.each (.lk D) (List.mem_append_right _ (.head _))
 obtain⟨n,_,h1,h2,h3,he⟩:=rules_run h o (tkn o ((LKP,[])::(lkHead D++(rdPs (rowsL D)++rPs p.1 p.2))) (nx (pO bs1) 0)++r)
 have hn:=h.nodup
 rw[names_mid]at hn
 refine pRules_err ?_
 rw[tkn_app,asc,he]
 refine(head_eq (.lk D) (o (nx (pO bs1) 0)) _).trans ?_
 have hm:memW D.own (nmO bs1)=false:=memW_f fun hm=>(List.nodup_append.1 hn).2.2 _ hm _ (List.mem_append_left _ (.head _)) rfl
 show(if(lksOf bs1).length < 100∧(uT o (pO bs1) 0).length≤600 then(if memW D.own (nmO bs1)=true then _ else bP (pLookup (_,tkn o (lkHead D++(rdPs (rowsL D)++rPs p.1 p.2)) (nx (pO bs1) 0+1)++r)) _)else none)=_
 rw[if_pos ⟨by lia,by lia⟩,hm,if_neg Bool.false_ne_true,lookup_dup D hG p hp hc,lap,lcn,nx_len,nx_len,Nat.zero_add,Nat.add_assoc,Nat.add_comm 1]
end
end
section
theorem chk_ok{w:Wd}(h:chk w=true):WOk w∧w.length≤20:=⟨wok_of (Bool.and_eq_true_iff.1 h).1,bTl (Bool.and_eq_true_iff.1 h).2⟩
theorem not_t{b:Bool}(h:(!b)=true):b=false:=by cases b<;>first | rfl | cases h
theorem use_ref{s:Wd}(h:isUse s=true):refs s=true:=by
 cases s with
 |nil=>exact h
 |cons c r=>exact Bool.or_eq_true_iff.2 (.inl h)
theorem usesT_mem{o:Nat→Nat}(P:List Pair):∀(i:Nat),∀t∈uT o P i,∃s,(t.1,s)∈P∧isUse s=true:=by
 induction P with
 |nil=>exact fun i t h=>nomatch h
 |cons p P ih=>
  intro i t h
  have h:t∈(Bool.rec (uT o P (i+1)) ((p.1,o i)::uT o P (i+1)) (isUse p.2):List Tk):=h
  have tl:t∈uT o P (i+1)→∃s,(t.1,s)∈p::P∧isUse s=true:=fun h=>let ⟨s,hs,e⟩:=ih _ t h;⟨s,List.mem_cons_of_mem _ hs,e⟩
  cases hu:isUse p.2
  ·rw[hu]at h;exact tl h
  ·rw[hu]at h
   rcases List.mem_cons.1 h with rfl | h
   ·exact⟨p.2,.head _,hu⟩
   ·exact tl h
section
variable{U:Wd→Prop}{bs:List Bl}
theorem lks_mem{l:Lk}(h:l∈lksOf bs):l.2.2.length≤2:=by
 obtain⟨b,_,h⟩:=List.mem_flatMap.1 h
 cases b with
 |lk d=>rw[List.mem_singleton.1 h];exact ltr (Nat.le_of_eq (lmp _)) (rows_len d)
 |ft d=>cases h
theorem rules_end(h:GoodP U bs)(o:Nat→Nat)(e:Nat):pRules (tkn o (pO bs) 0++[([],e)])=some ((badUse (lksOf bs) (uT o (pO bs) 0)).elim (.ok (lksOf bs,ftsOf bs)) fun t=>.error t.2):=by
 have hr:=rules_run (bs2:=[]) ((apn bs).symm▸h) o [([],e)]
 obtain⟨n,_,h1,h2,h3,he⟩:=hr
 have hb:pBl (n+1) (lksOf bs) (ftsOf bs) (uT o (pO bs) 0) (adv o (pO bs) 0 [],[([],e)])=okP (lksOf bs,ftsOf bs,uT o (pO bs) 0) (adv o (pO bs) 0 [],[([],e)]):=(blocks_eq [] ⟨[],false,.single [],none⟩ ⟨[],false,[],none⟩ e []).trans (if_pos rfl)
 unfold pRules
 rw[he,hb]
 show ansOf _=_
 refine if_pos ?_
 show(Nat.ble (lksOf bs).length 1000&&((uT o (pO bs) 0).all (fun t=>Nat.ble t.1.length 1000)&&(Nat.ble (ftsOf bs).length 1000&&(lksOf bs).all fun l=>Nat.ble l.2.2.length 1000)))=true
 rw[Nat.ble_eq_true_of_le (show(lksOf bs).length≤1000 by lia),Nat.ble_eq_true_of_le (show(ftsOf bs).length≤1000 by lia),List.all_eq_true.2 fun t ht=>?_,List.all_eq_true.2 fun l hl=>?_]
 ·rfl
 ·exact Nat.ble_eq_true_of_le (ltr (lks_mem hl) (bTl rfl))
 ·obtain⟨s,hs,_⟩:=usesT_mem _ _ t ht
  exact Nat.ble_eq_true_of_le (ltr (chk_ok (h.v _ hs).chk).2 (bTl rfl))
theorem no_bad{L:List Lk}{us:List Tk}(h:∀t∈us,t.1∈L.map (·.1)):badUse L us=none:=
 List.find?_eq_none.2 fun t ht q=>Bool.noConfusion ((memW_iff.2 (h t ht)).symm.trans (not_t q))
theorem use_in(h:GoodP (· ∈nmO bs) bs){A:List Pair}(hA:∀p∈A,p∈pO bs)(o:Nat→Nat)(i:Nat):∀t∈uT o A i,t.1∈nmO bs:=fun t ht=>
 let ⟨s,hs,hu⟩:=usesT_mem _ _ t ht
 (h.v _ (hA _ hs)).ref (use_ref hu)
theorem rules_right(h:GoodP (· ∈nmO bs) bs)(o:Nat→Nat)(e:Nat):pRules (tkn o (pO bs) 0++[([],e)])=some (.ok (lksOf bs,ftsOf bs)):=by
 rw[rules_end h,no_bad (use_in h (fun o0 h=>h) o 0)];rfl
theorem rules_use(h:GoodP U bs){A B:List Pair}{w s:Wd}(hs:isUse s=true)(hP:pO bs=A++(w,s)::B)(hw:w∉nmO bs)(o:Nat→Nat)(hA:∀t∈uT o A 0,t.1∈nmO bs)(e:Nat):pRules (tkn o (pO bs) 0++[([],e)])=some (.error (o A.length)):=by
 have hb:badUse (lksOf bs) (uT o (pO bs) 0)=some (w,o (nx A 0)):=by
  unfold badUse
  rw[hP,usesT_app,List.find?_append,show(uT o A 0).find? (fun t=>!memW t.1 ((lksOf bs).map (·.1)))=none from no_bad hA]
  show((Bool.rec (uT o B (nx A 0+1)) ((w,o (nx A 0))::uT o B (nx A 0+1)) (isUse s):List Tk).find? _)=_
  rw[hs]
  exact List.find?_cons_of_pos (by show(!memW w (nmO bs))=true;rw[memW_f hw];rfl)
 rw[rules_end h,hb,nx_len,Nat.zero_add];rfl
end
theorem all_map{α:Type}(f:α→V)(p:V→Bool)(l:List α)(h:∀a∈l,p (f a)=true):(l.map f).all p=true:=List.all_eq_true.2 fun x hx=>by
 obtain⟨a,ha,rfl⟩:=List.mem_map.1 hx
 exact h a ha
theorem plain_row(p:RD):plain 16 (rowT (rowP p))=true:=by
 obtain⟨f,d⟩:=p
 cases d with
 |chain t pre us set=>
  show(true&&(true&&((true&&(((pre.map fun g=>V.tup [.str g]).all (plain 13))&&(true&&(((setVs set).all (plain 13))&&(((us.map fun u=>V.tup [.int 0,.str u]).all (plain 13))&&true)))))&&true)))=true
  rw[all_map _ _ pre fun o0 o0=>rfl,all_map _ _ us fun o0 o0=>rfl]
  cases set<;>rfl
 |_=>rfl
theorem plain_lk{l:Lk}{bs:List Bl}(h:l∈lksOf bs):plain 18 (lkT l)=true:=by
 obtain⟨b,_,h⟩:=List.mem_flatMap.1 h
 cases b with
 |lk d=>
  rw[List.mem_singleton.1 h]
  show(true&&(true&&((((rowsL d).map rowP).map rowT).all (plain 16)&&true)))=true
  rw[List.map_map,all_map (rowT∘rowP) _ (rowsL d) fun p o0=>plain_row p];rfl
 |ft d=>cases h
theorem plain_ft(f:Ft):plain 18 (ftT f)=true:=by
 show(true&&(true&&(true&&((f.2.2.2.map V.str).all (plain 16)&&true))))=true
 rw[all_map _ _ f.2.2.2 fun o0 o0=>rfl];rfl
theorem plain_told(bs:List Bl):plain 20 (toldV (lksOf bs,ftsOf bs))=true:=by
 show((((lksOf bs).map lkT).all (plain 18))&&((((ftsOf bs).map ftT).all (plain 18))&&true))=true
 rw[all_map _ _ _ fun l hl=>plain_lk hl,all_map _ _ _ fun f o0=>plain_ft f];rfl
open Classical in
theorem told_eq(bs:List Bl):eqV dep (toldV (lksOf bs,ftsOf bs)) (toldV (lksOf bs,ftsOf bs))=some true:=by
 unfold eqV
 rw[show plain dep (toldV (lksOf bs,ftsOf bs))=true from plain_told bs,Bool.and_self,Bool.or_true]
 exact congrArg some (decide_eq_true rfl)
inductive Sw(N:Wd→Prop):List Pair→List Pair→Prop
 |nil:Sw N [] []
 |keep (p:Pair) (P R:List Pair) (h:Sw N P R):Sw N (p::P) (p::R)
 |use (u w s:Wd) (P R:List Pair) (hs:isUse s=true) (hw:N w) (h:Sw N P R):Sw N ((u,s)::P) ((w,s)::R)
section
variable{N:Wd→Prop}{P Q R:List Pair}
theorem Sw.refl:∀P,Sw N P P
 |[]=>.nil
 |p::P=>.keep p P P (Sw.refl P)
theorem Sw.mid{u w s:Wd}(hs:isUse s=true)(hw:N w):∀A:List Pair,Sw N (A++(u,s)::P) (A++(w,s)::P)
 |[]=>.use u w s P P hs hw (.refl P)
 |a::A=>.keep a _ _ (Sw.mid hs hw A)
theorem Sw.cut(P:List Pair):∀{R},Sw N (P++Q) R→∃P' Q',R=P'++Q'∧Sw N P P'∧Sw N Q Q':=by
 induction P with
 |nil=>exact fun {R} h=>⟨[],R,rfl,.nil,h⟩
 |cons p P ih=>
  intro R h
  cases h with
  |keep _ _ R h=>exact let ⟨P',Q',e,h1,h2⟩:=ih h;⟨p::P',Q',congrArg (p:: ·) e,.keep _ _ _ h1,h2⟩
  |use u w s _ R hs hw h=>exact let ⟨P',Q',e,h1,h2⟩:=ih h;⟨(w,s)::P',Q',congrArg ((w,s):: ·) e,.use _ _ _ _ _ hs hw h1,h2⟩
theorem Sw.same(h:Sw N P R):(P.all fun p=>!isUse p.2)=true→R=P:=by
 induction h with
 |nil=>exact fun o0=>rfl
 |keep p P R h ih=>exact fun hp=>congrArg (p:: ·) (ih (Bool.and_eq_true_iff.1 hp).2)
 |use u w s P R hs hw h ih=>exact fun hp=>Bool.noConfusion (hs.symm.trans (not_t (Bool.and_eq_true_iff.1 hp).1))
theorem Sw.one{p:Pair}(h:Sw N (p::P) R)(hp:isUse p.2=false):∃R',R=p::R'∧Sw N P R':=by
 cases h with
 |keep _ _ R h=>exact⟨R,rfl,h⟩
 |use u w s _ R hs hw h=>exact Bool.noConfusion (hs.symm.trans hp)
theorem Sw.use1{u s:Wd}(h:Sw N ((u,s)::P) R)(hu:N u):∃w R',R=(w,s)::R'∧N w∧Sw N P R':=by
 cases h with
 |keep _ _ R h=>exact⟨u,R,rfl,hu,h⟩
 |use u w s _ R hs hw h=>exact⟨w,R,rfl,hw,h⟩
theorem Sw.uses(us:List Wd):∀{R},Sw N (uPs us) R→(∀u∈us,N u)→∃us',R=uPs us'∧us'.length=us.length∧∀u∈us',N u:=by
 induction us with
 |nil=>exact fun h o0=>by cases h;exact⟨[],rfl,rfl,fun o0 h=>nomatch h⟩
 |cons u us ih=>
  intro R h hu
  obtain⟨R1,rfl,h1⟩:=Sw.one (p:=(LKP,[])) (P:=(u,sUse)::uPs us) h rfl
  obtain⟨w,R2,rfl,hw,h2⟩:=h1.use1 (hu u (.head _))
  obtain⟨us',rfl,hl,h3⟩:=ih h2 fun v hv=>hu v (List.mem_cons_of_mem _ hv)
  exact⟨w::us',rfl,congrArg (· +1) hl,List.forall_mem_cons.2 ⟨hw,h3⟩⟩
end
section
variable{U:Wd→Prop}{R:List Pair}
theorem sw_row{f:Wd}{rd:RowD}(h:okRowG U rd)(hs:Sw (NmP U) (rPs f rd) R):∃rd',R=rPs f rd'∧okRowG U rd'∧kwOf rd'=kwOf rd:=by
 cases rd with
 |chain t pre us set=>
  obtain⟨A,S1,rfl,h1,h2⟩:=Sw.cut ([(chKw t,sChain)]++(pre.map fun g=>(g,sN))++[(f,sN),([39],[])]++uPs us++setPs set) hs
  obtain⟨B,S2,rfl,h3,h4⟩:=Sw.cut ([(chKw t,sChain)]++(pre.map fun g=>(g,sN))++[(f,sN),([39],[])]++uPs us) h1
  obtain⟨C,S3,rfl,h5,h6⟩:=Sw.cut ([(chKw t,sChain)]++(pre.map fun g=>(g,sN))++[(f,sN),([39],[])]) h3
  obtain⟨us',rfl,hl,hu⟩:=Sw.uses us h6 h.2.2
  have e1:=h2.same rfl
  have e2:=h4.same (by cases set<;>rfl)
  have e3:=h5.same (by
   rcases h.1 with e | ⟨g,_,e⟩
   ·rw[e];rfl
   ·rw[e];rfl)
  exact⟨.chain t pre us' set,by rw[e1,e2,e3];rfl,⟨h.1,hl▸h.2.1,hu⟩,rfl⟩
 |_=>exact⟨_,hs.same rfl,h,rfl⟩
theorem sw_lk{d:LkD}(h:LkG U d)(hs:Sw (NmP U) (lkPs d) R):∃d',R=lkPs d'∧LkG U d'∧d'.own=d.own:=by
 obtain⟨own,fl,r0,r1⟩:=d
 have h0:=h.rows ([97],r0) (.head _)
 obtain⟨A,S1,rfl,h1,h2⟩:=Sw.cut ([(LKP,[]),(own,sOwn)]++flagPs fl++[([123],[])]++(rPs [97] r0++r1.elim [] (rPs [98]))) hs
 obtain⟨B,S2,rfl,h3,h4⟩:=Sw.cut ([(LKP,[]),(own,sOwn)]++flagPs fl++[([123],[])]) h1
 obtain⟨C,S3,rfl,h5,h6⟩:=Sw.cut (rPs [97] r0) h4
 obtain⟨r0',rfl,g0,k0⟩:=sw_row h0.ok h5
 have e1:=h2.same rfl
 have e2:=h3.same (by cases fl<;>rfl)
 subst e1 e2
 cases r1 with
 |none=>
  cases h6
  exact⟨⟨own,fl,r0',none⟩,rfl,⟨h.own,List.forall_mem_singleton.2 ⟨h0.gl,g0,rfl⟩⟩,rfl⟩
 |some r=>
  have h7:=h.rows ([98],r) (.tail _ (.head _))
  obtain⟨r',rfl,g1,k1⟩:=sw_row h7.ok h6
  exact⟨⟨own,fl,r0',some r'⟩,rfl,⟨h.own,List.forall_mem_cons.2 ⟨⟨h0.gl,g0,rfl⟩,List.forall_mem_singleton.2 ⟨h7.gl,g1,(k1.trans h7.kw).trans k0.symm⟩⟩⟩,rfl⟩
theorem sw_ft{d:FtD}(h:FtG U d)(hs:Sw (NmP U) (ftPs d) R):∃d',R=ftPs d'∧FtG U d':=by
 obtain⟨tag,sc,u0,u1⟩:=d
 obtain⟨A,S1,rfl,h1,h2⟩:=Sw.cut ([(FEATURE,[]),(tag,sN)]++scriptPs sc++[([123],[])]++((u0,sUse)::u1.elim [] fun u=>[(u,sUse)])) hs
 obtain⟨B,S2,rfl,h3,h4⟩:=Sw.cut ([(FEATURE,[]),(tag,sN)]++scriptPs sc++[([123],[])]) h1
 have e1:=h2.same rfl
 have e2:=h3.same (by cases sc<;>rfl)
 subst e1 e2
 obtain⟨w,R',rfl,hw,h5⟩:=h4.use1 h.u0
 cases u1 with
 |none=>cases h5;exact⟨⟨tag,sc,w,none⟩,rfl,h.tag,h.len,h.chk,hw,fun o0 h=>nomatch h⟩
 |some u=>
  obtain⟨w',R',rfl,hw',h5⟩:=Sw.use1 (u:=u) (s:=sUse) h5 (h.u1 u rfl)
  cases h5
  exact⟨⟨tag,sc,w,some w'⟩,rfl,h.tag,h.len,h.chk,hw,fun o0 h=>by cases h;exact hw'⟩
theorem sw_bs(bs:List Bl):∀{R},Sw (NmP U) (pO bs) R→(∀b∈bs,BlG U b)→∃bs',R=pO bs'∧(∀b∈bs',BlG U b)∧nmO bs'=nmO bs∧bs'.length=bs.length:=by
 induction bs with
 |nil=>exact fun h o0=>by cases h;exact⟨[],rfl,(fun o0 h=>nomatch h),rfl,rfl⟩
 |cons b bs ih=>
  intro R h hg
  obtain⟨A,S,rfl,h1,h2⟩:=Sw.cut (bPs b) h
  obtain⟨bs',rfl,h3,h4,h5⟩:=ih h2 fun b hb=>hg b (List.mem_cons_of_mem _ hb)
  have hb:=hg b (.head _)
  cases b with
  |lk d=>
   obtain⟨d',rfl,g,e⟩:=sw_lk hb h1
   exact⟨.lk d'::bs',rfl,List.forall_mem_cons.2 ⟨g,h3⟩,by show d'.own::nmO bs'=d.own::nmO bs;rw[e,h4],congrArg (· +1) h5⟩
  |ft d=>
   obtain⟨d',rfl,g⟩:=sw_ft hb h1
   exact⟨.ft d'::bs',rfl,List.forall_mem_cons.2 ⟨g,h3⟩,h4,congrArg (· +1) h5⟩
end
end
section
abbrev wds(P:List Pair):List Wd:=P.map (·.1)
theorem zip_tk{o:Nat→Nat}(P:List Pair):∀(ps:List Nat) (i:Nat),ps.length=P.length→(∀k x,ps[k]?=some x→o (i+k)=x)→(wds P).zip ps=tkn o P i:=by
 induction P with
 |nil=>exact fun ps i o0 o0=>rfl
 |cons p P ih=>
  intro ps i hl ho
  cases ps with
  |nil=>cases hl
  |cons x ps=>
   have h0:o i=x:=ho 0 x rfl
   have h1:=ih ps (i+1) (Nat.succ.inj hl) fun k y hk=>by rw[Nat.add_assoc,Nat.add_comm 1];exact ho (k+1) y hk
   show(p.1,x)::(wds P).zip ps=(p.1,o i)::tkn o P (i+1)
   rw[h0,h1]
noncomputable def oOf(ps:List Nat)(k:Nat):Nat:=ps.getD k 0
theorem oOf_at{ps:List Nat}{k x:Nat}(h:ps[k]?=some x):oOf ps k=x:=by
 unfold oOf;rw[List.getD_eq_getElem?_getD,h];rfl
theorem at_oOf{ps:List Nat}{k:Nat}(h:k < ps.length):ps[k]?=some (oOf ps k):=by
 rw[gqe h,oOf_at (gqe h)]
abbrev Ck(P:List Pair):Prop:=∀p∈P,chk p.1=true
theorem Ck.wok{P:List Pair}(h:Ck P):∀x∈wds P,WOk x:=fun x hx=>by
 obtain⟨p,hp,rfl⟩:=List.mem_map.1 hx
 exact(chk_ok (h p hp)).1
theorem Ck.len{P:List Pair}(h:Ck P):∀x∈wds P,x.length≤20:=fun x hx=>by
 obtain⟨p,hp,rfl⟩:=List.mem_map.1 hx
 exact(chk_ok (h p hp)).2
theorem Ck.app{P Q:List Pair}(h1:Ck P)(h2:Ck Q):Ck (P++Q):=fun p hp=>(List.mem_append.1 hp).elim (h1 p) (h2 p)
theorem Ck.sub{P Q:List Pair}(h:Ck Q)(hs:∀p∈P,p∈Q):Ck P:=fun p hp=>h p (hs p hp)
section
variable{P:List Pair}{text:Wd}{ps:List Nat}
theorem sp_len(h:Spelled (wds P) text ps):ps.length=P.length:=(spelled_len h).trans (lmp _)
theorem read_tail(hne:P≠[])(h:Spelled (wds P) text ps)(hok:Ck P){tail:List Nat}(h1:skN false tail=tail.length)(h2:rLn LF tail=0)(hl:P.length≤4000):
  readT 5000 (text++tail)=pRules (tkn (oOf ps) P 0++[([],(text++tail).length)]):=by
 have hx:=lex_spelled (fun e=>hne (List.map_eq_nil_iff.1 e)) h hok.wok h1 h2 (ltr (Nat.le_of_eq (lmp _)) hl)
 rw[zip_tk P ps 0 (sp_len h) fun k x hk=>by rw[Nat.zero_add];exact oOf_at hk]at hx
 unfold readT
 rw[hx]
 exact if_pos (by rw[lap,tkn_len];exact ltr (Nat.add_le_add_right hl 1) (bTl rfl))
theorem read_sp(hne:P≠[])(h:Spelled (wds P) text ps)(hok:Ck P)(hl:P.length≤4000):readT 5000 text=pRules (tkn (oOf ps) P 0++[([],text.length)]):=by
 have:=read_tail hne h hok (tail:=[]) rfl rfl hl
 rwa [apn]at this
theorem heard_err{t:Wd}{e:Nat}(h:readT 5000 t=some (.error e)):heardT 5000 t=some (.int e):=by unfold heardT;rw[h]
end
structure Gen(names:List Wd)(bs:List Bl):Prop where
 good:∀U:Wd→Prop,(∀n∈names,U n)→GoodP U bs
 nm:nmO bs=names
 sub:∀n∈names,n∈NAMES
 len:(pO bs).length≤170
 ne:bs≠[]
section
variable{names:List Wd}{bs:List Bl}{text:Wd}{ps:List Nat}{A B:List Pair}
theorem Gen.g(g:Gen names bs):GoodP (· ∈nmO bs) bs:=g.good _ fun n h=>g.nm▸h
theorem Gen.ck(g:Gen names bs):Ck (pO bs):=fun p hp=>(g.g.v p hp).chk
theorem Gen.ref(g:Gen names bs){w s:Wd}(h:(w,s)∈pO bs)(hs:refs s=true):w∈nmO bs:=(g.g.v _ h).ref hs
theorem Gen.ps_ne(g:Gen names bs):pO bs≠[]:=by
 obtain⟨b,bs',rfl⟩:=List.exists_cons_of_ne_nil g.ne
 show bPs b++pO bs'≠[]
 rw[bl_eq]
 exact List.cons_ne_nil _ _
theorem heard_right(g:Gen names bs)(h:Spelled (wds (pO bs)) text ps):heardT 5000 text=some (toldV (lksOf bs,ftsOf bs)):=by
 unfold heardT
 rw[read_sp g.ps_ne h g.ck (ltr g.len (bTl rfl)),rules_right g.g]
theorem split_app{α:Type}{x y A B:List α}{p:α}(h:x++y=A++p::B):(∃B',x=A++p::B'∧B=B'++y)∨(∃A',A=x++A'∧y=A'++p::B):=by
 rcases List.append_eq_append_iff.1 h with⟨as,h1,h2⟩ | ⟨cs,h1,h2⟩
 ·exact .inr ⟨as,h1,h2⟩
 ·cases cs with
  |nil=>exact .inr ⟨[],by rw[h1,apn,apn],h2.symm⟩
  |cons b cs=>cases h2;exact .inl ⟨cs,h1,rfl⟩
inductive At2(bs:List Bl)(A B:List Pair)(p:Pair):Prop
 |mk (bs1:List Bl) (b:Bl) (bs2:List Bl) (A' B':List Pair) (e:bs=bs1++b::bs2) (eA:A=pO bs1++(bHd b,[])::A') (eB:B=B'++pO bs2) (et:(bPs b).tail=A'++p::B')
theorem at_block(bs:List Bl):∀{A B:List Pair} {p:Pair},p.2≠[]→pO bs=A++p::B→At2 bs A B p:=by
 induction bs with
 |nil=>exact fun {A B p} o0 h=>by cases A<;>cases h
 |cons b bs ih=>
  intro A B p hp h
  rcases split_app (h:bPs b++pO bs=A++p::B)with⟨B',he,rfl⟩ | ⟨A',rfl,he⟩
  ·rw[bl_eq]at he
   cases A with
   |nil=>cases he;exact absurd rfl hp
   |cons a A=>
    injection he with e1 e2
    exact .mk [] b bs A B' rfl (congrArg (· ::A) e1.symm) rfl e2
  ·cases ih hp he with
   |mk bs1 b' bs2 A'' B'' e eA eB et=>exact .mk (b::bs1) b' bs2 A'' B'' (congrArg (b:: ·) e) ((congrArg (bPs b++ ·) eA).trans (asc ..).symm) eB et
theorem tk_one(A:List Pair)(p:Pair)(B:List Pair)(o:Nat→Nat)(r:List Tk):tkn o (A++p::B) 0++r=tkn o A 0++(p.1,o A.length)::(tkn o B (A.length+1)++r):=by
 rw[tkn_app,asc,nx_len,Nat.zero_add];rfl
theorem heard_cut(g:Gen names bs){bs1 bs2:List Bl}{b:Bl}(e:bs=bs1++b::bs2){p:Pair}(hb:(bPs b).tail=A++p::B)(h:Spelled (wds (pO bs1++(bHd b,[])::A)) text ps){tail:List Nat}(t1:skN false tail=tail.length)(t2:rLn LF tail=0):
  heardT 5000 (text++tail)=some (.int (text++tail).length):=by
 have hP:pO bs=(pO bs1++(bHd b,[])::A)++(p::B++pO bs2):=by rw[e,ps_mid,bl_eq,hb,asc,List.cons_append,List.cons_append,asc]
 have hl:=g.len
 rw[hP,lap]at hl
 refine heard_err ?_
 rw[read_tail (fun q=>List.cons_ne_nil _ _ (List.append_eq_nil_iff.1 q).2) h (g.ck.sub fun p hp=>by rw[hP];exact List.mem_append_left _ hp) t1 t2 (by lia)]
 exact rules_bad (e▸g.g) hb _ [] _ [] (.nil _)
theorem heard_bar(g:Gen names bs){w0 s w:Wd}(hP:pO bs=A++(w0,s)::B)(hs:isNm s=true)(hw:w∈BARS)(hc:chk w=true)(h:Spelled (wds (A++(w,s)::B)) text ps):heardT 5000 text=some (.int (oOf ps A.length)):=by
 have hl:=g.len
 have hck:=g.ck
 rw[hP]at hl hck
 rw[lap,lcn]at hl
 refine heard_err ?_
 rw[read_sp (fun q=>List.cons_ne_nil _ _ (List.append_eq_nil_iff.1 q).2) h (.app (hck.sub fun p hp=>List.mem_append_left _ hp) (List.forall_mem_cons.2 ⟨hc,fun p hp=>hck p (List.mem_append_right _ (.tail _ hp))⟩)) (by rw[lap,lcn];lia),tk_one]
 cases at_block bs (p:=(w0,s)) (fun e=>by cases (e:s=[]);exact Bool.noConfusion hs) hP with
 |mk bs1 b bs2 A' B' e eA eB et=>
  cases eA
  exact rules_bad (e▸g.g) et _ w _ _ (.bar _ _ hw hs)
theorem heard_use(g:Gen names bs){u s w:Wd}(hs:isUse s=true)(hn:iNm w=true)(hc:chk w=true)(hw:w∉names)(hP:pO bs=A++(u,s)::B)(h:Spelled (wds (A++(w,s)::B)) text ps):heardT 5000 text=some (.int (oOf ps A.length)):=by
 have hg:=g.good (fun x=>x∈names∨x=w) fun n h=>.inl h
 have sw:Sw (NmP fun x=>x∈names∨x=w) (pO bs) (A++(w,s)::B):=by rw[hP];exact Sw.mid hs ⟨hn,hc,.inr rfl⟩ A
 obtain⟨bs',e1,e2,e3,e4⟩:=sw_bs bs sw hg.each
 have hlen:(pO bs').length=(pO bs).length:=by rw[←e1,hP,lap,lap];rfl
 have hg2:GoodP (fun x=>x∈names∨x=w) bs':=⟨e2,e3▸hg.nodup,e4▸hg.few,hlen▸hg.short⟩
 refine heard_err ?_
 rw[e1]at h
 rw[read_sp (by rw[←e1];exact fun q=>List.cons_ne_nil _ _ (List.append_eq_nil_iff.1 q).2) h (fun p hp=>(hg2.v p hp).chk) (hlen▸ltr g.len (bTl rfl))]
 refine rules_use hg2 hs e1.symm (by rw[e3,g.nm];exact hw) _ (e3▸use_in g.g (fun p hp=>by rw[hP];exact List.mem_append_left _ hp) _ 0) _
theorem heard_twice(g:Gen names bs){own:Wd}(ho:own∈nmO bs){s1 s2:Wd}(hB:Ck ((own,s2)::B))(hl:B.length≤100)(h:Spelled (wds (pO bs++(LKP,s1)::(own,s2)::B)) text ps):heardT 5000 text=some (.int (oOf ps ((pO bs).length+1))):=by
 have hl2:=g.len
 refine heard_err ?_
 rw[read_sp (fun q=>List.cons_ne_nil _ _ (List.append_eq_nil_iff.1 q).2) h (.app g.ck (List.forall_mem_cons.2 ⟨rfl,hB⟩)) (by rw[lap,lcn,lcn];lia),tk_one]
 exact rules_twice g.g ho _ _ _ _
theorem heard_dup(g:Gen names bs){bs1 bs2:List Bl}{D:LkD}(e:bs=bs1++.lk D::bs2){p:RD}(hp:p∈rowsL D)(hc:isCh p.2=false)(hB:Ck (rPs p.1 p.2++B))(hl:(rPs p.1 p.2++B).length≤1000)(hA:A=pO bs1++(LKP,[])::(lkHead D++rdPs (rowsL D)))(hs:Ck A)(hl2:A.length≤1000)
  (h:Spelled (wds (A++(rPs p.1 p.2++B))) text ps):heardT 5000 text=some (.int (oOf ps A.length)):=by
 have he:A++(rPs p.1 p.2++B)=(pO bs1++(LKP,[])::(lkHead D++(rdPs (rowsL D)++rPs p.1 p.2)))++B:=by
  rw[hA,asc,asc,List.cons_append,List.cons_append,asc,asc,asc]
 refine heard_err ?_
 rw[read_sp (by rw[hA];exact fun q=>List.cons_ne_nil _ _ (List.append_eq_nil_iff.1 (List.append_eq_nil_iff.1 q).1).2) h (.app hs hB) (by rw[lap];lia),he,tkn_app,asc,hA]
 exact rules_dup (e▸g.g) hp hc _ _
theorem heard_sign{ws1 ws2:List Wd}{c:Nat}(hc:c∈([33,40,64,43]:List Nat))(hok:∀x∈ws1,WOk x)(hl:ws1.length≤4000)(h:Spelled (ws1++[c]::ws2) text ps):heardT 5000 text=some (.int (oOf ps ws1.length)):=by
 have h1:∀c∈([33,40,64,43]:List Nat),(c∉BLANKS∧c≠35∧c∉LF)∧c∉LTS∧c∉FIGS∧c≠45∧c∉SIGNS:=by unfold BLANKS LF LTS FIGS SIGNS;decide
 have hx:=h1 c hc
 obtain⟨e,h1,h2⟩:=lex_bad h hok (.mk c [] hx.1.1 hx.1.2.1 fun o0=>hx.1.2.2) ⟨hx.2.1,hx.2.2.1,hx.2.2.2.1,hx.2.2.2.2⟩ hl
 refine heard_err ?_
 unfold readT
 rw[h2,oOf_at h1]
end
end
section
theorem gl_of:∀g∈GLYPHS,Gl g:=by
 show∀g∈([[97],[98],[99],[102,95,105],[120,46,97,108,116],[78,49]]:List Wd),Gl g
 exact List.forall_mem_cons.2 ⟨⟨rfl,rfl,rfl⟩,List.forall_mem_cons.2 ⟨glb,List.forall_mem_cons.2 ⟨⟨rfl,rfl,rfl⟩,List.forall_mem_cons.2 ⟨⟨rfl,rfl,rfl⟩,List.forall_mem_cons.2 ⟨glx,List.forall_mem_singleton.2 glN⟩⟩⟩⟩⟩
theorem nm_of{U:Wd→Prop}:∀n∈NAMES,U n→NmP U n:=by
 show∀n∈([[65,49],[108,105,103,97],[107,46,50]]:List Wd),U n→NmP U n
 exact List.forall_mem_cons.2 ⟨fun h=>⟨rfl,rfl,h⟩,List.forall_mem_cons.2 ⟨fun h=>⟨rfl,rfl,h⟩,List.forall_mem_singleton.2 fun h=>⟨rfl,rfl,h⟩⟩⟩
structure TagP(t:Wd):Prop where
 name:iNm t=true
 len:t.length≤4
 chk:chk t=true
theorem tag_of:∀t∈TAGS,TagP t:=by
 show∀t∈([[108,105,103,97],[107],[115,115,48,49]]:List Wd),TagP t
 exact List.forall_mem_cons.2 ⟨⟨rfl,bTl rfl,rfl⟩,List.forall_mem_cons.2 ⟨⟨rfl,bTl rfl,rfl⟩,List.forall_mem_singleton.2 ⟨rfl,bTl rfl,rfl⟩⟩⟩
theorem alt_ne:∀g∈GLYPHS.take 5,g≠[78,49]:=by
 show∀g∈([[97],[98],[99],[102,95,105],[120,46,97,108,116]]:List Wd),g≠[78,49]
 decide
section
variable{U:Wd→Prop}{names:List Wd}(hn:∀n∈names,NmP U n)
include hn
theorem okG{rd:RowD}(h:okRow names rd):okRowG U rd:=by
 cases rd with
 |single g=>exact gl_of g h
 |multi g k=>exact⟨gl_of g h.1,gl_of k h.2⟩
 |alt g=>exact⟨gl_of g (List.mem_of_mem_take h),alt_ne g h⟩
 |lig g k=>exact⟨gl_of g h.1,gl_of k h.2⟩
 |adj n=>exact h
 |pair g=>exact gl_of g h
 |chain t pre us set=>
  obtain⟨h1,u,hu,k,hk,rfl⟩:=h
  exact⟨h1.imp id fun⟨g,hg,e⟩=>⟨g,gl_of g hg,e⟩,by rw[List.length_replicate];lia,fun v hv=>(List.mem_replicate.1 hv).2▸hn u hu⟩
theorem lkG{d:LkD}(h:OkLk names d):LkG U d:=by
 refine⟨hn _ h.own,List.forall_mem_cons.2 ⟨⟨gl_of [97] (.head _),okG hn h.r0,rfl⟩,?_⟩⟩
 cases hr:d.r1 with
 |none=>exact fun o0 h=>nomatch h
 |some r=>exact List.forall_mem_singleton.2 ⟨glb,okG hn (h.r1 r hr).1,(h.r1 r hr).2⟩
theorem ftG{d:FtD}(h:OkFt names d):FtG U d:=
 have t:=tag_of _ h.tag
 ⟨t.name,t.len,t.chk,hn _ h.u0,fun u hu=>hn _ (h.u1 u hu)⟩
end
theorem lkG_len{U:Wd→Prop}{d:LkD}(h:LkG U d):(lkPs d).length≤50:=by
 have h1:=rdPs_len _ h.rows
 have h2:=rows_len d
 have h3:(flagPs d.flag).length≤2:=by cases d.flag<;>exact bTl rfl
 rw[lk_eq,lcn,lap,lap]
 show(flagPs d.flag++[([123],[])]).length+1+((rdPs (rowsL d)).length+1)+1≤50
 rw[lap]
 show(flagPs d.flag).length+1+1+((rdPs (rowsL d)).length+1)+1≤50
 lia
theorem ft_len(d:FtD):(ftPs d).length≤10:=by
 obtain⟨t,s,u,v⟩:=d
 cases s<;>cases v<;>exact bTl rfl
theorem flatLn{α β:Type}(f:α→List β)(c:Nat):∀l:List α,(∀x∈l,(f x).length≤c)→(l.flatMap f).length≤c*l.length:=by
 intro l
 induction l with
 |nil=>exact fun o0=>Nat.zero_le _
 |cons x l ih=>
  intro h
  have h1:=h x (.head _)
  have h2:=ih fun y hy=>h y (.tail _ hy)
  rw[List.flatMap_cons,lap,lcn,Nat.mul_succ]
  lia
theorem lks_names:∀l:List LkD,nmO (l.map .lk)=l.map (·.own)
 |[]=>rfl
 |d::l=>congrArg (d.own:: ·) (lks_names l)
theorem fts_names:∀l:List FtD,nmO (l.map .ft)=[]
 |[]=>rfl
 |_::l=>fts_names l
theorem flat_map{α β γ:Type}(g:α→β)(f:β→List γ):∀l:List α,(l.map g).flatMap f=l.flatMap fun a=>f (g a)
 |[]=>rfl
 |a::l=>congrArg (f (g a)++ ·) (flat_map g f l)
theorem gen_good{k:Nat}(hk:k < 3){lks:List LkD}{fts:List FtD}(h1:lks.map (·.own)=NAMES.take (1+k))(h2:∀d∈lks,OkLk (NAMES.take (1+k)) d)(h3:fts.length < 3)(h4:∀d∈fts,OkFt (NAMES.take (1+k)) d):
  ∃bs:List Bl,bs.map bPs=lks.map lkPs++fts.map ftPs∧Gen (NAMES.take (1+k)) bs:=by
 have hsub:∀n∈NAMES.take (1+k),n∈NAMES:=fun n h=>List.mem_of_mem_take h
 have hll:lks.length=1+k:=by
  have:=congrArg List.length h1
  rw[lmp,List.length_take,show NAMES.length=3 from rfl]at this
  lia
 have hnm:nmO (lks.map Bl.lk++fts.map Bl.ft)=NAMES.take (1+k):=by
  have:nmO (lks.map Bl.lk++fts.map Bl.ft)=nmO (lks.map .lk)++nmO (fts.map .ft):=by unfold nmO lksOf;rw[List.flatMap_append,mpa]
  rw[this,lks_names,fts_names,h1,apn]
 have hlen:(pO (lks.map Bl.lk++fts.map Bl.ft)).length≤170:=by
  have e1:=flatLn lkPs 50 lks fun d hd=>lkG_len (lkG (fun n hn=>nm_of n (hsub n hn) trivial) (h2 d hd))
  have e2:=flatLn ftPs 10 fts fun d o0=>ft_len d
  rw[show pO (lks.map Bl.lk++fts.map Bl.ft)=lks.flatMap lkPs++fts.flatMap ftPs by unfold pO;rw[List.flatMap_append,flat_map,flat_map];rfl,lap]
  lia
 refine⟨lks.map .lk++fts.map .ft,by rw[mpa,List.map_map,List.map_map];rfl,fun U hU=>⟨?_,?_,?_,ltr hlen (bTl rfl)⟩,hnm,hsub,hlen,?_⟩
 ·have hn:∀n∈NAMES.take (1+k),NmP U n:=fun n hn=>nm_of n (hsub n hn) (hU n hn)
  intro b hb
  rcases List.mem_append.1 hb with hb | hb
  ·obtain⟨d,hd,rfl⟩:=List.mem_map.1 hb;exact lkG hn (h2 d hd)
  ·obtain⟨d,hd,rfl⟩:=List.mem_map.1 hb;exact ftG hn (h4 d hd)
 ·rw[hnm]
  have:NAMES.Nodup:=(by decide:([[65,49],[108,105,103,97],[107,46,50]]:List Wd).Nodup)
  exact this.sublist (List.take_sublist _ _)
 ·rw[lap,lmp,lmp];lia
 ·intro e
  have:=congrArg List.length e
  rw[lap,lmp,lmp,List.length_nil]at this
  lia
noncomputable def isRow(s:Wd):Bool:=List.casesOn s false fun c o0=>Nat.beq c 114
noncomputable abbrev noRow(P:List Pair):Bool:=P.all fun p=>!isRow p.2
theorem no_row{A B P:List Pair}{w:Wd}(h:noRow P=true):P≠A++(w,sRow)::B:=fun e=>
 Bool.noConfusion (not_t (List.all_eq_true.1 h (w,sRow) (e▸List.mem_append_right _ (.head _))):true=false)
theorem noRow_use(us:List Wd):noRow (uPs us)=true:=by
 induction us with
 |nil=>rfl
 |cons u us ih=>exact ih
theorem noRow_pre(pre:List Wd):noRow (pre.map fun g=>(g,sN))=true:=by
 induction pre with
 |nil=>rfl
 |cons u us ih=>exact ih
theorem row_sRow{p:RD}{A B:List Pair}{w:Wd}(h:rPs p.1 p.2=A++(w,sRow)::B):A=[]∧isCh p.2=false:=by
 obtain⟨f,d⟩:=p
 cases d with
 |chain t pre us set=>
  refine absurd h (no_row ?_)
  show noRow ([(chKw t,sChain)]++(pre.map fun g=>(g,sN))++[(f,sN),([39],[])]++uPs us++setPs set++[([59],[])])=true
  unfold noRow
  rw[List.all_append,List.all_append,List.all_append,List.all_append,List.all_append,show(pre.map fun g=>(g,sN)).all (fun p=>!isRow p.2)=true from noRow_pre pre,show(uPs us).all (fun p=>!isRow p.2)=true from noRow_use us]
  cases set<;>rfl
 |_=>
  refine⟨?_,rfl⟩
  cases A with
  |nil=>rfl
  |cons a A=>
   injection h with _ h
   exact absurd h (no_row rfl)
inductive AtRd(L:List RD)(A B:List Pair)(w:Wd):Prop
 |mk (L1:List RD) (p:RD) (L2:List RD) (e:L=L1++p::L2) (eA:A=rdPs L1) (hc:isCh p.2=false) (eB:(w,sRow)::B=rPs p.1 p.2++rdPs L2)
theorem at_rd(L:List RD):∀{A B:List Pair} {w:Wd},rdPs L=A++(w,sRow)::B→AtRd L A B w:=by
 induction L with
 |nil=>exact fun {A B w} h=>by cases A<;>cases h
 |cons p L ih=>
  intro A B w h
  rcases split_app (h:rPs p.1 p.2++rdPs L=A++(w,sRow)::B)with⟨B',he,rfl⟩ | ⟨A',rfl,he⟩
  ·obtain⟨rfl,hc⟩:=row_sRow he
   exact .mk [] p L rfl rfl hc (congrArg (· ++rdPs L) he.symm)
  ·cases ih he with
   |mk L1 p2 L2 e eA hc eB=>exact .mk (p::L1) p2 L2 (congrArg (p:: ·) e) (congrArg (rPs p.1 p.2++ ·) eA) hc eB
inductive AtRow(bs:List Bl)(A B:List Pair)(w:Wd):Prop
 |mk (bs1:List Bl) (D:LkD) (bs2:List Bl) (L1:List RD) (p:RD) (L2:List RD) (e:bs=bs1++.lk D::bs2) (er:rowsL D=L1++p::L2) (hc:isCh p.2=false)
  (eA:A=pO bs1++(LKP,[])::(lkHead D++rdPs L1)) (eB:(w,sRow)::B=rPs p.1 p.2++(rdPs L2++([125],[])::pO bs2))
theorem at_row{bs:List Bl}{A B:List Pair}{w:Wd}(h:pO bs=A++(w,sRow)::B):AtRow bs A B w:=by
 cases at_block bs (p:=(w,sRow)) (List.cons_ne_nil _ _) h with
 |mk bs1 b bs2 A' B' e eA eB et=>
  cases eA;cases eB
  cases b with
  |ft D=>
   refine absurd et (no_row ?_)
   show noRow (ftPs D).tail=true
   rw[ft_eq]
   obtain⟨t,s,u,v⟩:=D
   cases s<;>cases v<;>rfl
  |lk D=>
   have et:(lkPs D).tail=A'++(w,sRow)::B':=et
   rw[lk_eq]at et
   rcases split_app (et:lkHead D++(rdPs (rowsL D)++[([125],[])])=A'++(w,sRow)::B')with⟨B2,he,rfl⟩ | ⟨A2,rfl,he⟩
   ·refine absurd he (no_row ?_)
    unfold lkHead
    cases D.flag<;>rfl
   ·rcases split_app he with⟨B3,h3,rfl⟩ | ⟨A3,rfl,h3⟩
    ·cases at_rd _ h3 with
     |mk L1 p L2 e2 eA2 hc eB2=>
      refine .mk bs1 D bs2 L1 p L2 e e2 hc (by rw[eA2];rfl) ?_
      rw[←List.cons_append,←List.cons_append,eB2,asc,asc];rfl
    ·exact absurd h3 (no_row rfl)
noncomputable def nbB(w:Wd):Bool:=!decide (w=[59])&&!decide (w=[125])
theorem nb_of{w:Wd}(h:nbB w=true):w≠[59]∧w≠[125]:=
 have h:=Bool.and_eq_true_iff.1 h
 ⟨of_decide_eq_false (not_t h.1),of_decide_eq_false (not_t h.2)⟩
theorem nb_name{w:Wd}(h:iNm w=true):nbB w=true:=by
 unfold nbB
 rw[decide_eq_false (name_ne h rfl:w≠[59]),decide_eq_false (name_ne h rfl:w≠[125])];rfl
theorem row_end{U:Wd→Prop}{p:RD}(hf:Gl p.1)(h:okRowG U p.2)(hc:isCh p.2=false):∃R,rPs p.1 p.2=R++[([59],[])]∧(R.all fun p=>nbB p.1)=true:=by
 obtain⟨f,d⟩:=p
 have hf:=nb_name hf.name
 cases d with
 |single g=>
  refine⟨[(SUB,sRow),(f,sN),(BY,[]),(g,sN)],rfl,?_⟩
  show(true&&(nbB f&&(true&&(nbB g&&true))))=true
  rw[hf,nb_name (h:Gl g).name];rfl
 |multi g k=>
  refine⟨[(SUB,sRow),(f,sN),(BY,[]),(g,sN),(k,sN)],rfl,?_⟩
  show(true&&(nbB f&&(true&&(nbB g&&(nbB k&&true)))))=true
  rw[hf,nb_name (h.1:Gl g).name,nb_name (h.2:Gl k).name];rfl
 |alt g=>
  refine⟨[(SUB,sRow),(f,sN),(FROM,[]),([91],[]),(g,sN),([78,49],sN),([93],[])],rfl,?_⟩
  show(true&&(nbB f&&(true&&(true&&(nbB g&&true)))))=true
  rw[hf,nb_name (h.1:Gl g).name];rfl
 |lig g k=>
  refine⟨[(SUB,sRow),(f,sN),(g,sN),(BY,[]),(k,sN)],rfl,?_⟩
  show(true&&(nbB f&&(nbB g&&(true&&(nbB k&&true)))))=true
  rw[hf,nb_name (h.1:Gl g).name,nb_name (h.2:Gl k).name];rfl
 |adj n=>
  have ha:=adj_ok n h
  refine⟨[(POS,sRow),(f,sN),(intTo n,[])],rfl,?_⟩
  show(true&&(nbB f&&((!decide (intTo n=[59])&&!decide (intTo n=[125]))&&true)))=true
  rw[hf,decide_eq_false ha.n59,decide_eq_false ha.n125];rfl
 |pair g=>
  refine⟨[(POS,sRow),(f,sN),(g,sN),([60],[]),([49],[]),([45,50],[]),([51,48],[]),([48],[]),([62],[])],rfl,?_⟩
  show(true&&(nbB f&&(nbB g&&true)))=true
  rw[hf,nb_name (h:Gl g).name];rfl
 |chain t pre us set=>exact Bool.noConfusion hc
end
section
theorem sliceFrom_k(m)(l:List V)(k:Nat):sliceO m (.v (.list l)) (some (.int k)) none=some (.v (.list (l.drop k))):=by
 cases k with
 |zero=>rfl
 |succ k=>exact sliceFrom_n m l k
theorem flat_bl(bs:List Bl):flatO (bs.map fun b=>blV (bPs b))=some ((pO bs).map prV):=by
 have h:listsOf (bs.map fun b=>blV (bPs b))=some (bs.map fun b=>(bPs b).map prV):=by
  induction bs with
  |nil=>rfl
  |cons b bs ih=>
   show(listsOf (bs.map fun b=>blV (bPs b))).map ((bPs b).map prV:: ·)=_
   rw[ih];rfl
 unfold flatO pO
 rw[h,List.map_flatMap];rfl
theorem co_words(C:CallT)(mem:List AO):∀(P:List Pair) (o0 o1 o2:Option W),At (fun r=>∃p1 p2,r=some (.ok ((wds P).map .str),⟨[o0,p1,p2],mem⟩)) (Co C [1,2] false (.bool true) (.loc 1) (P.map prV) ⟨[o0,o1,o2],mem⟩)
 |[],o0,o1,o2=>⟨o1,o2,rfl⟩
 |p::P,o0,o1,o2=>by
  obtain⟨p1,p2,h⟩:=co_words C mem P o0 (some (.v (.str p.1))) (some (.v (.str p.2)))
  refine⟨p1,p2,?_⟩
  rw[map_c,Co_cons]
  show bR (Co C [1,2] false (.bool true) (.loc 1) (P.map prV) ⟨[o0,some (.v (.str p.1)),some (.v (.str p.2))],mem⟩) (kCoA [.str p.1])=_
  rw[h];rfl
noncomputable def cellV(i:Int):V:=.int (((2:Nat):Int)*(if i < 0 then -i else i)+(if decide (i < 0)=true then 1 else 0))
noncomputable def initEnv(v:V):List (Option W):=[some (.v v),none,none,none,none,none,none,none,none,none,none,none,none,none,none,none,none]
theorem law_pen{C:CallT}{l:List Int}{T:List S}{P:R Flow→Prop}(h:At P (B C T kEnd ⟨[some (.v (.list (l.map .int))),some (.l 0),none,none,none,none,none,none,none,none,none,none,none,none,none,none,none],pm ((l.take 60).map cellV) 0 []⟩)):
  At P (B C (f_law.body.take 1++T) kEnd ⟨initEnv (.list (l.map .int)),[]⟩):=by
 have hl:((l.take 60).map cellV).length≤1000000:=by rw[lmp,List.length_take];exact ltr (Nat.min_le_left ..) (bTl rfl)
 have hs:sliceO [] (.v (.list (l.map .int))) none (some (.int 60))=some (.v (.list ((l.take 60).map .int))):=by rw[List.map_take];exact sliceTo_n [] (l.map .int) 60
 have hc:=compO_ok hl
 unfold f_law initEnv
 dsimp only[List.take_succ_cons,List.take_zero,List.cons_append,List.nil_append]
 top_raise
 refine At.comp1 (g:=cellV) Nat.one_lt_two (fun r hr P k h=>?_) ?_
 ·have h1:Option.map W.v (toIntV (.int r))=some (.v (.int r)):=rfl
  have h2:Option.map W.v (toIntV (.bool (decide (r < 0))))=some (.v (.int (if decide (r < 0)=true then 1 else 0))):=rfl
  have h3:bin2 .mul [] (.v (.int 2)) (.v (.int (if r < 0 then -r else r)))=some (.v (.int (((2:Nat):Int)*(if r < 0 then -r else r)))):=mul_nat [] (a:=2) (bTl rfl) _
  top_raise
  exact h
 ·top_raise
  exact h
noncomputable abbrev bsV(bs:List Bl):V:=.list (bs.map fun b=>blV (bPs b))
noncomputable abbrev psV(P:List Pair):V:=.list (P.map prV)
noncomputable abbrev wsV(ws:List Wd):V:=.list (ws.map .str)
noncomputable def lawEnv(scr:V)(way:Nat)(bs:List Bl)(names:List Wd)(text:Wd)(ps:List Nat)(heard:V)(o10 o11 o12 o13 o14 o15 o16:Option W):List (Option W):=
 [some (.v scr),some (.l 0),some (.v (.int way)),some (.v (bsV bs)),some (.v (wsV names)),some (.v (psV (pO bs))),some (.v (wsV (wds (pO bs)))),some (.v (.str text)),some (.v (.list (natsV ps))),some (.v heard),o10,o11,o12,o13,o14,o15,o16]
theorem words_sum:∀l:List Wd,(∀w∈l,w.length≤20)→(l.map fun x=>x.length+1).sum≤21*l.length
 |[],_=>Nat.zero_le _
 |w::l,h=>by
  have h1:=h w (.head _)
  have h2:=words_sum l fun x hx=>h x (.tail _ hx)
  rw[List.map_cons,List.sum_cons,lcn,Nat.mul_succ]
  lia
theorem join_all{ws:List Wd}(hne:ws≠[])(h:∀w∈ws,w.length≤20)(hl:ws.length≤170):∃t ps,joinO [32] (ws.map .str)=some (.v (.str t))∧Spelled ws t ps:=by
 cases ws with
 |nil=>exact absurd rfl hne
 |cons w ws=>
  obtain⟨ps,hs⟩:=join_spelled w ws
  have h1:=h w (.head _)
  have h2:=words_sum ws fun x hx=>h x (.tail _ hx)
  rw[lcn]at hl
  refine⟨_,ps,?_,hs⟩
  unfold joinO
  rw[join_str]
  refine if_pos ⟨top_le ?_,by decide⟩
  rw[lap,blanked_len]
  lia
local macro_rules (kind:=PySem.W.tacticTb_rel) | x=>alts "compO_ok:a"
theorem law_front(l:List Int){T:List S}(h:∀(c:List V) (way:Nat) (names:List Wd) (bs:List Bl) (text:Wd) (ps:List Nat) (heard:V) (a:Nat),allInt c→way < 7→Gen names bs→a≤400→
  At (Ends 0 (some (.ok (.v (.bool true)),[]))) (B (cN prog 19) T kEnd ⟨lawEnv (.list (l.map .int)) way bs names text ps heard none none none none none none none,pm c a []⟩)):
  At (Ends 0 (some (.ok (.v (.bool true)),[]))) (B (cN prog 19) (f_law.body.take 8++T) kEnd ⟨initEnv (.list (l.map .int)),[]⟩):=by
 refine law_pen (T:=(f_law.body.take 8).tail++T) ?_
 have hc:allInt ((l.take 60).map cellV):=fun v hv=>by
  obtain⟨i,_,rfl⟩:=List.mem_map.1 hv
  exact⟨_,rfl⟩
 generalize (l.take 60).map cellV=c at hc
 obtain⟨way,hw,h1⟩:=c_draw c hc 0 (Nat.zero_le _) 7 (by decide)
 cases c_blocks c hc 1 (by decide)with
 |mk k lks fts a1 hk ha1 e1 e2 e3 e4 h2=>
 obtain⟨bs,hbs,g⟩:=gen_good hk e1 e2 e3 e4
 have hlen:=g.len
 have hwn:(wds (pO bs)).length=(pO bs).length:=lmp _
 obtain⟨text,ps,a2,ha2,hsp,htl,h3⟩:=c_spelled c hc (wds (pO bs)) g.ck.len (by lia) a1 (by lia)
 obtain⟨t2,ps2,j1,j2⟩:=join_all (ws:=wds (pO bs)) (fun e=>g.ps_ne (List.map_eq_nil_iff.1 e)) g.ck.len (by lia)
 have hr:=heard_right g hsp
 have hr2:=heard_right g j2
 have hF:=h c way _ bs text ps (toldV (lksOf bs,ftsOf bs)) a2 hc hw g (by lia)
 have q1:cN prog 19 44 [.l 0,.v (.int 7)] (pm c 0 [])=some (.ok (.v (.int way)),pm c 1 []):=h1 18 []
 have q2:cN prog 19 47 [.l 0] (pm c 1 [])=some (.ok (.v (.tup [bsV bs,wsV (NAMES.take (1+k))])),pm c a1 []):=by
  have:=h2 15 []
  rw[←hbs,List.map_map]at this
  exact this
 have q3:cN prog 19 49 [.l 0,.v (wsV (wds (pO bs)))] (pm c a1 [])=some (.ok (.v (.tup [.str text,.list (natsV ps)])),pm c a2 []):=h3 16 []
 have q4:cN prog 19 50 [.v (.str text)] (pm c a2 [])=_:=c_heard 10 (pm c a2 []) hr
 have q5:cN prog 19 50 [.v (.str t2)] (pm c a2 [])=_:=c_heard 10 (pm c a2 []) hr2
 have hne:cmpW .ne (pm c a2 []) (.v (toldV (lksOf bs,ftsOf bs))) (.v (toldV (lksOf bs,ftsOf bs)))=some false:=congrArg (Option.map fun b=>!b) (told_eq bs)
 have hti:isIntV (toldV (lksOf bs,ftsOf bs))=some false:=rfl
 have hf:=flat_bl bs
 have n1:((pO bs).map prV).length≤1000000:=by rw[lmp];lia
 have n2:((wds (pO bs)).map V.str).length≤1000000:=by rw[lmp];lia
 obtain⟨p1,p2,cw⟩:=co_words (cN prog 19) (pm c a1 []) (pO bs) none none none
 generalize toldV (lksOf bs,ftsOf bs)=told at*
 unfold lawEnv at hF
 unfold f_law
 dsimp only[List.take_succ_cons,List.take_zero,List.cons_append,List.nil_append,tail_c]
 top_raise
 refine At.wi cw ?_
 top_raise
end
section
local macro_rules (kind:=PySem.W.tacticTb_rel) | x=>alts "compO_ok:a"
noncomputable abbrev t8(l:List S):List S:=l.tail.tail.tail.tail.tail.tail.tail.tail
abbrev LawEnd(r:R Flow):Prop:=Ends 0 (some (.ok (.v (.bool true)),[])) r
theorem ret_t{p:Prop}{_:Decidable p}{loc m}(h:p):At LawEnd (some (.ok (.ret (.v (.bool (decide p)))),⟨loc,m⟩)):=by
 rw[decide_eq_true h]
 exact fnv (List.take_zero ..)
theorem sum_len:∀bs:List Bl,sumV (bs.map fun b=>V.int ((bPs b).map prV).length)=some ((pO bs).length:Int)
 |[]=>rfl
 |b::bs=>by
  have h:=sum_len bs
  unfold sumV at h ⊢
  rw[map_c]
  show(((intsOf (bs.map fun b=>V.int ((bPs b).map prV).length)).map (_:: ·))).map _=_
  revert h
  cases intsOf (bs.map fun b=>V.int ((bPs b).map prV).length)with
  |none=>exact fun h=>nomatch h
  |some l=>
   intro h
   have h:some (l.foldr (· + ·) 0)=some ((pO bs).length:Int):=h
   show some ((((bPs b).map prV).length:Int)+l.foldr (· + ·) 0)=some (((bPs b++pO bs).length:Nat):Int)
   rw[Option.some.inj h,lap,lmp];rfl
noncomputable def TAILS:List Wd:=[[],[32,32],[32,35,32,125],[35,59,10],[10,10]]
structure TailP(t:Wd):Prop where
 skip:skN false t=t.length
 run:rLn LF t=0
 len:t.length≤4
theorem tails_ok:∀t∈TAILS,TailP t:=by
 show∀t∈([[],[32,32],[32,35,32,125],[35,59,10],[10,10]]:List Wd),TailP t
 have k {t:Wd} (h1:skN false t=t.length) (h2:rLn LF t=0) (h3:Nat.ble t.length 4=true):TailP t:=⟨h1,h2,bTl h3⟩
 exact List.forall_mem_cons.2 ⟨k rfl rfl rfl,List.forall_mem_cons.2 ⟨k rfl rfl rfl,List.forall_mem_cons.2 ⟨k rfl rfl rfl,List.forall_mem_cons.2 ⟨k rfl rfl rfl,List.forall_mem_singleton.2 (k rfl rfl rfl)⟩⟩⟩⟩
theorem wds_app{P Q:List Pair}:wds (P++Q)=wds P++wds Q:=mpa
theorem block_len(b:Bl):2≤(bPs b).length:=by
 cases b with
 |lk d=>show 2≤(lkPs d).length;rw[lk_eq];exact Nat.succ_le_succ (Nat.succ_le_succ (Nat.zero_le _))
 |ft d=>show 2≤(ftPs d).length;rw[ft_eq];exact Nat.succ_le_succ (Nat.succ_le_succ (Nat.zero_le _))
theorem split_at{α:Type}(l:List α)(r:Nat)(h:r < l.length):∃A x B,l=A++x::B∧A.length=r∧l.take r=A∧l[r]?=some x:=
 ⟨l.take r,l[r],l.drop (r+1),by rw[List.getElem_cons_drop,List.take_append_drop],by rw[List.length_take];lia,rfl,gqe h⟩
theorem mem_getD{α:Type}{l:List α}{k:Nat}{d:α}(h:k < l.length):l[k]?=some (l.getD k d)∧l.getD k d∈l:=by
 have e:l[k]?=some (l.getD k d):=by rw[List.getD_eq_getElem?_getD,gqe h];rfl
 exact⟨e,List.mem_of_getElem? e⟩
section
variable(c:List V)(hc:allInt c)(names:List Wd)(bs:List Bl)(g:Gen names bs)(a:Nat)(ha:a≤400)(scr:V)(text:Wd)(ps:List Nat)(heard:V)
include hc g ha
theorem law_w1:At LawEnd (B (cN prog 19) (t8 f_law.body) kEnd ⟨lawEnv scr 1 bs names text ps heard none none none none none none none,pm c a []⟩):=by
 have hbl:0 < (bs.map fun b=>blV (bPs b)).length:=by rw[lmp];exact List.length_pos_iff.2 g.ne
 obtain⟨r,hr,h1⟩:=c_draw c hc a (by lia) _ hbl
 rw[lmp]at hr
 obtain⟨bs1,b,bs2,hbs,hb1,hb2,hb3⟩:=split_at bs r hr
 have hb4:=block_len b
 have htl:(bPs b).length=(bPs b).tail.length+1:=by rw[List.length_tail];lia
 obtain⟨j,hj,h2⟩:=c_draw c hc (a+1) (by lia) (bPs b).tail.length (by lia)
 obtain⟨A,p,B0,hA,hA1,hA2,hA3⟩:=split_at (bPs b).tail j hj
 have hP:pO bs=(pO bs1++(bHd b,[])::A)++(p::B0++pO bs2):=by rw[hbs,ps_mid,bl_eq,hA,asc,List.cons_append,List.cons_append,asc]
 have hlen:=g.len
 rw[hP,lap]at hlen
 have hck:Ck (pO bs1++(bHd b,[])::A):=g.ck.sub fun q hq=>by rw[hP];exact List.mem_append_left _ hq
 have hwn:(wds (pO bs1++(bHd b,[])::A)).length=(pO bs1++(bHd b,[])::A).length:=lmp _
 obtain⟨t,ps',a2,ha2,hsp,htl2,h3⟩:=c_spelled c hc _ hck.len (by lia) (a+1+1) (by lia)
 obtain⟨k,hk,h4⟩:=c_draw c hc a2 (by lia) 5 (by decide)
 obtain⟨hts,htm⟩:=mem_getD (d:=[]) (show k < TAILS.length from hk)
 generalize TAILS.getD k []=tl at hts htm
 have ht:=tails_ok tl htm
 have hh:=heard_cut g hbs hA hsp ht.skip ht.run
 have q1:cN prog 19 44 [.l 0,.v (.int (bs.map fun b=>blV (bPs b)).length)] (pm c a [])=some (.ok (.v (.int r)),pm c (a+1) []):=h1 18 []
 have q2:cN prog 19 44 [.l 0,.v (.int (((bPs b).map prV).length - 1))] (pm c (a+1) [])=some (.ok (.v (.int j)),pm c (a+1+1) []):=by
  rw[lmp,htl,Int.natCast_add,show((1:Nat):Int)=1 from rfl,Int.add_sub_cancel];exact h2 18 []
 have q3:cN prog 19 49 [.l 0,.v (wsV (wds (pO bs1++(bHd b,[])::A)))] (pm c (a+1+1) [])=some (.ok (.v (.tup [.str t,.list (natsV ps')])),pm c a2 []):=h3 16 []
 have q4:cN prog 19 44 [.l 0,.v (.int 5)] (pm c a2 [])=some (.ok (.v (.int k)),pm c (a2+1) []):=h4 18 []
 have q5:cN prog 19 50 [.v (.str (t++tl))] (pm c (a2+1) [])=_:=c_heard 10 (pm c (a2+1) []) hh
 have s1:∀m,sliceO m (.v (bsV bs)) none (some (.int r))=some (.v (bsV bs1)):=fun m=>by rw[←hb2];unfold bsV;rw[List.map_take];exact sliceTo_n ..
 have s1:=s1 (pm c (a+1) [])
 have hl:∀b m,lenO m (.v (blV (bPs b)))=some (.v (.int ((bPs b).map prV).length)):=fun b m=>rfl
 have hll:=hl b (pm c (a+1) [])
 have hsub:subO (pm c (a+1) []) (.v (bsV bs)) (.int r)=some (.v (blV (bPs b))):=sbN _ (fun b=>blV (bPs b)) hb3
 have hsum:Option.map (fun i=>W.v (.int i)) (sumV (bs1.map fun b=>V.int ((bPs b).map prV).length))=some (.v (.int ((pO bs1).length:Int))):=by rw[sum_len];rfl
 have hcut:sliceO (pm c (a+1+1) []) (.v (wsV (wds (pO bs)))) none (some (.int (((pO bs1).length:Int)+1+j)))=some (.v (wsV (wds (pO bs1++(bHd b,[])::A)))):=by
  have e:(wds (pO bs)).take ((pO bs1).length+1+j)=wds (pO bs1++(bHd b,[])::A):=by
   rw[show(pO bs1).length+1+j=(wds (pO bs1++(bHd b,[])::A)).length by rw[lmp,lap,lcn,hA1];lia,hP]
   rw[wds_app (P:=pO bs1++(bHd b,[])::A)]
   exact List.take_left
  rw[←e];unfold wsV;rw[List.map_take];exact sliceTo_n ..
 have hT:subO (pm c (a2+1) []) (.v (.list [.str [],.str [32,32],.str [32,35,32,125],.str [35,59,10],.str [10,10]])) (.int k)=some (.v (.str tl)):=sbN _ V.str hts
 have hadd:=bin_as (pm c (a2+1) []) t tl (le_two (ltr htl2 (by decide)) (ltr ht.len (by decide)))
 have hn:(bs1.map fun b=>V.int ((bPs b).map prV).length).length≤1000000:=by
  have:=g.g.few
  rw[hbs,lap]at this
  rw[lmp];lia
 have hw:((1:Nat):Int)=1:=rfl
 unfold lawEnv t8 f_law
 dsimp only[tail_c]
 top_raise
 refine At.comp1 (g:=fun b=>V.int ((bPs b).map prV).length) (enc:=fun b=>blV (bPs b)) Nat.one_lt_two (fun b hb P k h=>?_) ?_
 ·have hl:=hl b (pm c (a+1) [])
  top_raise
  exact h
 ·top_raise
  exact ret_t rfl
end
noncomputable def sortAt(P:List Pair)(i:Nat):Wd:=((P[i]?).map (·.2)).getD []
noncomputable def spots(f:Wd→Bool)(P:List Pair):List Nat:=(List.range' 0 P.length).filter fun i=>f (sortAt P i)
noncomputable abbrev intsV(l:List Nat):List V:=l.map fun(i:Nat)=>V.int i
inductive Spot(f:Wd→Bool)(P:List Pair)(r:Nat):Prop
 |mk (A:List Pair) (w s:Wd) (B:List Pair) (e:P=A++(w,s)::B) (hf:f s=true) (hr:(spots f P)[r]?=some A.length)
theorem spot_of{f:Wd→Bool}{P:List Pair}{r:Nat}(h:r < (spots f P).length):Spot f P r:=by
 have hm:=List.mem_filter.1 (List.getElem_mem h)
 have hi:(spots f P)[r] < P.length:=by have:=List.mem_range'_1.1 hm.1;lia
 obtain⟨A,p,B,e,hl,_,hp⟩:=split_at P _ hi
 have hs:sortAt P (spots f P)[r]=p.2:=by unfold sortAt;rw[hp];rfl
 exact .mk A p.1 p.2 B e (hs▸hm.2) (by rw[hl];exact gqe h)
theorem spots_len(f:Wd→Bool)(P:List Pair):(intsV (spots f P)).length≤P.length:=by
 rw[lmp]
 exact ltr (List.length_filter_le ..) (by rw[List.length_range'];exact Nat.le_refl _)
theorem At.spots{C:CallT}{f:Wd→Bool}{cond:X}{P:List Pair}{wv:W}{mem:List AO}{loc0:List (Option W)}{γ:Type}{Q:R γ→Prop}{k:Kt (List V) γ}
  (h:∀i p,P[i]?=some p→∀(Q:R (List V)→Prop) k,At Q (k (f p.2) ⟨[none,some (.v (.int (i:Nat))),some (.v (psV P)),some wv],mem⟩)→At Q (tk C cond k ⟨[none,some (.v (.int (i:Nat))),some (.v (psV P)),some wv],mem⟩))
  (hk:At Q (k (intsV (spots f P)) ⟨loc0,mem⟩)):At Q (wiK (Co C [1] true cond (.loc 1) (intsV (List.range' 0 P.length)) ⟨[none,none,some (.v (psV P)),some wv],mem⟩) loc0 k):=by
 refine At.comp (p:=fun i=>f (sortAt P i)) (g:=fun(i:Nat)=>V.int i) (by exact bTl rfl) (fun i hi=>⟨fun Q k h2=>?_,fun o0 Q k h2=>h2⟩) hk
 have hi:i < P.length:=by have:=List.mem_range'_1.1 hi;lia
 refine h i P[i] (gqe hi) Q k ?_
 have hs:sortAt P i=(P[i]).2:=by unfold sortAt;rw[gqe hi];rfl
 rw[←hs];exact h2
theorem rng_sp{P:List Pair}(h:P.length≤1000000):rngW [.v (.int (P.map prV).length)]=some (intsV (List.range' 0 P.length)):=by
 rw[lmp,rng1_nat h,up_map]
theorem eq_nil_m(m:List AO)(l:List V):cmpW .eq (m++[.list []]) (.v (.list l)) (.l m.length)=some l.isEmpty:=by
 unfold cmpW
 rw[der_m]
 exact congrArg some (eqS_nil _)
theorem pair_s(m)(p:Pair):subO m (.v (prV p)) (.int 1)=some (.v (.str p.2)):=rfl
theorem places_sub(m){ps:List Nat}{k:Nat}(h:k < ps.length):subO m (.v (.list (natsV ps))) (.int k)=some (.v (.int (oOf ps k))):=sbN m (fun(p:Nat)=>V.int p) (at_oOf h)
theorem bar_chk:∀w∈BARS,chk w=true:=by decide+kernel
theorem c_bars(n:Nat)(mem:List AO):cN prog (n+1) 43 [] mem=some (.ok (.v (wsV BARS)),mem):=by
 refine rCl f_law_bars rfl rfl ?_
 unfold f_law_bars;top_caught
 top_raise
 exact fnv (tkA _)
theorem add_ws{m:List AO}{x y:List Wd}(h1:x.length≤1000)(h2:y.length≤1000):bin2 .add m (.v (wsV x)) (.v (wsV y))=some (.v (wsV (x++y))):=by
 unfold wsV
 rw[mpa]
 exact bin_al m _ _ (by rw[lmp,lmp];lia)
theorem to_ws{m:List AO}{x y:List Wd}{k:Nat}(h:x.length=k):sliceO m (.v (wsV (x++y))) none (some (.int k))=some (.v (wsV x)):=by
 unfold wsV
 rw[sliceTo_n,←h,←List.map_take,List.take_left]
theorem from_ws{m:List AO}{x y:List Wd}{k:Nat}(h:x.length=k):sliceO m (.v (wsV (x++y))) (some (.int k)) none=some (.v (wsV y)):=by
 unfold wsV
 rw[sliceFrom_k,←h,←List.map_drop,List.drop_left]
section
variable(c:List V)(hc:allInt c)(names:List Wd)(bs:List Bl)(g:Gen names bs)(a:Nat)(ha:a≤402)(scr:V)(way:Nat)(text:Wd)(ps:List Nat)(heard:V)
include hc g ha
theorem swap_tail{A B0:List Pair}{w0 s bad:Wd}(hP:pO bs=A++(w0,s)::B0)(hb:chk bad=true)
  (hh:∀text ps,Spelled (wds (A++(bad,s)::B0)) text ps→heardT 5000 text=some (.int (oOf ps A.length))) (T:List S) (o11 o12 o14 o15 o16:Option W):
  At LawEnd (B (cN prog 19) [.unpack [7,8] (.call 49 [(.loc 1),(.bin .add (.bin .add (.sliceTo (.loc 6) (.loc 10)) (.list false [(.loc 13)])) (.sliceFrom (.loc 6) (.bin .add (.loc 10) (.int 1))))]),.ret (.cmp .eq (.call 50 [(.loc 7)]) (.sub (.loc 8) (.loc 10)))] (kSeq (cN prog 19) T kEnd)
   ⟨lawEnv scr way bs names text ps heard (some (.v (.int A.length))) o11 o12 (some (.v (.str bad))) o14 o15 o16,pm c a [.list []]⟩):=by
 have hlen:=g.len
 have hck:=g.ck
 rw[hP]at hlen hck
 rw[lap,lcn]at hlen
 have hwn:(wds (A++(bad,s)::B0)).length=A.length+(B0.length+1):=by rw[lmp,lap];rfl
 have hck2:Ck (A++(bad,s)::B0):=.app (hck.sub fun p hp=>List.mem_append_left _ hp) (List.forall_mem_cons.2 ⟨hb,fun p hp=>hck p (List.mem_append_right _ (.tail _ hp))⟩)
 obtain⟨t,ps',a2,ha2,hsp,htl,h3⟩:=c_spelled c hc _ hck2.len (by lia) a (by lia)
 have q3:cN prog 19 49 [.l 0,.v (wsV (wds A++[bad]++wds B0))] (pm c a [.list []])=some (.ok (.v (.tup [.str t,.list (natsV ps')])),pm c a2 [.list []]):=by
  rw[asc,show wds A++([bad]++wds B0)=wds (A++(bad,s)::B0)from(wds_app (P:=A) (Q:=(bad,s)::B0)).symm];exact h3 16 [.list []]
 have q5:cN prog 19 50 [.v (.str t)] (pm c a2 [.list []])=_:=c_heard 10 (pm c a2 [.list []]) (hh t ps' hsp)
 have hpl:=places_sub (pm c a2 [.list []]) (show A.length < ps'.length by rw[sp_len hsp,lap,lcn];lia)
 have e0:wds (pO bs)=(wds A++[w0])++wds B0:=by rw[hP,wds_app,asc];rfl
 have lA:(wds A).length=A.length:=lmp _
 have e1:sliceO (pm c a [.list []]) (.v (wsV (wds (pO bs)))) none (some (.int A.length))=some (.v (wsV (wds A))):=by rw[e0,asc];exact to_ws lA
 have e2:sliceO (pm c a [.list []]) (.v (wsV (wds (pO bs)))) (some (.int ((A.length:Int)+1))) none=some (.v (wsV (wds B0))):=by rw[e0];exact from_ws (k:=A.length+1) (by rw[lap,lA];rfl)
 have e3:bin2 .add (pm c a [.list []]) (.v (wsV (wds A))) (.v (.list [.str bad]))=some (.v (wsV (wds A++[bad]))):=add_ws (y:=[bad]) (by lia) (bTl rfl)
 have e4:bin2 .add (pm c a [.list []]) (.v (wsV (wds A++[bad]))) (.v (wsV (wds B0)))=some (.v (wsV (wds A++[bad]++wds B0))):=add_ws (by rw[lap,lA,List.length_singleton];lia) (by rw[lmp];lia)
 unfold lawEnv
 top_raise
 exact ret_t rfl
end
theorem nowhere:([110,111,119,104,101,114,101]:Wd)∉NAMES:=by
 show _∉([[65,49],[108,105,103,97],[107,46,50]]:List Wd)
 decide
noncomputable def isUs(s:Wd):Bool:=memW s [sUse]
section
variable(c:List V)(hc:allInt c)(names:List Wd)(bs:List Bl)(g:Gen names bs)(a:Nat)(ha:a≤400)(scr:V)(text:Wd)(ps:List Nat)(heard:V)
include hc g ha
theorem law_w0:At LawEnd (B (cN prog 19) (t8 f_law.body) kEnd ⟨lawEnv scr 0 bs names text ps heard none none none none none none none,pm c a []⟩):=by
 have hlen:=g.len
 have hn:=ltr (spots_len isNm (pO bs)) (ltr hlen (by decide:170≤1000000))
 have hr:=rng_sp (P:=pO bs) (ltr hlen (by decide))
 have hq:=eq_nil_m (pm c a []) (intsV (spots isNm (pO bs)))
 have hw:¬((0:Nat):Int)=1:=by decide
 have hw0:((0:Nat):Int)=0:=rfl
 unfold lawEnv t8 f_law
 dsimp only[tail_c]
 top_raise
 refine At.spots (f:=isNm) (fun i p hp Q k h=>?_) ?_
 ·have h1:=sbN (pm c a []) prV hp
  have h2:=pair_s (pm c a []) p
  have h3:anyEq (.str p.2) [.str [110,97,109,101],.str [111,119,110],.str [117,115,101]]=some (isNm p.2):=anyEq_str p.2 [sN,sOwn,sUse]
  top_raise
 ·cases he:(intsV (spots isNm (pO bs))).isEmpty
  ·have hpos:0 < (intsV (spots isNm (pO bs))).length:=Nat.pos_of_ne_zero fun e=>by rw[List.length_eq_zero_iff.1 e]at he;cases he
   obtain⟨r,hr,h1⟩:=c_draw c hc a (by lia) _ hpos
   obtain⟨k,hk,h2⟩:=c_draw c hc (a+1) (by lia) 6 (by decide)
   cases spot_of (lmp (as:=spots isNm (pO bs)) _▸hr)with
   |mk A w s B0 e hf hsp=>
   obtain⟨hbs,hbm⟩:=mem_getD (d:=[]) (show k < BARS.length from hk)
   generalize BARS.getD k []=bad at hbs hbm
   have hbc:chk bad=true:=bar_chk bad hbm
   have tail:=swap_tail c hc names bs g (a+1+1) (by lia) scr 0 text ps heard e hbc (fun t ps' h=>heard_bar g e hf hbm hbc h)
   have q1:cN prog 19 44 [.l 0,.v (.int (intsV (spots isNm (pO bs))).length)] (pm c a []++[.list []])=some (.ok (.v (.int r)),pm c (a+1) [.list []]):=h1 18 [.list []]
   have q2:cN prog 19 44 [.l 0,.v (.int 6)] (pm c (a+1) [.list []])=some (.ok (.v (.int k)),pm c (a+1+1) [.list []]):=h2 18 [.list []]
   have q6:=c_bars 18 (pm c (a+1) [.list []])
   have s1:=sbN (pm c (a+1) [.list []]) (fun(i:Nat)=>V.int i) hsp
   have s2:=sbN (pm c (a+1+1) [.list []]) V.str hbs
   top_raise
   exact tail ..
  ·top_raise
   exact fnv (List.take_zero ..)
theorem law_w5:At LawEnd (B (cN prog 19) (t8 f_law.body) kEnd ⟨lawEnv scr 5 bs names text ps heard none none none none none none none,pm c a []⟩):=by
 have hlen:=g.len
 have hn:=ltr (spots_len isUs (pO bs)) (ltr hlen (by decide:170≤1000000))
 have hr:=rng_sp (P:=pO bs) (ltr hlen (by decide))
 have hq:=eq_nil_m (pm c a []) (intsV (spots isUs (pO bs)))
 have hw:¬((5:Nat):Int)=1:=by decide
 have hw0:¬((5:Nat):Int)=0:=by decide
 have hw5:((5:Nat):Int)=5:=rfl
 unfold lawEnv t8 f_law
 dsimp only[tail_c]
 top_raise
 refine At.spots (f:=isUs) (fun i p hp Q k h=>?_) ?_
 ·have h1:=sbN (pm c a []) prV hp
  have h2:=pair_s (pm c a []) p
  have h3:anyEq (.str p.2) [.str [117,115,101]]=some (isUs p.2):=anyEq_str p.2 [sUse]
  top_raise
 ·cases he:(intsV (spots isUs (pO bs))).isEmpty
  ·have hpos:0 < (intsV (spots isUs (pO bs))).length:=Nat.pos_of_ne_zero fun e=>by rw[List.length_eq_zero_iff.1 e]at he;cases he
   obtain⟨r,hr,h1⟩:=c_draw c hc a (by lia) _ hpos
   cases spot_of (lmp (as:=spots isUs (pO bs)) _▸hr)with
   |mk A w s B0 e hf hsp=>
   have hs:isUse s=true:=by rw[List.mem_singleton.1 (memW_iff.1 hf)];rfl
   have tail:=swap_tail c hc names bs g (a+1) (by lia) scr 5 text ps heard (bad:=[110,111,119,104,101,114,101]) e rfl (fun t ps' h=>heard_use g hs rfl rfl (fun h=>absurd (g.sub _ h) nowhere) e h)
   have q1:cN prog 19 44 [.l 0,.v (.int (intsV (spots isUs (pO bs))).length)] (pm c a []++[.list []])=some (.ok (.v (.int r)),pm c (a+1) [.list []]):=h1 18 [.list []]
   have s1:=sbN (pm c (a+1) [.list []]) (fun(i:Nat)=>V.int i) hsp
   top_raise
   exact tail ..
  ·top_raise
   exact fnv (List.take_zero ..)
end
open Classical in
theorem find_str(w:Wd):∀(R Z:List Wd),w∉R→((R++w::Z).map V.str).findIdx? (fun y=>eqS y (.str w))=some R.length
 |[],Z,_=>by
  show((V.str w::Z.map V.str).findIdx? _)=_
  rw[List.findIdx?_cons,if_pos (show eqS (.str w) (.str w)=true from decide_eq_true rfl)];rfl
 |x::R,Z,h=>by
  show((V.str x::(R++w::Z).map V.str).findIdx? _)=_
  rw[List.findIdx?_cons,if_neg (show¬eqS (.str x) (.str w)=true from fun q=>h ((show x=w from of_decide_eq_true q)▸.head _)),find_str w R Z fun hm=>h (.tail _ hm)];rfl
theorem index_at{m:List AO}{A R Z:List Wd}{w:Wd}{n:Nat}(h:w∉R)(hl:A.length≤1000)(hn:n=A.length)(loc:List (Option W)):
  indexM (.v (wsV (A++(R++w::Z)))) [.v (.str w),.v (.int n)] ⟨loc,m⟩=some (.ok (.v (.int ((R.length:Int)+n))),⟨loc,m⟩):=by
 subst hn
 have h2:findEq (.str w) (((A++(R++w::Z)).map V.str).drop A.length)=some (some R.length):=by
  rw[←List.map_drop,List.drop_left]
  unfold findEq
  rw[plain_str (fun w=>w) (R++w::Z),show plain dep (.str w)=true from rfl,find_str w R Z h];rfl
 have h1:∀f:Option Nat→Option W,((findEq (.str w) ((A++(R++w::Z)).map V.str)).bind fun o0=>f none)=f none:=fun f=>by
  unfold findEq
  rw[plain_str (fun w=>w) (A++(R++w::Z)),show plain dep (.str w)=true from rfl];rfl
 show retO (if 0≤(A.length:Int)∧(A.length:Int)≤top then(findEq (.str w) ((A++(R++w::Z)).map V.str)).bind fun o0=>(findEq (.str w) (((A++(R++w::Z)).map V.str).drop A.length)).bind fun k=>k.map fun k=>numW k (A.length:Int)else none) _=_
 rw[if_pos ⟨Int.natCast_nonneg _,Int.ofNat_le.2 (top_le (ltr hl (by decide)))⟩,h1 fun o0=>(findEq (.str w) (((A++(R++w::Z)).map V.str).drop A.length)).bind fun k=>k.map fun k=>numW k (A.length:Int),h2];rfl
section
variable(c:List V)(hc:allInt c)(names:List Wd)(bs:List Bl)(g:Gen names bs)(a:Nat)(ha:a≤402)(scr:V)(way:Nat)(text:Wd)(ps:List Nat)(heard:V)
include hc g ha
theorem more_tail{A M B0:List Pair}{n k:Nat}(hn:n=A.length)(hk:((way:Int)=3∧k=1)∨(¬(way:Int)=3∧k=0))(hP:pO bs=A++B0)(hM:Ck M)(hMl:M.length≤20)(hkM:k < M.length)
  (hh:∀text ps,Spelled (wds (A++(M++B0))) text ps→heardT 5000 text=some (.int (oOf ps (A.length+k)))) (T:List S) (o10 o11 o12 o13 o14:Option W):
  At LawEnd (B (cN prog 19) [.unpack [7,8] (.call 49 [(.loc 1),(.bin .add (.bin .add (.sliceTo (.loc 6) (.loc 16)) (.loc 15)) (.sliceFrom (.loc 6) (.loc 16)))]),.ret (.cmp .eq (.call 50 [(.loc 7)]) (.sub (.loc 8) (.bin .add (.loc 16) (.ite (.cmp .eq (.loc 2) (.int 3)) (.int 1) (.int 0)))))] (kSeq (cN prog 19) T kEnd)
   ⟨lawEnv scr way bs names text ps heard o10 o11 o12 o13 o14 (some (.v (wsV (wds M)))) (some (.v (.int n))),pm c a [.list []]⟩):=by
 subst hn
 have hlen:=g.len
 have hck:=g.ck
 rw[hP]at hlen hck
 rw[lap]at hlen
 have hwn:(wds (A++(M++B0))).length=A.length+(M.length+B0.length):=by rw[lmp,lap,lap]
 have hck2:Ck (A++(M++B0)):=.app (hck.sub fun p hp=>List.mem_append_left _ hp) (.app hM (hck.sub fun p hp=>List.mem_append_right _ hp))
 obtain⟨t,ps',a2,ha2,hsp,htl,h3⟩:=c_spelled c hc _ hck2.len (by lia) a (by lia)
 have q3:cN prog 19 49 [.l 0,.v (wsV (wds A++wds M++wds B0))] (pm c a [.list []])=some (.ok (.v (.tup [.str t,.list (natsV ps')])),pm c a2 [.list []]):=by
  rw[asc,←wds_app,←wds_app];exact h3 16 [.list []]
 have q5:cN prog 19 50 [.v (.str t)] (pm c a2 [.list []])=_:=c_heard 10 (pm c a2 [.list []]) (hh t ps' hsp)
 have hpl:=places_sub (pm c a2 [.list []]) (show A.length+k < ps'.length by rw[sp_len hsp,lap,lap];lia)
 have e0:wds (pO bs)=wds A++wds B0:=by rw[hP,wds_app]
 have lA:(wds A).length=A.length:=lmp _
 have lM:(wds M).length=M.length:=lmp _
 have e1:sliceO (pm c a [.list []]) (.v (wsV (wds (pO bs)))) none (some (.int A.length))=some (.v (wsV (wds A))):=by rw[e0];exact to_ws lA
 have e2:sliceO (pm c a [.list []]) (.v (wsV (wds (pO bs)))) (some (.int A.length)) none=some (.v (wsV (wds B0))):=by rw[e0];exact from_ws lA
 have e3:bin2 .add (pm c a [.list []]) (.v (wsV (wds A))) (.v (wsV (wds M)))=some (.v (wsV (wds A++wds M))):=add_ws (by lia) (by lia)
 have e4:bin2 .add (pm c a [.list []]) (.v (wsV (wds A++wds M))) (.v (wsV (wds B0)))=some (.v (wsV (wds A++wds M++wds B0))):=add_ws (by rw[lap,lA,lM];lia) (by rw[lmp];lia)
 unfold lawEnv
 top_raise
 rcases hk with⟨hw,rfl⟩ | ⟨hw,rfl⟩
 ·have hpl:subO (pm c a2 [.list []]) (.v (.list (natsV ps'))) (.int ((A.length:Int)+1))=some (.v (.int (oOf ps' (A.length+1)))):=hpl
  top_raise
  exact ret_t rfl
 ·have hpl:subO (pm c a2 [.list []]) (.v (.list (natsV ps'))) (.int ((A.length:Int)+0))=some (.v (.int (oOf ps' (A.length+0)))):=hpl
  top_raise
  exact ret_t rfl
end
noncomputable def AGAIN(own:Wd):List Pair:=[(LKP,[]),(own,sOwn),([123],[]),(SUB,[]),([97],[]),(BY,[]),([98],[]),([59],[]),([125],[])]
theorem again_ck:Ck [([123],[]),(SUB,[]),([97],[]),(BY,[]),([98],[]),([59],[]),([125],[])]:=fun p hp=>List.all_eq_true.1 (show([([123],[]),(SUB,[]),([97],[]),(BY,[]),([98],[]),([59],[]),([125],[])]:List Pair).all (fun p=>chk p.1)=true from rfl) p hp
noncomputable def isS(k s:Wd):Bool:=decide (s=k)
section
variable(c:List V)(hc:allInt c)(names:List Wd)(bs:List Bl)(g:Gen names bs)(a:Nat)(ha:a≤400)(scr:V)(text:Wd)(ps:List Nat)(heard:V)
include hc g ha
theorem law_w3:At LawEnd (B (cN prog 19) (t8 f_law.body) kEnd ⟨lawEnv scr 3 bs names text ps heard none none none none none none none,pm c a []⟩):=by
 have hlen:=g.len
 have hn:=ltr (spots_len (isS sOwn) (pO bs)) (ltr hlen (by decide:170≤1000000))
 have hr:=rng_sp (P:=pO bs) (ltr hlen (by decide))
 have hq:=eq_nil_m (pm c a []) (intsV (spots (isS sOwn) (pO bs)))
 have hw:¬((3:Nat):Int)=1:=by decide
 have hw0:¬((3:Nat):Int)=0:=by decide
 have hw5:¬((3:Nat):Int)=5:=by decide
 have hw2:¬((3:Nat):Int)=2:=by decide
 have hw3:((3:Nat):Int)=3:=rfl
 unfold lawEnv t8 f_law
 dsimp only[tail_c]
 top_raise
 refine At.spots (f:=isS sOwn) (fun i p hp Q k h=>?_) ?_
 ·have h1:=sbN (pm c a []) prV hp
  have h2:=pair_s (pm c a []) p
  top_raise
  exact h
 ·cases he:(intsV (spots (isS sOwn) (pO bs))).isEmpty
  ·have hpos:0 < (intsV (spots (isS sOwn) (pO bs))).length:=Nat.pos_of_ne_zero fun e=>by rw[List.length_eq_zero_iff.1 e]at he;cases he
   obtain⟨r,hr,h1⟩:=c_draw c hc a (by lia) _ hpos
   cases spot_of (lmp (as:=spots (isS sOwn) (pO bs)) _▸hr)with
   |mk A own s B0 e hf hsp=>
   have hs:s=sOwn:=of_decide_eq_true hf
   cases hs
   have hm:(own,sOwn)∈pO bs:=e▸List.mem_append_right _ (.head _)
   have hwo:=g.ck _ hm
   have hB:Ck ((own,sOwn)::[([123],[]),(SUB,[]),([97],[]),(BY,[]),([98],[]),([59],[]),([125],[])]):=List.forall_mem_cons.2 ⟨hwo,again_ck⟩
   have tail:=more_tail c hc names bs g (a+1) (by lia) scr 3 text ps heard (A:=pO bs) (M:=AGAIN own) (B0:=[]) (n:=(wds (pO bs)).map V.str |>.length) (by rw[lmp,lmp]) (.inl ⟨hw3,rfl⟩) (apn _).symm (List.forall_mem_cons.2 ⟨rfl,hB⟩) (bTl rfl) (bTl rfl)
    (fun t ps' h=>by rw[apn]at h;exact heard_twice g (g.ref hm rfl) hB (bTl rfl) h)
   have q1:cN prog 19 44 [.l 0,.v (.int (intsV (spots (isS sOwn) (pO bs))).length)] (pm c a []++[.list []])=some (.ok (.v (.int r)),pm c (a+1) [.list []]):=h1 18 [.list []]
   have s1:=sbN (pm c (a+1) [.list []]) (fun(i:Nat)=>V.int i) hsp
   have s2:subO (pm c (a+1) [.list []]) (.v (wsV (wds (pO bs)))) (.int A.length)=some (.v (.str own)):=sbN _ V.str (by
    rw[e,wds_app,List.getElem?_append_right (Nat.le_of_eq (lmp _)),lmp,Nat.sub_self];rfl)
   top_raise
   exact tail ..
  ·top_raise
   exact fnv (List.take_zero ..)
end
abbrev NoW(w:Wd)(P:List Pair):Prop:=∀p∈P,p.1≠w
theorem NoW.not{w:Wd}{P:List Pair}(h:NoW w P):w∉wds P:=fun hm=>
 let ⟨p,hp,e⟩:=List.mem_map.1 hm
 h p hp e
theorem NoW.app{w:Wd}{P Q:List Pair}(h1:NoW w P)(h2:NoW w Q):NoW w (P++Q):=fun p hp=>(List.mem_append.1 hp).elim (h1 p) (h2 p)
theorem no_125{U:Wd→Prop}{kw:Wd}{p:RD}(h:RdG U kw p)(hc:isChW kw=false):NoW [125] (rPs p.1 p.2):=by
 obtain⟨R,hR,hn⟩:=row_end h.gl h.ok (by rw[isCh_kw,h.kw];exact hc)
 rw[hR]
 exact .app (fun q hq=>(nb_of (List.all_eq_true.1 hn q hq)).2) (List.forall_mem_singleton.2 (by decide))
theorem no_125s{U:Wd→Prop}{kw:Wd}(hc:isChW kw=false):∀L:List RD,(∀q∈L,RdG U kw q)→NoW [125] (rdPs L)
 |[],_=>fun o0 h=>nomatch h
 |p::L,h=>.app (no_125 (h p (.head _)) hc) (no_125s hc L fun q hq=>h q (.tail _ hq))
theorem rdPs_mid{L1 L2:List RD}{p:RD}:rdPs (L1++p::L2)=rdPs L1++(rPs p.1 p.2++rdPs L2):=List.flatMap_append
section
variable(c:List V)(hc:allInt c)(names:List Wd)(bs:List Bl)(g:Gen names bs)(a:Nat)(ha:a≤400)(scr:V)(text:Wd)(ps:List Nat)(heard:V)
include hc g ha
theorem law_w2:At LawEnd (B (cN prog 19) (t8 f_law.body) kEnd ⟨lawEnv scr 2 bs names text ps heard none none none none none none none,pm c a []⟩):=by
 have hlen:=g.len
 have hn:=ltr (spots_len (isS sRow) (pO bs)) (ltr hlen (by decide:170≤1000000))
 have hr:=rng_sp (P:=pO bs) (ltr hlen (by decide))
 have hq:=eq_nil_m (pm c a []) (intsV (spots (isS sRow) (pO bs)))
 have hw:¬((2:Nat):Int)=1:=by decide
 have hw0:¬((2:Nat):Int)=0:=by decide
 have hw5:¬((2:Nat):Int)=5:=by decide
 have hw2:((2:Nat):Int)=2:=rfl
 have hw3:¬((2:Nat):Int)=3:=by decide
 unfold lawEnv t8 f_law
 dsimp only[tail_c]
 top_raise
 refine At.spots (f:=isS sRow) (fun i p hp Q k h=>?_) ?_
 ·have h1:=sbN (pm c a []) prV hp
  have h2:=pair_s (pm c a []) p
  top_raise
  exact h
 ·cases he:(intsV (spots (isS sRow) (pO bs))).isEmpty
  ·have hpos:0 < (intsV (spots (isS sRow) (pO bs))).length:=Nat.pos_of_ne_zero fun e=>by rw[List.length_eq_zero_iff.1 e]at he;cases he
   obtain⟨r,hr,h1⟩:=c_draw c hc a (by lia) _ hpos
   cases spot_of (lmp (as:=spots (isS sRow) (pO bs)) _▸hr)with
   |mk A w s B0 e hf hsp=>
   have hs:s=sRow:=of_decide_eq_true hf
   cases hs
   cases at_row e with
   |mk bs1 D bs2 L1 p L2 eb er hcp eA eB=>
   have hD:LkG (· ∈nmO bs) D:=g.g.each (.lk D) (eb▸List.mem_append_right _ (.head _))
   have hm:p∈rowsL D:=er▸List.mem_append_right _ (.head _)
   have hp:=hD.rows p hm
   have hcw:isChW (kwOf D.r0)=false:=by rw[←hp.kw,←isCh_kw];exact hcp
   obtain⟨R,hR,hRn⟩:=row_end hp.gl hp.ok hcp
   have hPA:pO bs=A++(R++([59],[])::(rdPs L2++([125],[])::pO bs2)):=by rw[e,eB,hR,asc];rfl
   have hPB:pO bs=(A++(rPs p.1 p.2++rdPs L2))++(([125],[])::pO bs2):=by rw[e,eB,asc,asc]
   have hl2:A.length+((rPs p.1 p.2).length+(rdPs L2).length)+((pO bs2).length+1)≤170:=by
    rw[hPB,lap,lap,lap,lcn]at hlen;exact hlen
   have lA:(wds A).length=A.length:=lmp _
   have w1:wds (pO bs)=wds A++(wds R++[59]::wds (rdPs L2++([125],[])::pO bs2)):=by rw[hPA,wds_app,wds_app];rfl
   have w2:wds (pO bs)=wds A++(wds (rPs p.1 p.2++rdPs L2)++[125]::wds (pO bs2)):=by rw[hPB,wds_app,wds_app,asc];rfl
   have i1:=index_at (m:=pm c (a+1) [.list []]) (Z:=wds (rdPs L2++([125],[])::pO bs2)) (NoW.not (w:=[59]) (P:=R) fun q hq=>(nb_of (List.all_eq_true.1 hRn q hq)).1) (by lia:(wds A).length≤1000) lA.symm
   have i2:=index_at (m:=pm c (a+1) [.list []]) (Z:=wds (pO bs2)) (NoW.not (w:=[125]) (P:=rPs p.1 p.2++rdPs L2) (.app (no_125 hp hcw) (no_125s hcw L2 fun q hq=>hD.rows q (er▸List.mem_append_right _ (.tail _ hq))))) (by lia:(wds A).length≤1000) lA.symm
   rw[←w1]at i1
   rw[←w2]at i2
   have hRl:(rPs p.1 p.2).length=R.length+1:=by rw[hR,lap];rfl
   have hcut:sliceO (pm c (a+1) [.list []]) (.v (wsV (wds (pO bs)))) (some (.int A.length)) (some (.int (((wds R).length:Int)+A.length+1)))=some (.v (wsV (wds (rPs p.1 p.2)))):=by
    have e1:(wds R).length=R.length:=lmp _
    rw[e1,show(R.length:Int)+A.length+1=((R.length+A.length:Nat):Int)+1 from rfl]
    unfold wsV
    rw[slice_n,show wds (pO bs)=wds A++(wds (rPs p.1 p.2)++wds (rdPs L2++([125],[])::pO bs2)) by rw[e,eB,wds_app,wds_app]]
    unfold cut
    rw[←List.map_drop,←lA,List.drop_left,←List.map_take,show R.length+(wds A).length+1 - (wds A).length=(wds (rPs p.1 p.2)).length by have:(wds (rPs p.1 p.2)).length=(rPs p.1 p.2).length:=lmp _;rw[this,hRl];lia,List.take_left]
   have hA2:A++(rPs p.1 p.2++rdPs L2)=pO bs1++(LKP,[])::(lkHead D++rdPs (rowsL D)):=by rw[eA,er,rdPs_mid,asc,List.cons_append,asc]
   have hck:=g.ck
   rw[hPB]at hck
   have hrl:=rowG_len p.1 p.2 hp.ok
   have hM:Ck (rPs p.1 p.2):=hck.sub fun q hq=>List.mem_append_left _ (List.mem_append_right _ (List.mem_append_left _ hq))
   have tail:=more_tail c hc names bs g (a+1) (by lia) scr 2 text ps heard (A:=A++(rPs p.1 p.2++rdPs L2)) (M:=rPs p.1 p.2) (B0:=([125],[])::pO bs2) (n:=(wds (rPs p.1 p.2++rdPs L2)).length+A.length) (by rw[lap,Nat.add_comm];exact congrArg (A.length+ ·) (lmp _)) (.inr ⟨hw3,rfl⟩) hPB hM hrl (by lia)
    (fun t ps' h=>heard_dup g eb hm hcp (.app hM (hck.sub fun q hq=>List.mem_append_right _ hq)) (by rw[lap,lcn];lia) hA2 (hck.sub fun q hq=>List.mem_append_left _ hq) (by rw[lap,lap];lia) h)
   have q1:cN prog 19 44 [.l 0,.v (.int (intsV (spots (isS sRow) (pO bs))).length)] (pm c a []++[.list []])=some (.ok (.v (.int r)),pm c (a+1) [.list []]):=h1 18 [.list []]
   have s1:=sbN (pm c (a+1) [.list []]) (fun(i:Nat)=>V.int i) hsp
   top_raise
   refine At.bnd (i1 _) ?_
   top_raise
   refine At.bnd (i2 _) ?_
   top_raise
   exact tail ..
  ·top_raise
   exact fnv (List.take_zero ..)
end
noncomputable def ODD:List Nat:=[33,40,64,43]
section
variable(c:List V)(hc:allInt c)(names:List Wd)(bs:List Bl)(g:Gen names bs)(a:Nat)(ha:a≤400)(scr:V)(text:Wd)(ps:List Nat)(heard:V)
include hc g ha
theorem law_w46(way:Nat)(h1:¬(way:Int)=1)(h0:¬(way:Int)=0)(h5:¬(way:Int)=5)(h2:¬(way:Int)=2)(h3:¬(way:Int)=3):At LawEnd (B (cN prog 19) (t8 f_law.body) kEnd ⟨lawEnv scr way bs names text ps heard none none none none none none none,pm c a []⟩):=by
 have hlen:=g.len
 have hpos:0 < ((wds (pO bs)).map V.str).length:=by rw[lmp,lmp];exact List.length_pos_iff.2 g.ps_ne
 obtain⟨r,hr,d1⟩:=c_draw c hc a (by lia) _ hpos
 obtain⟨k,hk,d2⟩:=c_draw c hc (a+1) (by lia) 4 (by decide)
 rw[lmp,lmp]at hr
 obtain⟨A,p,B0,e,lA,_,_⟩:=split_at (pO bs) r hr
 obtain⟨hts,htm⟩:=mem_getD (d:=0) (show k < ODD.length from hk)
 generalize ODD.getD k 0=ch at hts htm
 have hck:=g.ck
 rw[e]at hlen hck
 rw[lap,lcn]at hlen
 have ckA:Ck A:=hck.sub fun p hp=>List.mem_append_left _ hp
 have ckB:Ck (p::B0):=hck.sub fun p hp=>List.mem_append_right _ hp
 have wA:(wds A).length=A.length:=lmp _
 have wB:(wds (p::B0)).length=B0.length+1:=lmp _
 have hwn:(wds A++[ch]::wds (p::B0)).length=A.length+(B0.length+1+1):=by rw[lap,lcn,wA,wB]
 have hwl:∀w∈wds A++[ch]::wds (p::B0),w.length≤20:=fun w hw=>(List.mem_append.1 hw).elim (ckA.len w) fun hw=>(List.mem_cons.1 hw).elim (fun h=>h▸bTl rfl) (ckB.len w)
 obtain⟨t,ps',a2,ha2,hsp,htl,d3⟩:=c_spelled c hc _ hwl (by lia) (a+1+1) (by lia)
 have hh:=heard_sign htm ckA.wok (by lia) hsp
 have q1:cN prog 19 44 [.l 0,.v (.int ((wds (pO bs)).map V.str).length)] (pm c a [])=some (.ok (.v (.int r)),pm c (a+1) []):=d1 18 []
 have q2:cN prog 19 44 [.l 0,.v (.int 4)] (pm c (a+1) [])=some (.ok (.v (.int k)),pm c (a+1+1) []):=d2 18 []
 have q3:cN prog 19 49 [.l 0,.v (wsV (wds A++[[ch]]++wds (p::B0)))] (pm c (a+1+1) [])=some (.ok (.v (.tup [.str t,.list (natsV ps')])),pm c a2 []):=by
  rw[asc];exact d3 16 []
 have q5:cN prog 19 50 [.v (.str t)] (pm c a2 [])=_:=c_heard 10 (pm c a2 []) hh
 have hpl:=places_sub (pm c a2 []) (show r < ps'.length by rw[spelled_len hsp,hwn];lia)
 have e0:wds (pO bs)=wds A++wds (p::B0):=by rw[e,wds_app]
 have e1:sliceO (pm c (a+1) []) (.v (wsV (wds (pO bs)))) none (some (.int r))=some (.v (wsV (wds A))):=by rw[e0];exact to_ws (wA.trans lA)
 have e2:sliceO (pm c (a+1+1) []) (.v (wsV (wds (pO bs)))) (some (.int r)) none=some (.v (wsV (wds (p::B0)))):=by rw[e0];exact from_ws (wA.trans lA)
 have s2:subO (pm c (a+1+1) []) (.v (.str [33,40,64,43])) (.int k)=some (.v (.str [ch])):=by
  show((idx (k:Int) ODD.length).bind fun k=>ODD[k]?.map fun c=>V.str [c]).map W.v=_
  rw[idx_nat (n:=ODD.length) hk,Option.bind_some,hts];rfl
 have e3:bin2 .add (pm c (a+1+1) []) (.v (wsV (wds A))) (.v (.list [.str [ch]]))=some (.v (wsV (wds A++[[ch]]))):=add_ws (y:=[[ch]]) (by lia) (bTl rfl)
 have e4:bin2 .add (pm c (a+1+1) []) (.v (wsV (wds A++[[ch]]))) (.v (wsV (wds (p::B0))))=some (.v (wsV (wds A++[[ch]]++wds (p::B0)))):=add_ws (by rw[lap,wA,List.length_singleton];lia) (by lia)
 unfold lawEnv t8 f_law
 dsimp only[tail_c]
 top_raise
 exact ret_t (by rw[wA,lA])
end
theorem law_all(l:List Int)(hl:l.length≤63):∃mem,cN prog 20 51 [.v (.list (l.map .int))] []=some (.ok (.v (.bool true)),mem):=by
 refine⟨[],rCl f_law rfl rfl ?_⟩
 refine law_front l (T:=t8 f_law.body) fun c way names bs text ps heard a hc hw g ha=>?_
 match way,hw with
 |0,_=>exact law_w0 c hc names bs g a ha _ text ps heard
 |1,_=>exact law_w1 c hc names bs g a ha _ text ps heard
 |2,_=>exact law_w2 c hc names bs g a ha _ text ps heard
 |3,_=>exact law_w3 c hc names bs g a ha _ text ps heard
 |4,_=>exact law_w46 c hc names bs g a ha _ text ps heard 4 (by decide) (by decide) (by decide) (by decide) (by decide)
 |5,_=>exact law_w5 c hc names bs g a ha _ text ps heard
 |6,_=>exact law_w46 c hc names bs g a ha _ text ps heard 6 (by decide) (by decide) (by decide) (by decide) (by decide)
 |n+7,h=>exact absurd h (Nat.not_lt_of_le (Nat.le_add_left 7 n))
end
open PySem PySem.W PyProof.Rows
section
structure Tab where
 K:Params→Frag
 prog:Program
 cls:Nat→Addr
 fld:Nat→Str
 mth:Nat→Str
 fn:Nat→Addr
 gname:Nat→Str
 exc:Addr
 fname:Nat→Str
 cname:Nat→Str
 ename:Str
 old:Addr→Bool
noncomputable def fnAddrs:List Nat:=[78,83,88,109,114,121,149,156,163,170,191,198,212,219,226,233,240,254,261,268,275,282,289,296,303,310,317,331,338,345,352,357,364,369,374,379,384,391,398,403,410,417,424,432,439,446,451,456,463,470,477,482]
noncomputable def clsAddrs:List Nat:=[91,131,173,201,320]
noncomputable def fldNames:List Str:=(["at", "lookups", "features", "name", "flag", "rows", "kind", "parts", "tag", "script", "language", "words", "names"]:List String).map Str.ofString
noncomputable def mthNames:List Str:=(["told", "lookup_named", "kind", "word", "left", "fault", "take", "skip", "need", "name", "glyph", "number", "tag"]:List String).map Str.ofString
noncomputable def globNames:List Str:=(["WORDS", "LETTERS", "FIGURES", "SIGNS", "BLANKS", "LINE_ENDS", "MOST_SIGNS", "MOST_FLAG", "MOST_VALUE", "_law_glyphs"]:List String).map Str.ofString
noncomputable def fnNames:List Str:=(["", "", "", "", "", "", "", "", "", "", "", "", "run_end", "skipped", "word_end", "words_of_text", "is_name", "", "", "", "", "", "", "", "", "", "", "read_glyph_set", "read_item", "starts_item", "read_items", "chain_row", "read_names", "is_marked", "read_substitution_row", "read_worth", "read_position_row", "refuse_sets", "read_row", "check_row", "read_lookup", "read_feature", "read_rules", "_law_bars", "_law_draw", "_law_glyph", "_law_row", "_law_blocks", "_law_gap", "_law_spelled", "_law_heard", "law"]:List String).map Str.ofString
noncomputable def clsNames:List Str:=(["RuleTree", "LookupBlock", "RuleRow", "FeatureRow", "RuleReader"]:List String).map Str.ofString
noncomputable def TT:Tab:=⟨K0,prog0,fun k=>clsAddrs.getD k 0,fun k=>fldNames.getD k "",fun k=>mthNames.getD k "",fun k=>fnAddrs.getD k 0,fun k=>globNames.getD k "",61,fun k=>fnNames.getD k "",fun k=>clsNames.getD k "", "RuleFault",fun a=>Nat.blt a 484⟩
end
section
abbrev BH:=Addr→Option Obj
noncomputable def BH.Le(B B':BH):Prop:=∀a o,B a=some o→B' a=some o
theorem BH.Le.refl(B:BH):BH.Le B B:=fun o0 o0 h=>h
theorem BH.Le.trans{B B' B'':BH}(x:BH.Le B B')(y:BH.Le B' B''):BH.Le B B'':=fun a o h=>y a o (x a o h)
noncomputable def addK(K:BH)(a:Addr)(o:Obj):BH:=fun b=>if b=a then some o else K b
theorem aKs{K:BH}{a:Addr}{o:Obj}:addK K a o a=some o:=if_pos rfl
theorem aKn{K:BH}{a b:Addr}{o:Obj}(h:b≠a):addK K a o b=K b:=if_neg h
theorem aBn{α:Type}{p:Prop}{e:Option α}{x:α}(h:e=none)(h':e=some x):p:=nomatch h.symm.trans h'
theorem addK_le{K:BH}{a:Addr}{o:Obj}(h:K a=none):BH.Le K (addK K a o):=fun b ob e=>(aKn fun q=>aBn h (q▸e)).trans e
noncomputable def names(c:Nat):List Str:=(prog.cls[c]?.elim [] ClsDef.fields).map TT.fld
noncomputable def fmap(ns:List Str)(ws:List (Option Value))(y:Str):Option Value:=((ns.zip ws).lookup y).join
inductive TupP(B:BH)(R:List Value→Prop)(len:Nat)(v:Value):Prop
 |mk (a:Addr) (o:Obj) (vs:Array Value) (n:Nat) (e:v=.ref a) (hb:B a=some o) (cls:o.cls=.type "tuple") (dat:o.data=.seq vs n) (reps:R vs.toList) (len:len≤sizeLine)
inductive ListP(B:BH)(R:List Value→Prop)(len:Nat)(v:Value):Prop
 |mk (a:Addr) (o:Obj) (vs:Array Value) (n:Nat) (e:v=.ref a) (hb:B a=some o) (cls:o.cls=.type "list") (dat:o.data=.seq vs n) (reps:R vs.toList) (len:len≤sizeLine) (dict:o.dict=none)
inductive StrP(l:List Nat)(v:Value):Prop
 |mk (s:Str) (t:Tok) (e:v=.str s t) (cps:s.cps.toList=l) (len:l.length≤sizeLine) (ok:PyData.strOk s=true)
inductive IntP(i:Int)(v:Value):Prop
 |mk (t:Tok) (e:v=.int i t)
inductive NsP(B:BH)(x:Addr)(o:Obj)(d:Addr)(es:Array DictEntry):Prop
 |mk (od:Obj) (n:Nat) (dict:o.dict=some d) (ne:d≠x) (hd:B d=some od) (dat:od.data=.dict es n) (sk:StrKeys es) (uk:UniqKeys es)
inductive InstP(B:BH)(c:Nat)(R:List Value→Prop)(len:Nat)(v:Value):Prop
 |mk (x d:Addr) (o:Obj) (es:Array DictEntry) (vs:List Value) (e:v=.ref x) (hb:B x=some o) (cls:o.cls=.ref (TT.cls c)) (dat:o.data=.plain) (ns:NsP B x o d es) (reps:R vs) (len:len=(names c).length) (at_:∀y,nsFind es y=fmap (names c) (vs.map some) y)
inductive ExcP(B:BH)(R:Value→Prop)(v:Value):Prop
 |mk (x d:Addr) (o:Obj) (es:Array DictEntry) (w:Value) (vs:Array Value) (e:v=.ref x) (hb:B x=some o) (cls:o.cls=.ref TT.exc) (dat:o.data=.fields vs) (size:vs.size=6) (new:TT.old x=false) (ns:NsP B x o d es) (at_:nsFind es (TT.fld 0)=some w) (rep:R w)
inductive ConsP(R:Value→Prop)(Rs:List Value→Prop)(vs:List Value):Prop
 |mk (v:Value) (r:List Value) (e:vs=v::r) (h:R v) (t:Rs r)
noncomputable def Rep(B:BH):V→Value→Prop:=V.rec (motive_1:=fun o0=>Value→Prop) (motive_2:=fun o0=>List Value→Prop)
 (fun v=>v=.none) (fun b v=>v=.bool b) IntP StrP (fun l R=>TupP B R l.length) (fun l R=>ListP B R l.length) (fun c l R=>InstP B c R l.length) (fun o0 R=>ExcP B R) (fun vs=>vs=[]) (fun o0 o0 R Rs=>ConsP R Rs)
noncomputable def Reps(B:BH):List V→List Value→Prop:=V.rec_1 (motive_1:=fun o0=>Value→Prop) (motive_2:=fun o0=>List Value→Prop)
 (fun v=>v=.none) (fun b v=>v=.bool b) IntP StrP (fun l R=>TupP B R l.length) (fun l R=>ListP B R l.length) (fun c l R=>InstP B c R l.length) (fun o0 R=>ExcP B R) (fun vs=>vs=[]) (fun o0 o0 R Rs=>ConsP R Rs)
theorem NsP.mono{B B':BH}(h:BH.Le B B'){x:Addr}{o:Obj}{d:Addr}{es:Array DictEntry}:NsP B x o d es→NsP B' x o d es
 |.mk od n e1 e2 e3 e4 e5 e6=>.mk od n e1 e2 (h _ _ e3) e4 e5 e6
section
variable{B B':BH}(h:BH.Le B B'){R R':List Value→Prop}(k:∀vs,R vs→R' vs){n c:Nat}{v:Value}
include h k
theorem TupP.mono:TupP B R n v→TupP B' R' n v | .mk a o vs n e hb e1 e2 r l=>.mk a o vs n e (h _ _ hb) e1 e2 (k _ r) l
theorem ListP.mono:ListP B R n v→ListP B' R' n v | .mk a o vs n e hb e1 e2 r l d=>.mk a o vs n e (h _ _ hb) e1 e2 (k _ r) l d
theorem InstP.mono:InstP B c R n v→InstP B' c R' n v | .mk x d o es vs e hb e1 e2 ns r l f=>.mk x d o es vs e (h _ _ hb) e1 e2 (ns.mono h) (k _ r) l f
end
theorem ExcP.mono{B B':BH}(h:BH.Le B B'){R R':Value→Prop}(k:∀v,R v→R' v){v:Value}:ExcP B R v→ExcP B' R' v
 |.mk x d o es w vs e hb e1 e2 e3 e4 ns f r=>.mk x d o es w vs e (h _ _ hb) e1 e2 e3 e4 (ns.mono h) f (k _ r)
theorem ConsP.mono{R R':Value→Prop}{Rs Rs':List Value→Prop}(k:∀v,R v→R' v)(k':∀v,Rs v→Rs' v){vs:List Value}:ConsP R Rs vs→ConsP R' Rs' vs
 |.mk v r e h t=>.mk v r e (k _ h) (k' _ t)
section
variable{B B':BH}(h:BH.Le B B')
include h
theorem Rep.mono{x:V}:∀{v:Value},Rep B x v→Rep B' x v:=fun {v}=>V.rec (motive_1:=fun x=>∀v,Rep B x v→Rep B' x v) (motive_2:=fun l=>∀vs,Reps B l vs→Reps B' l vs)
 (fun o0 r=>r) (fun o0 o0 r=>r) (fun o0 o0 r=>r) (fun o0 o0 r=>r) (fun o0 i o0=>TupP.mono h i) (fun o0 i o0=>ListP.mono h i) (fun o0 o0 i o0=>InstP.mono h i) (fun o0 i o0=>ExcP.mono h i) (fun o0 r=>r) (fun o0 o0 i j o0=>ConsP.mono i j) x v
theorem Reps.mono{l:List V}:∀{vs:List Value},Reps B l vs→Reps B' l vs:=fun {vs}=>List.rec (motive:=fun l=>∀vs,Reps B l vs→Reps B' l vs) (fun o0 r=>r) (fun x o0 j o0=>ConsP.mono (fun o0=>Rep.mono h) j) l vs
end
section
variable{B:BH}{x:V}{v:Value}{l l':List V}{vs vs':List Value}
theorem Reps.nil:Reps B [] []:=rfl
theorem Reps.cons(h:Rep B x v)(r:Reps B l vs):Reps B (x::l) (v::vs):=.mk v vs rfl h r
theorem Reps.one(h:Rep B x v):Reps B [x] [v]:=.cons h .nil
theorem Reps.ind{p:List V→List Value→Prop}(h0:p [] [])(hs:∀x l v vs,Rep B x v→Reps B l vs→p l vs→p (x::l) (v::vs)):∀{l vs},Reps B l vs→p l vs:=fun {l}=>
 List.rec (motive:=fun l=>∀{vs},Reps B l vs→p l vs) (fun e=>e▸h0) (fun x l i o0 r=>ConsP.casesOn (motive:=fun o0=>p _ _) r fun v vs e h t=>e▸hs x l v vs h t (i t)) l
theorem Reps.length(r:Reps B l vs):vs.length=l.length:=r.ind (p:=fun l vs=>vs.length=l.length) rfl fun o0 o0 o0 o0 o0 o0 i=>congrArg Nat.succ i
theorem Reps.append(r:Reps B l vs)(r':Reps B l' vs'):Reps B (l++l') (vs++vs'):=r.ind (p:=fun l vs=>Reps B (l++l') (vs++vs')) r' fun o0 o0 o0 o0 h o0 i=>i.cons h
inductive GetP(R:Value→Prop)(o:Option Value):Prop | mk (v:Value) (e:o=some v) (h:R v)
theorem Reps.get(r:Reps B l vs):∀{i:Nat},l[i]?=some x→GetP (Rep B x) vs[i]?:=r.ind (p:=fun l vs=>∀{i:Nat},l[i]?=some x→GetP (Rep B x) vs[i]?) (fun {i} e=>nomatch e)
 fun y l v vs h o0 ih i=>Nat.casesOn (motive:=fun i=>(y::l)[i]?=some x→GetP (Rep B x) (v::vs)[i]?) i (fun e=>.mk v rfl (Option.some.inj e▸h)) fun i e=>ih e
theorem Reps.take(n:Nat)(r:Reps B l vs):Reps B (l.take n) (vs.take n):=r.ind (p:=fun l vs=>∀n,Reps B (l.take n) (vs.take n)) (fun n=>Nat.casesOn n rfl fun o0=>rfl)
 (fun o0 o0 o0 o0 h o0 i n=>Nat.casesOn n .nil fun n=>(i n).cons h) n
theorem Reps.drop(n:Nat)(r:Reps B l vs):Reps B (l.drop n) (vs.drop n):=r.ind (p:=fun l vs=>∀n,Reps B (l.drop n) (vs.drop n)) (fun n=>Nat.casesOn n rfl fun o0=>rfl)
 (fun o0 o0 o0 o0 h t i n=>Nat.casesOn n (t.cons h) i) n
theorem Reps.set(n:Nat)(r:Reps B l vs)(hx:Rep B x v):Reps B (l.set n x) (vs.set n v):=r.ind (p:=fun l vs=>∀n,Reps B (l.set n x) (vs.set n v)) (fun n=>rfl)
 (fun o0 o0 o0 o0 h t i n=>Nat.casesOn n (t.cons hx) fun n=>(i n).cons h) n
end
structure Gh where
 B:BH
 φ:List Addr
structure Gh.Le(g g':Gh):Prop where
 B:BH.Le g.B g'.B
 φ:∀(i:Nat) (a:Addr),g.φ[i]?=some a→g'.φ[i]?=some a
theorem Gh.Le.refl(g:Gh):Gh.Le g g:=⟨BH.Le.refl _,fun o0 o0 h=>h⟩
theorem Gh.Le.trans{a b c:Gh}(x:Gh.Le a b)(y:Gh.Le b c):Gh.Le a c:=⟨x.1.trans y.1,fun i a h=>y.2 i a (x.2 i a h)⟩
inductive LocP(g:Gh)(i:Nat)(v:Value):Prop | mk (a:Addr) (at_:g.φ[i]?=some a) (e:v=.ref a)
inductive OpnP(g:Gh)(c i:Nat)(v:Value):Prop
 |mk (a x:Addr) (o:Obj) (at_:g.φ[i]?=some a) (e:v=.ref x) (hb:g.B x=some o) (cls:o.cls=.ref (TT.cls c)) (dict:o.dict=some a) (dat:o.data=.plain) (ne:a≠x)
noncomputable def RepW(g:Gh):W→Value→Prop:=W.rec (motive:=fun o0=>Value→Prop) (Rep g.B) (LocP g) (OpnP g)
inductive SomP(R:Value→Prop)(w:Option Value):Prop | mk (v:Value) (e:w=some v) (h:R v)
noncomputable def RepO(g:Gh):Option W→Option Value→Prop:=Option.rec (motive:=fun o0=>Option Value→Prop) (fun o0=>True) fun x=>SomP (RepW g x)
inductive All2{α β:Type}(R:α→β→Prop):List α→List β→Prop
 |nil:All2 R [] []
 |cons {a:α} {b:β} {l:List α} {l':List β} (h:R a b) (r:All2 R l l'):All2 R (a::l) (b::l')
theorem All2.mono{α β:Type}{R R':α→β→Prop}(k:∀a b,R a b→R' a b){l:List α}{l':List β}(r:All2 R l l'):All2 R' l l':=All2.rec (motive:=fun l l' o0=>All2 R' l l') .nil (fun h o0 i=>.cons (k _ _ h) i) r
theorem All2.length{α β:Type}{R:α→β→Prop}{l:List α}{l':List β}(r:All2 R l l'):l'.length=l.length:=by
 induction r with
 |nil=>rfl
 |cons _ _ i=>exact congrArg Nat.succ i
inductive GetA{β:Type}(R:β→Prop)(o:Option β):Prop | mk (v:β) (e:o=some v) (h:R v)
theorem All2.get{α β:Type}{R:α→β→Prop}{l:List α}{l':List β}(r:All2 R l l'){x:α}:∀{i:Nat},l[i]?=some x→GetA (R x) l'[i]?:=
 All2.rec (motive:=fun l l' o0=>∀{i:Nat},l[i]?=some x→GetA (R x) l'[i]?) (fun {i} e=>nomatch e)
  (fun {a b l l'} h o0 ih {i}=>Nat.casesOn (motive:=fun i=>(a::l)[i]?=some x→GetA (R x) (b::l')[i]?) i (fun e=>.mk b rfl (Option.some.inj e▸h)) fun i e=>ih e) r
theorem All2.set{α β:Type}{R:α→β→Prop}{l:List α}{l':List β}(n:Nat){a:α}{b:β}(r:All2 R l l')(h:R a b):All2 R (l.set n a) (l'.set n b):=
 All2.rec (motive:=fun l l' o0=>∀n,All2 R (l.set n a) (l'.set n b)) (fun o0=>.nil) (fun h' r i n=>Nat.casesOn n (.cons h r) fun n=>.cons h' (i n)) r n
theorem All2.append{α β:Type}{R:α→β→Prop}{l l2:List α}{l' l2':List β}(r:All2 R l l')(r2:All2 R l2 l2'):All2 R (l++l2) (l'++l2'):=
 All2.rec (motive:=fun l l' o0=>All2 R (l++l2) (l'++l2')) r2 (fun h o0 i=>.cons h i) r
theorem All2.replicate{α β:Type}{R:α→β→Prop}{a:α}{b:β}(h:R a b)(n:Nat):All2 R (List.replicate n a) (List.replicate n b):=Nat.rec .nil (fun o0 i=>.cons h i) n
abbrev RepsO(g:Gh):=All2 (RepO g)
abbrev RepsW(g:Gh):=All2 (RepW g)
section
variable{g g':Gh}(h:Gh.Le g g')
include h
theorem LocP.mono{i:Nat}{v:Value}:LocP g i v→LocP g' i v | .mk a e q=>.mk a (h.2 _ _ e) q
theorem OpnP.mono{c i:Nat}{v:Value}:OpnP g c i v→OpnP g' c i v | .mk a x o e q hb e1 e2 e3 e4=>.mk a x o (h.2 _ _ e) q (h.1 _ _ hb) e1 e2 e3 e4
theorem RepW.mono{x:W}{v:Value}:RepW g x v→RepW g' x v:=W.casesOn (motive:=fun x=>RepW g x v→RepW g' x v) x (fun o0=>Rep.mono h.1) (fun o0=>LocP.mono h) fun o0 o0=>OpnP.mono h
theorem RepO.mono{x:Option W}{w:Option Value}:RepO g x w→RepO g' x w:=Option.casesOn (motive:=fun x=>RepO g x w→RepO g' x w) x (fun o0=>trivial) fun o0=>fun | .mk v e r=>.mk v e (r.mono h)
theorem RepsO.mono{l:List (Option W)}{ws:List (Option Value)}(r:RepsO g l ws):RepsO g' l ws:=All2.mono (fun o0 o0=>RepO.mono h) r
theorem RepsW.mono{l:List W}{ws:List Value}(r:RepsW g l ws):RepsW g' l ws:=All2.mono (fun o0 o0=>RepW.mono h) r
end
inductive OList(g:Gh)(h:Heap)(a:Addr)(l:List V):Prop
 |mk (o:Obj) (vs:Array Value) (n:Nat) (e:h.get? a=some o) (cls:o.cls=.type "list") (dat:o.data=.seq vs n) (reps:Reps g.B l vs.toList) (len:l.length≤top) (dict:o.dict=none)
inductive OObj(g:Gh)(h:Heap)(i:Nat)(a:Addr)(c:Nat)(fs:List (Option W)):Prop
 |mk (ws:List (Option Value)) (ns:h.Ns1 a (fmap (names c) ws)) (reps:RepsO g fs ws) (len:fs.length=(names c).length) (old:∀w,some w∈fs→okField i w=true)
noncomputable def ORep(g:Gh)(h:Heap)(i:Nat)(a:Addr):AO→Prop:=AO.rec (motive:=fun o0=>Prop) (OList g h a) (OObj g h i a) True
theorem sizeLine_eq':sizeLine=16777216:=rfl
theorem top_eq:top=1048576:=rfl
theorem tSz{n:Nat}(h:n≤top):n≤sizeLine:=ltr h (by decide)
end
section
structure Cx where
 w:World
 s₁:Shared
 A:Around
 env:Env
 slots:List Str
 own:List Addr
 K:BH
 fr:List Env
 n:Nat
 k:Nat
noncomputable def AO.live:AO→Prop:=AO.rec (motive:=fun o0=>Prop) (fun o0=>True) (fun o0 o0=>True) False
inductive Kp(R:Data→Data→Prop)(h:Heap)(a:Addr)(o:Obj):Prop
 |mk (o':Obj) (get:h.get? a=some o') (cls:o'.cls=o.cls) (dict:o'.dict=o.dict) (dat:R o.data o'.data) (sl:(∃vs,o'.data=.fields vs)→o'.slots=o.slots)
inductive DatP(d d':Data):Prop
 |same (e:d=d')
 |flds (vs vs':Array Value) (e:d=.fields vs) (e':d'=.fields vs') (size:vs'.size=vs.size)
theorem Data.fields_inj{vs vs':Array Value}(h:Data.fields vs=.fields vs'):vs=vs':=by cases h;rfl
theorem DatP.trans{a b d:Data}:DatP a b→DatP b d→DatP a d
 |.same e,y=>e▸y
 |.flds vs vs' e e' s,.same i=>i▸.flds vs vs' e e' s
 |.flds vs vs' e e' s,.flds ws ws' i i' s'=>.flds vs ws' e i' (s'.trans ((congrArg Array.size (Data.fields_inj (i.symm.trans e'))).trans s))
theorem Kp.keep{R:Data→Data→Prop}{h h':Heap}{a:Addr}{o:Obj}(k:∀o,h.get? a=some o→Kp Eq h' a o):Kp R h a o→Kp R h' a o
 |.mk o' e e1 e2 e3 l=>match k _ e with | .mk o'' f f1 f2 f3 l'=>.mk o'' f (f1.trans e1) (f2.trans e2) (f3▸e3) fun⟨vs,z⟩=>(l' ⟨vs,z⟩).trans (l ⟨vs,f3.trans z⟩)
theorem Kp.of{h:Heap}{a:Addr}{o:Obj}(e:h.get? a=some o):Kp Eq h a o:=.mk o e rfl rfl rfl fun o0=>rfl
theorem Kp.weak{h:Heap}{a:Addr}{o:Obj}:Kp Eq h a o→Kp DatP h a o | .mk o' e e1 e2 e3 l=>.mk o' e e1 e2 (.same e3) l
theorem Kp.data{h:Heap}{a:Addr}{o:Obj}(hf:∀vs,o.data≠.fields vs):Kp DatP h a o→Kp Eq h a o
 |.mk o' e e1 e2 (.same q) l=>.mk o' e e1 e2 q l
 |.mk o' e e1 e2 (.flds vs _ q _ _) _=>absurd q (hf vs)
inductive TbP(g:Gh)(h:Heap)(a:Addr)(tb:Bool):Prop
 |no (ht:tb=false) (o:Obj) (vs:Array Value) (get:h.get? a=some o) (dat:o.data=.fields vs) (size:vs.size=6) (e:vs[1]?=some .none)
 |yes (o:Obj) (vs:Array Value) (get:h.get? a=some o) (dat:o.data=.fields vs) (size:vs.size=6) (t:Addr) (ot:Obj) (ts:Array Value) (e:vs[1]?=some (.ref t)) (ne:t≠a)
  (hb:g.B t=some ot) (cls:ot.cls=.type "traceback") (dt:ot.data=.fields ts) (st:3 < ts.size) (old:TT.old t=false)
theorem TbP.keep{g g':Gh}{h h':Heap}{a:Addr}{tb:Bool}(k:∀o,h.get? a=some o→Kp Eq h' a o)(le:BH.Le g.B g'.B):TbP g h a tb→TbP g' h' a tb
 |.no ht o vs get dat size e=>match k _ get with | .mk o' e' _ _ d _=>.no ht o' vs e' (d▸dat) size e
 |.yes o vs get dat size t ot ts e ne hb cls dt st old=>match k _ get with | .mk o' e' _ _ d _=>.yes o' vs e' (d▸dat) size t ot ts e ne (le _ _ hb) cls dt st old
theorem TbP.any{g:Gh}{h:Heap}{a:Addr}{tb:Bool}:TbP g h a tb→TbP g h a false
 |.no ht o vs get dat size e=>.no rfl o vs get dat size e
 |.yes o vs get dat size t ot ts e ne hb cls dt st old=>.yes o vs get dat size t ot ts e ne hb cls dt st old
structure MemP(c:Cx)(g:Gh)(st:St)(h:Heap)(a:Addr)(i:Nat)(o:AO):Prop where
 B:g.B a=none
 K:c.K a=none
 own:a∉c.own
 rep:ORep g h i a o
 inj:∀(j:Nat) (o':AO),g.φ[j]?=some a→st.mem[j]?=some o'→o'.live→j=i
structure FrzP(g:Gh)(h:Heap)(a:Addr)(o:Obj):Prop where
 keep:Kp DatP h a o
 tb:∀vs,o.cls=.ref TT.exc→o.data=.fields vs→TT.old a=false→TbP g h a false
structure KpP(c:Cx)(g:Gh)(h:Heap)(a:Addr)(o:Obj):Prop where
 keep:Kp Eq h a o
 B:g.B a=none
 own:a∉c.own
noncomputable def Has(h:Heap)(a:Addr):Prop:=∃o,h.get? a=some o
structure At_(c:Cx)(g:Gh)(st:St)(h:Heap)(a:Addr):Prop where
 base:∀o,c.s₁.heap.get? a=some o→g.B a=some o∧h.get? a=some o
 frz:∀o,g.B a=some o→FrzP g h a o
 kp:∀o,c.K a=some o→KpP c g h a o
 own:a∈c.own→g.B a=none∧Has h a
 mem:∀(i:Nat) (o:AO),g.φ[i]?=some a→st.mem[i]?=some o→o.live→MemP c g st h a i o
structure Free(c:Cx)(g:Gh)(st:St)(a:Addr):Prop where
 base:c.s₁.heap.get? a=none
 B:g.B a=none
 K:c.K a=none
 own:a∉c.own
 mem:∀(i:Nat) (o:AO),g.φ[i]?=some a→st.mem[i]?=some o→¬o.live
inductive SlotP(c:Cx)(h:Heap)(m:Str→Option Value)(x:Str)(R:Option Value→Prop):Prop
 |loc (k:c.env.kindOf x=some .local) (r:R (m x))
 |cell (k:c.env.kindOf x=some .cell) (ce:Addr) (l:c.env.cells.lookup x=some ce) (v:Option Value) (e:h.IsCell ce v) (r:R v)
inductive EnvOk(c:Cx)(g:Gh)(loc:List (Option W))(h:Heap):Prop
 |mk (m:Str→Option Value) (len:loc.length=c.slots.length) (ns:h.Ns c.env.locals m) (slot:∀(i:Nat) (x:Str) (w:Option W),c.slots[i]?=some x→loc[i]?=some w→SlotP c h m x (RepO g w))
structure BaseOk(w:World)(s₁:Shared):Prop where
 K:(TT.K w.params).In s₁.heap
 g:∃mg,s₁.heap.Ns mainGlobals mg
 b:∃mb,s₁.heap.Ns builtinsNs mb∧∀x:Str,x≠ "__name__" →mb x=bootBuiltins x
 nolimit:s₁.heap.NoLimit
 old:∀a,TT.old a=false↔s₁.heap.get? a=none
structure CellP(c:Cx)(ce:Addr):Prop where
 ne:ce≠c.env.locals
 at_:ce∈c.own∨∃o v,c.K ce=some o∧o.data=.cell v
inductive StandP(c:Cx)(e:Env):Prop
 |mk (k:e.scope.kind≠.module) (L:Addr) (f:e.frame=some L) (b:c.s₁.heap.get? L=none) (at_:L=c.env.locals∨∃o,c.K L=some o∧∀vs,o.data≠.fields vs)
structure CxOk(c:Cx):Prop where
 kind:c.env.scope.kind=.function
 nod:c.slots.Nodup
 ownL:c.env.locals∈c.own
 cells:∀x ce,x∈c.slots→c.env.kindOf x=some .cell→c.env.cells.lookup x=some ce→CellP c ce
 apart:∀x y ce,x∈c.slots→y∈c.slots→c.env.kindOf x=some .cell→c.env.kindOf y=some .cell→c.env.cells.lookup x=some ce→c.env.cells.lookup y=some ce→x=y
 handled:c.A.handled=none
 frames:c.A.frames=some c.fr
 globals:c.env.globals=mainGlobals
 builtins:c.env.builtins=builtinsNs
 stand:∀e∈c.fr,StandP c e
 frame:∃e r,c.fr=e::r∧e.frame=c.env.frame
 bas:BaseOk c.w c.s₁
 slack:c.k≤4
 depth:c.A.depth+5*c.n≤900+c.k
 units:c.A.units+40*c.n≤9000+5*c.k
structure Same(s s':Shared):Prop where
 gens:s'.gens=s.gens
 os:s'.os=s.os
structure Sim(c:Cx)(g:Gh)(st:St)(s:Shared):Prop where
 ok:CxOk c
 at_:∀a,At_ c g st s.heap a
 len:g.φ.length=st.mem.length
 env:EnvOk c g st.loc s.heap
 gens:s.gens=#[]
 os:s.os=c.s₁.os
variable{c c':Cx}{g g':Gh}{st st':St}{s s':Shared}{h h':Heap}{a:Addr}
theorem Ns_slots{m:Str→Option Value}(k:∀o,h.get? a=some o→Kp Eq h' a o):h.Ns a m→h'.Ns a m:=fun⟨o,es,ep,e,hd,r⟩=>match k o e with | .mk o' e' _ _ d _=>⟨o',es,ep,e',d.symm.trans hd,r⟩
theorem Ns1_slots{m:Str→Option Value}(k:∀o,h.get? a=some o→Kp Eq h' a o):h.Ns1 a m→h'.Ns1 a m:=fun⟨o,es,ep,e,hd,r⟩=>match k o e with | .mk o' e' _ _ d _=>⟨o',es,ep,e',d.symm.trans hd,r⟩
theorem ORep.keep{i:Nat}{o:AO}(k:∀o,h.get? a=some o→Kp Eq h' a o)(le:Gh.Le g g'):ORep g h i a o→ORep g' h' i a o:=
 AO.casesOn (motive:=fun o=>ORep g h i a o→ORep g' h' i a o) o (fun l=>fun | .mk o vs n e cls dat reps len dict=>match k _ e with | .mk o' e' e1 e2 d _=>.mk o' vs n e' (e1.trans cls) (d.symm.trans dat) (reps.mono le.1) len (e2.trans dict))
  (fun c fs=>fun | .mk ws ns reps len old=>.mk ws (Ns1_slots k ns) (reps.mono le) len old) id
structure MvP(c':Cx)(g g':Gh)(st:St)(h h':Heap)(a:Addr)(i:Nat)(o:AO):Prop where
 φ:g.φ[i]?=some a
 mem:st.mem[i]?=some o
 rep:ORep g h i a o→ORep g' h' i a o
 K:c'.K a=none
 own:a∉c'.own
theorem At_.keepG(y:At_ c g st h a)(hs:c'.s₁=c.s₁)(kb:∀o,c.s₁.heap.get? a=some o→h.get? a=some o→h'.get? a=some o)(k:∀o,h.get? a=some o→Kp Eq h' a o)(le:BH.Le g.B g'.B)(hB:g'.B a=g.B a)
  (kp:∀o,c'.K a=some o→KpP c' g' h' a o) (own:a∈c'.own→g'.B a=none∧Has h' a)
  (hm:∀(i:Nat) (o:AO),g'.φ[i]?=some a→st'.mem[i]?=some o→o.live→MvP c' g g' st h h' a i o):At_ c' g' st' h' a where
 base o e:=let ⟨e1,e2⟩:=y.base o (hs▸e);⟨hB.trans e1,kb _ (hs▸e) e2⟩
 frz o e:=let z:=y.frz o (hB.symm.trans e);⟨z.keep.keep k,fun vs e1 e2 e3=>(z.tb vs e1 e2 e3).keep k le⟩
 kp:=kp
 own:=own
 mem i o e e' l:=let w:=hm i o e e' l;let z:=y.mem i o w.φ w.mem l;⟨hB.trans z.B,w.K,w.own,w.rep z.rep,fun j o' f f' l'=>let v:=hm j o' f f' l';z.inj j o' v.φ v.mem l'⟩
theorem At_.keep(y:At_ c g st h a)(kb:∀o,c.s₁.heap.get? a=some o→h.get? a=some o→h'.get? a=some o)(k:∀o,h.get? a=some o→Kp Eq h' a o)(le:Gh.Le g g')(hB:g'.B a=g.B a)
  (hm:∀(i:Nat) (o:AO),g'.φ[i]?=some a→st'.mem[i]?=some o→o.live→g.φ[i]?=some a∧st.mem[i]?=some o):At_ c g' st' h' a:=
 y.keepG rfl kb k le.1 hB (fun o e=>let z:=y.kp o e;⟨z.keep.keep k,hB.trans z.B,z.own⟩) (fun e=>let ⟨e1,o,e2⟩:=y.own e;⟨hB.trans e1,match k _ e2 with | .mk o' e' _ _ _ _=>⟨o',e'⟩⟩)
  fun i o e e' l=>let ⟨e1,e2⟩:=hm i o e e' l;let z:=y.mem i o e1 e2 l;⟨e1,e2,ORep.keep k le,z.K,z.own⟩
theorem At_.keep0(y:At_ c g st h a)(k:∀o,h.get? a=some o→h'.get? a=some o):At_ c g st h' a:=y.keep (fun o o0=>k o) (fun o e=>.of (k o e)) (.refl g) rfl fun o0 o0 e e' o0=>⟨e,e'⟩
theorem At_.free(y:At_ c g st h a)(e:h.get? a=none):Free c g st a where
 base:=Option.eq_none_iff_forall_ne_some.mpr fun o q=>aBn e (y.base o q).2
 B:=Option.eq_none_iff_forall_ne_some.mpr fun o q=>match(y.frz o q).keep with | .mk _ f _ _ _ _=>aBn e f
 K:=Option.eq_none_iff_forall_ne_some.mpr fun o q=>match(y.kp o q).keep with | .mk _ f _ _ _ _=>aBn e f
 own q:=let ⟨_,_,f⟩:=y.own q;aBn e f
 mem i o q q' l:=have r:=(y.mem i o q q' l).rep
  match o,l,r with
  |.list _,_,.mk _ _ _ f _ _ _ _ _=>aBn e f
  |.obj _ _,_,.mk _ ⟨_,_,_,f,_⟩ _ _ _=>aBn e f
theorem get_new(ha:h.objs.size≤a):h.get? a=none:=Option.eq_none_iff_forall_ne_some.mpr fun o q=>absurd (Heap.lt_size q) (Nat.not_lt.mpr ha)
theorem Sim.free(x:Sim c g st s)(ha:s.heap.objs.size≤a):Free c g st a:=(x.at_ a).free (get_new ha)
theorem At_.new(f:Free c g st a):At_ c g st h a:=⟨fun o0 e=>aBn f.base e,fun o0 e=>aBn f.B e,fun o0 e=>aBn f.K e,fun e=>absurd e f.own,fun i o e e' l=>absurd l (f.mem i o e e')⟩
theorem CxOk.ne(ok:CxOk c)(hK:c.K a=none)(hO:a∉c.own):c.env.locals≠a∧∀x ce,x∈c.slots→c.env.kindOf x=some .cell→c.env.cells.lookup x=some ce→ce≠a:=
 ⟨fun q=>hO (q▸ok.ownL),fun x ce h1 h2 h3 q=>match(ok.cells x ce h1 h2 h3).at_ with | .inl z=>hO (q▸z) | .inr ⟨_,_,z,_⟩=>aBn hK (q▸z)⟩
theorem IsCell_slots{v:Option Value}(k:∀o,h.get? a=some o→Kp Eq h' a o):h.IsCell a v→h'.IsCell a v:=fun⟨o,e,hd⟩=>match k o e with | .mk o' e' _ _ d _=>⟨o',e',d.symm.trans hd⟩
theorem SlotP.keep{m:Str→Option Value}{x:Str}{R R':Option Value→Prop}(r:∀v,R v→R' v)(k:∀ce,c.env.kindOf x=some .cell→c.env.cells.lookup x=some ce→∀o,h.get? ce=some o→Kp Eq h' ce o):SlotP c h m x R→SlotP c h' m x R'
 |.loc e q=>.loc e (r _ q)
 |.cell e ce l v i q=>.cell e ce l v (IsCell_slots (k ce e l) i) (r _ q)
theorem EnvOk.keep{loc:List (Option W)}(le:Gh.Le g g')(kl:∀o,h.get? c.env.locals=some o→Kp Eq h' c.env.locals o)
  (kc:∀x ce,x∈c.slots→c.env.kindOf x=some .cell→c.env.cells.lookup x=some ce→∀o,h.get? ce=some o→Kp Eq h' ce o):EnvOk c g loc h→EnvOk c g' loc h'
 |.mk m len ns slot=>.mk m len (Ns_slots kl ns) fun i x w e e'=>(slot i x w e e').keep (fun o0=>RepO.mono le) fun ce=>kc x ce (List.mem_of_getElem? e)
theorem EnvOk.but{loc:List (Option W)}(ok:CxOk c)(le:Gh.Le g g')(hK:c.K a=none)(hO:a∉c.own)(k:∀b o,b≠a→h.get? b=some o→h'.get? b=some o)(e:EnvOk c g loc h):EnvOk c g' loc h':=
 let ⟨h1,h2⟩:=ok.ne hK hO
 e.keep le (fun o q=>.of (k _ o h1 q)) fun x ce h3 h4 h5 o q=>.of (k _ o (h2 x ce h3 h4 h5) q)
theorem EnvOk.mono{loc:List (Option W)}(le:Gh.Le g g')(e:EnvOk c g loc h):EnvOk c g' loc h:=e.keep le (fun o=>.of) fun o0 o0 o0 o0 o0 o0=>.of
theorem Sim.grow(x:Sim c g st s)(hs:Same s s')(k:∀a o,s.heap.get? a=some o→s'.heap.get? a=some o):Sim c g st s' where
 ok:=x.ok
 at_ a:=(x.at_ a).keep0 (k a)
 len:=x.len
 env:=x.env.keep (.refl g) (fun o q=>.of (k _ o q)) fun o0 o0 o0 o0 o0 o q=>.of (k _ o q)
 gens:=hs.gens.trans x.gens
 os:=hs.os.trans x.os
theorem Sim.same(x:Sim c g st s)(hs:Same s s')(k:s'.heap=s.heap):Sim c g st s':=x.grow hs fun o0 o0 e=>k▸e
theorem Sim.at1(x:Sim c g st s)(hs:Same s s')(le:Gh.Le g g')(hK:c.K a=none)(hO:a∉c.own)(k:∀b o,b≠a→s.heap.get? b=some o→s'.heap.get? b=some o)
  (hB:∀b,b≠a→g'.B b=g.B b) (hm:∀b,b≠a→∀(i:Nat) (o:AO),g'.φ[i]?=some b→st'.mem[i]?=some o→o.live→g.φ[i]?=some b∧st.mem[i]?=some o)
  (hl:st'.loc=st.loc) (len:g'.φ.length=st'.mem.length) (ha:At_ c g' st' s'.heap a):Sim c g' st' s' where
 ok:=x.ok
 at_ b:=(Classical.em (b=a)).elim (fun q=>q▸ha) fun q=>(x.at_ b).keep (fun o o0=>k b o q) (fun o e=>.of (k b o q e)) le (hB b q) (hm b q)
 len:=len
 env:=hl▸x.env.but x.ok le hK hO k
 gens:=hs.gens.trans x.gens
 os:=hs.os.trans x.os
theorem mem_set_ne{i j:Nat}{o q:AO}{l:List AO}(hj:j≠i)(z:(l.set i o)[j]?=some q):l[j]?=some q:=(List.getElem?_set_ne (Ne.symm hj)).symm.trans z
theorem mem_set_self{i:Nat}{o q o':AO}{l:List AO}(e:l[i]?=some o')(z:(l.set i o)[i]?=some q):q=o:=(Option.some.inj ((List.getElem?_set_self (List.getElem?_eq_some_iff.mp e).1).symm.trans z)).symm
theorem sIj{α:Type}{o:Option α}{x y:α}(e:o=some x)(e':o=some y):x=y:=Option.some.inj (e.symm.trans e')
theorem set_at{i:Nat}{o o':AO}{l:List AO}{p:List Addr}{b:Addr}(e:p[i]?=some a)(hb:b≠a)(j:Nat)(q:AO)(e1:p[j]?=some b)(e2:(l.set i o)[j]?=some q):p[j]?=some b∧l[j]?=some q:=
 ⟨e1,mem_set_ne (fun z=>hb (sIj e1 (z▸e))) e2⟩
theorem Sim.change(x:Sim c g st s)(hs:Same s s'){i:Nat}{o o':AO}(e:g.φ[i]?=some a)(e':st.mem[i]?=some o)(l:o.live)
  (k:∀b ob,b≠a→s.heap.get? b=some ob→s'.heap.get? b=some ob) (r:ORep g s'.heap i a o'):Sim c g ⟨st.loc,st.mem.set i o'⟩ s':=
 have y:=(x.at_ a).mem i o e e' l
 have hj:∀(j:Nat) (q:AO),g.φ[j]?=some a→(st.mem.set i o')[j]?=some q→q.live→j=i:=fun j q f f' lq=>Classical.byContradiction fun n=>n (y.inj j q f (mem_set_ne n f') lq)
 x.at1 hs (.refl g) y.K y.own k (fun o0 o0=>rfl) (fun b hb j q e1 e2 o0=>set_at (o':=o) e hb j q e1 e2) rfl (x.len.trans (List.length_set ..).symm)
  ⟨fun o0 q=>aBn y.B ((x.at_ a).base _ q).1,fun o0 q=>aBn y.B q,fun o0 q=>aBn y.K q,fun q=>absurd q y.own,fun j q f f' lq=>by
   have z:=hj j q f f' lq
   subst z
   exact⟨y.B,y.K,y.own,mem_set_self e' f'▸r,fun j' q' f1 f2 l'=>hj j' q' f1 f2 l'⟩⟩
theorem app_get{α:Type}{l:List α}{x y:α}{i:Nat}(e:(l++[x])[i]?=some y)(hi:i≠l.length):l[i]?=some y:=by
 rcases Nat.lt_or_gt_of_ne hi with h | h
 ·exact(List.getElem?_append_left h).symm.trans e
 ·exact aBn (List.getElem?_eq_none (by rw[lap];exact h)) e
theorem app_last{α:Type}{l:List α}{x y:α}(e:(l++[x])[l.length]?=some y):y=x:=(Option.some.inj ((List.getElem?_concat_length ..).symm.trans e)).symm
theorem Sim.alloc(x:Sim c g st s)(hs:Same s s'){o:AO}(ha:s.heap.objs.size≤a)(k:∀b ob,s.heap.get? b=some ob→s'.heap.get? b=some ob)
  (r:ORep ⟨g.B,g.φ++[a]⟩ s'.heap g.φ.length a o):Sim c ⟨g.B,g.φ++[a]⟩ ⟨st.loc,st.mem++[o]⟩ s':=
 have f:=x.free ha
 have hj:∀(j:Nat) (q:AO),(g.φ++[a])[j]?=some a→(st.mem++[o])[j]?=some q→q.live→j=g.φ.length:=fun j q e1 e2 l=>Classical.byContradiction fun n=>f.mem j q (app_get e1 n) (app_get e2 (x.len▸n)) l
 x.at1 hs ⟨BH.Le.refl _,fun i b e=>(List.getElem?_append_left (List.getElem?_eq_some_iff.mp e).1).trans e⟩ f.K f.own (fun b o o0=>k b o) (fun o0 o0=>rfl)
  (fun b hb j q e1 e2 o0=>have n:j≠g.φ.length:=fun z=>hb (app_last (z▸e1));⟨app_get e1 n,app_get e2 (x.len▸n)⟩) rfl (by rw[lap,lap,x.len];rfl)
  ⟨fun o0 q=>aBn f.base q,fun o0 q=>aBn f.B q,fun o0 q=>aBn f.K q,fun q=>absurd q f.own,fun j q e1 e2 l=>by
   have z:=hj j q e1 e2 l
   subst z
   exact⟨f.B,f.K,f.own,app_last (x.len▸e2:(st.mem++[o])[st.mem.length]?=some q)▸r,hj⟩⟩
theorem Sim.freezeNew(x:Sim c g st s)(hs:Same s s'){o:Obj}(ha:s.heap.objs.size≤a)(k:∀b ob,s.heap.get? b=some ob→s'.heap.get? b=some ob)
  (e:s'.heap.get? a=some o) (ht:∀vs,o.cls=.ref TT.exc→o.data=.fields vs→TbP ⟨addK g.B a o,g.φ⟩ s'.heap a false):Sim c ⟨addK g.B a o,g.φ⟩ st s':=
 have f:=x.free ha
 x.at1 hs ⟨addK_le f.B,fun o0 o0 e=>e⟩ f.K f.own (fun b o o0=>k b o) (fun b hb=>aKn hb) (fun o0 o0 o0 o0 e e' o0=>⟨e,e'⟩) rfl x.len
  ⟨fun o0 q=>aBn f.base q,fun o' q=>sIj (aKs (K:=g.B) (o:=o)) q▸⟨(Kp.of e).weak,fun vs q q' o0=>ht vs q q'⟩,fun o0 q=>aBn f.K q,fun q=>absurd q f.own,fun j q e1 e2 l=>absurd l (f.mem j q e1 e2)⟩
theorem Sim.freeze(x:Sim c g st s){i:Nat}{o:AO}{ob:Obj}(e:g.φ[i]?=some a)(e':st.mem[i]?=some o)(l:o.live)(h:s.heap.get? a=some ob)(ht:ob.cls≠.ref TT.exc):
  Sim c ⟨addK g.B a ob,g.φ⟩ ⟨st.loc,st.mem.set i .dead⟩ s:=
 have y:=(x.at_ a).mem i o e e' l
 x.at1 ⟨rfl,rfl⟩ ⟨addK_le y.B,fun o0 o0 e=>e⟩ y.K y.own (fun b o o0 e=>e) (fun b hb=>aKn hb) (fun b hb j q e1 e2 o0=>set_at (o':=o) e hb j q e1 e2) rfl (x.len.trans (List.length_set ..).symm)
  ⟨fun o0 q=>aBn y.B ((x.at_ a).base _ q).1,fun o' q=>sIj (aKs (K:=g.B) (o:=ob)) q▸⟨(Kp.of h).weak,fun vs q o0 o0=>absurd q ht⟩,fun o0 q=>aBn y.K q,fun q=>absurd q y.own,fun j q f f' lq=>
   (Classical.em (j=i)).elim (fun z=>by subst z;rw[mem_set_self e' f']at lq;exact lq.elim) fun n=>absurd (y.inj j q f (mem_set_ne n f') lq) n⟩
theorem Sim.own1(x:Sim c g st s)(hs:Same s s'){loc':List (Option W)}(hO:a∈c.own)(k:∀b o,b≠a→s.heap.get? b=some o→s'.heap.get? b=some o)(ht:Has s'.heap a)(env:EnvOk c g loc' s'.heap):Sim c g ⟨loc',st.mem⟩ s':=
 have hB:=((x.at_ a).own hO).1
 {ok:=x.ok
  at_:=fun b=>(Classical.em (b=a)).elim (fun q=>q▸⟨fun o0 q=>aBn hB ((x.at_ a).base _ q).1,fun o0 q=>aBn hB q,fun o q=>absurd hO ((x.at_ a).kp o q).own,fun o0=>⟨hB,ht⟩,fun i o e e' l=>absurd hO ((x.at_ a).mem i o e e' l).own⟩)
   fun q=>(x.at_ b).keep (fun o o0=>k b o q) (fun o e=>.of (k b o q e)) (.refl g) rfl fun o0 o0 e e' o0=>⟨e,e'⟩
  len:=x.len
  env:=env
  gens:=hs.gens.trans x.gens
  os:=hs.os.trans x.os}
theorem slot_inj(ok:CxOk c){i j:Nat}{y:Str}(e:c.slots[i]?=some y)(e':c.slots[j]?=some y):i=j:=(List.getElem?_inj (List.getElem?_eq_some_iff.mp e).1 ok.nod).mp (e.trans e'.symm)
theorem Sim.setLocal(x:Sim c g st s)(hs:Same s s'){i:Nat}{n:Str}{w:Option W}{v:Option Value}(hn:c.slots[i]?=some n)(hk:c.env.kindOf n=some .local)(r:RepO g w v)
  (k:∀b ob,b≠c.env.locals→s.heap.get? b=some ob→s'.heap.get? b=some ob)
  (hm:∀m,s.heap.Ns c.env.locals m→∃m',s'.heap.Ns c.env.locals m'∧m' n=v∧∀y,y≠n→m' y=m y):Sim c g ⟨st.loc.set i w,st.mem⟩ s':=by
 obtain⟨m,len,ns,slot⟩:=x.env
 obtain⟨m',hn',e1,e2⟩:=hm m ns
 refine x.own1 hs x.ok.ownL k (let ⟨o,_,_,e,_⟩:=hn';⟨o,e⟩) (.mk m' ((List.length_set ..).trans len) hn' fun j y q f f'=>?_)
 by_cases hj:j=i
 ·subst hj
  have hlt:j < st.loc.length:=len▸(List.getElem?_eq_some_iff.mp hn).1
  have:=sIj f hn;subst this
  have:=sIj f' (List.getElem?_set_self hlt);subst this
  exact .loc hk (e1▸r)
 ·have f2:st.loc[j]?=some q:=(List.getElem?_set_ne (Ne.symm hj)).symm.trans f'
  have hy:y≠n:=fun z=>hj (slot_inj x.ok f (z▸hn))
  rcases slot j y q f f2 with⟨a,b⟩ | ⟨a,ce,l,v,i,b⟩
  ·exact .loc a ((e2 y hy).symm▸b)
  ·exact .cell a ce l v (IsCell_slots (fun o z=>.of (k _ o (x.ok.cells y ce (List.mem_of_getElem? f) a l).ne z)) i) b
theorem Sim.setCell(x:Sim c g st s)(hs:Same s s'){i:Nat}{n:Str}{w:Option W}{v:Option Value}(hn:c.slots[i]?=some n)(hk:c.env.kindOf n=some .cell)
  (hl:c.env.cells.lookup n=some a) (hO:a∈c.own) (r:RepO g w v) (k:∀b ob,b≠a→s.heap.get? b=some ob→s'.heap.get? b=some ob) (hc:s'.heap.IsCell a v):Sim c g ⟨st.loc.set i w,st.mem⟩ s':=by
 obtain⟨m,len,ns,slot⟩:=x.env
 have hL:=(x.ok.cells n a (List.mem_of_getElem? hn) hk hl).ne
 refine x.own1 hs hO k (let ⟨o,e,_⟩:=hc;⟨o,e⟩) (.mk m ((List.length_set ..).trans len) (Ns_slots (fun o z=>.of (k _ o (Ne.symm hL) z)) ns) fun j y q f f'=>?_)
 by_cases hj:j=i
 ·subst hj
  have hlt:j < st.loc.length:=len▸(List.getElem?_eq_some_iff.mp hn).1
  have:=sIj f hn;subst this
  have:=sIj f' (List.getElem?_set_self hlt);subst this
  exact .cell hk a hl v hc r
 ·have f2:st.loc[j]?=some q:=(List.getElem?_set_ne (Ne.symm hj)).symm.trans f'
  rcases slot j y q f f2 with⟨a,b⟩ | ⟨a,ce,l,v,i,b⟩
  ·exact .loc a b
  ·refine .cell a ce l v (IsCell_slots (fun o z=>.of (k _ o (fun q=>hj (slot_inj x.ok f ?_)) z)) i) b
   exact x.ok.apart y n ce (List.mem_of_getElem? f) (List.mem_of_getElem? hn) a hk l (q▸hl)▸hn
end
section
variable{c c':Cx}{g g':Gh}{st st':St}{s s':Shared}{h h':Heap}{a:Addr}
inductive Fly(g:Gh)(h:Heap)(tb:Bool)(x:V)(e:Value):Prop
 |mk (y:V) (hx:x=.exc y) (a:Addr) (he:e=.ref a) (rep:Rep g.B (.exc y) (.ref a)) (tb:TbP g h a tb)
theorem Fly.any{tb:Bool}{x:V}{e:Value}:Fly g h tb x e→Fly g h false x e | .mk y hx a he rep tb=>.mk y hx a he rep tb.any
inductive Flown(c:Cx)(g:Gh)(st:St)(x:V)(e:Value)(s:Shared):Prop
 |mk (g':Gh) (le:Gh.Le g g') (sim:Sim c g' st s) (fly:Fly g' s.heap true x e)
theorem Flown.up{x:V}{e:Value}(l:Gh.Le g g'):Flown c g' st x e s→Flown c g st x e s | .mk g'' le sim fly=>.mk g'' (l.trans le) sim fly
theorem Sim.slots(x:Sim c g st s)(hs:Same s s')(kb:∀a o,c.s₁.heap.get? a=some o→s.heap.get? a=some o→s'.heap.get? a=some o)(k:∀a o,s.heap.get? a=some o→Kp Eq s'.heap a o):Sim c g st s' where
 ok:=x.ok
 at_ a:=(x.at_ a).keep (kb a) (k a) (.refl g) rfl fun o0 o0 e e' o0=>⟨e,e'⟩
 len:=x.len
 env:=x.env.keep (.refl g) (k _) fun o0 ce o0 o0 o0=>k ce
 gens:=hs.gens.trans x.gens
 os:=hs.os.trans x.os
theorem Sim.fldB(x:Sim c g st s)(hs:Same s s'){o:Obj}(hb:g.B a=some o)(old:TT.old a=false)(k:∀b o,b≠a→s.heap.get? b=some o→s'.heap.get? b=some o)
  (hk:Kp DatP s'.heap a o) (ht:∀vs,o.cls=.ref TT.exc→o.data=.fields vs→TbP g s'.heap a false):Sim c g st s':=
 have hK:c.K a=none:=Option.eq_none_iff_forall_ne_some.mpr fun o q=>aBn ((x.at_ a).kp o q).B hb
 have hO:a∉c.own:=fun q=>aBn ((x.at_ a).own q).1 hb
 x.at1 hs (.refl g) hK hO k (fun o0 o0=>rfl) (fun o0 o0 o0 o0 e e' o0=>⟨e,e'⟩) rfl x.len
  ⟨fun o q=>aBn ((x.ok.bas.old a).mp old) q,fun o' q=>sIj hb q▸⟨hk,fun vs q q' o0=>ht vs q q'⟩,fun o0 q=>aBn hK q,fun q=>absurd q hO,fun i o e e' l=>aBn ((x.at_ a).mem i o e e' l).B hb⟩
theorem StandP.live(x:Sim c g st s){e:Env}(he:e∈c.fr):e.scope.kind≠.module∧∃L o,e.frame=some L∧c.s₁.heap.get? L=none∧s.heap.get? L=some o∧∀vs,o.data≠.fields vs:=
 match x.ok.stand e he with
 |.mk k L f b (.inl q)=>match x.env with | .mk _ _ ⟨o,_,_,e1,e2,_⟩ _=>⟨k,L,o,f,b,q▸e1,fun vs z=>Data.noConfusion (e2.symm.trans z)⟩
 |.mk k L f b (.inr ⟨o,e1,e2⟩)=>match((x.at_ L).kp o e1).keep with | .mk o' e3 _ _ e4 _=>⟨k,L,o',f,b,e3,fun vs z=>e2 vs (e4.trans z)⟩
theorem Sim.frames(x:Sim c g st s):s.heap.FunFrames c.s₁.heap c.fr:=
 have key:∀l:List Env,(∀e∈l,e∈c.fr)→s.heap.FunFrames c.s₁.heap l:=fun l=>List.rec (motive:=fun l=>(∀e∈l,e∈c.fr)→s.heap.FunFrames c.s₁.heap l) (fun o0=>trivial)
  (fun e r ih h=>let ⟨hk,L,o,hf,hb,e1,e2⟩:=StandP.live x (h e (.head _));⟨hk,⟨L,o,hf,hb,e1,e2⟩,ih fun e' he'=>h e' (.tail _ he')⟩) l
 key c.fr fun o0 h=>h
section
variable{M:Model}{E:Value→Shared→Prop}{Q:Unit→Shared→Prop}{v:V}{e:Value}
theorem noteFrame_frame{env env':Env}(h:env.frame=env'.frame)(e:Value):noteFrame e env=noteFrame e env':=by
 unfold noteFrame PySem.frameOf;rw[h]
inductive ExcAt(g:Gh)(a:Addr):Prop | mk (o:Obj) (vs:Array Value) (hb:g.B a=some o) (dat:o.data=.fields vs) (size:vs.size=6) (old:TT.old a=false) (cls:o.cls=.ref TT.exc)
theorem ExcAt.of{y:V}(r:Rep g.B (.exc y) (.ref a)):ExcAt g a:=match r with | .mk x d o es w vs e hb e1 e2 e3 e4 ns f r=>by cases e;exact .mk o vs hb e2 e3 e4 e1
theorem update_ne{f:Obj→Obj}:∀b o,b≠a→h.get? b=some o→(h.update a f).get? b=some o:=fun b o hb e=>(Heap.get?_update_other _ _ (Ne.symm hb)).trans e
theorem mapFields_kp{o ob:Obj}{vs ws:Array Value}(e:h.get? a=some ob)(dt:ob.data=.fields ws)(f:Array Value→Array Value)(hs:(f ws).size=ws.size)
  (k:Kp DatP h a o) (dat:o.data=.fields vs):Kp DatP (h.update a (Obj.mapFields f)) a o:=by
 obtain⟨o',e',e1,e2,e3,e4⟩:=k
 cases sIj e e'
 have hd:=Obj.data_mapFields dt f
 refine .mk _ (Heap.get?_update_self _ e (Obj.isFreed_of_fields hd)) ((Obj.cls_mapFields _ _).trans e1) (Eq.trans ?_ e2) (e3.trans (.flds _ _ dt hd hs)) fun o0=>Eq.trans ?_ (e4 ⟨_,dt⟩)
 all_goals
  obtain⟨c1,d1,dt',sl⟩:=ob
  cases dt;rfl
theorem Sim.setTrace(x:Sim c g st s){y:V}(r:Rep g.B (.exc y) (.ref a))(tb:TbP g s.heap a true)(fv:Value){t:Addr}(hv:∀o vs,s.heap.get? a=some o→o.data=.fields vs→vs[1]?=some (.ref t)){o:Obj}{ts:Array Value}(ho:s.heap.get? t=some o)
  (hd:o.data=.fields ts):Flown c g st (.exc y) (.ref a) {s with heap:=s.heap.update t (Obj.mapFields (·.setIfInBounds 3 fv))}:=by
 rcases tb with⟨ht,_⟩ | ⟨oa,vs,get,dat,size,t',ot,us,e,ne,hb,cls,dt,h3,old⟩
 ·cases ht
 cases sIj e (hv oa vs get dat)
 have tb':TbP g (s.heap.update t (Obj.mapFields (·.setIfInBounds 3 fv))) a true:=.yes oa vs (update_ne _ _ (Ne.symm ne) get) dat size t ot us e ne hb cls dt h3 old
 exact .mk g (.refl g) (x.fldB ⟨rfl,rfl⟩ hb old update_ne (mapFields_kp ho hd _ (Array.size_setIfInBounds ..) ((x.at_ t).frz _ hb).keep dt) fun o0 q o0=>Value.noConfusion (cls.symm.trans q)) (.mk y rfl a rfl r tb')
theorem entry_aux(x:Sim c g st s){y:V}{L:Addr}{head:Value}{hadNext tb:Bool}{e0:Env}{outer:List Env}(hfr:c.fr=e0::outer)(hf:e0.frame=some L)(r:Rep g.B (.exc y) (.ref a))(tb:TbP g s.heap a tb)
  (hQ:∀s',Flown c g st (.exc y) (.ref a) s'→Q () s'):
  wpAny M c.A (do let fa←PySem.frameOf e0;let pl←entryPlaceOf L hadNext;let b←EntryCells.newEntry head fa .none (rawInt L) .none pl;setField (.ref a) 1 b) Q E s:=by
 obtain⟨oB,us,hbB,hdB,hsB,hold,hcls⟩:=ExcAt.of r
 have hk:=(x.at_ a).frz _ hbB
 obtain⟨o,ho,_,_,hdat⟩:=hk.keep
 obtain⟨vs,hd,hsz⟩:∃vs,o.data=.fields vs∧vs.size=6:=by
  rcases hdat with e | ⟨_,vs,e,e',hs⟩
  ·exact⟨us,e▸hdB,hsB⟩
  ·exact⟨vs,e',hs.trans ((congrArg Array.size (Data.fields_inj (e.symm.trans hdB))).trans hsB)⟩
 have hl:=x.frames
 rw[hfr]at hl
 have hea:a∉(e0::outer).filterMap (·.frame):=fun hm=>by
  obtain⟨_,o',ho',hnf⟩:=hl.mem hm
  exact hnf vs (sIj ho ho'▸hd)
 refine wpAny_bind (wpAny_frameOf_fun (hfr▸x.ok.frames) hl hf fun h₁ hs₁=>?_)
 have x₁:Sim c g st {s with heap:=h₁}:=x.slots ⟨rfl,rfl⟩ (fun b ob q e=>(hs₁.2.1 b fun hm=>aBn (hl.mem hm).1 q).trans e) fun b ob q=>let ⟨sl,z⟩:=hs₁.2.2 b ob q;.mk _ z rfl rfl rfl fun⟨vs,e⟩=>congrArg Obj.slots (sIj z ((hs₁.2.1 b fun hm=>let ⟨_,o',h1,h2⟩:=hl.mem hm;h2 vs (sIj q h1▸e)).trans q))
 refine wpAny_bind (wpAny_entryPlaceOf fun pl hpl=>?_)
 unfold EntryCells.newEntry newFields
 have hsz5:=hpl.sizeOk5 head (.ref L) .none (rawInt L) .none
 generalize hen:([head,.ref L,.none,rawInt L,.none]++(if pl.isEmpty then List.replicate 6 Value.none else pl)).toArray=en at hsz5 ⊢
 have h3:3 < en.size:=by rw[←hen];simp only[List.size_toArray,lap,lcn];lia
 clear hen
 refine wpAny_bind (wpAny_newObj_type ?_ hsz5)
 have ho₁:h₁.get? a=some o:=(hs₁.2.1 a hea).trans ho
 have hT:=Heap.get?_push_size (o:={cls:=.type "traceback",data:=.fields en}) h₁ rfl
 have ho₂:(h₁.push {cls:=.type "traceback",data:=.fields en}).get? a=some o:=Heap.get?_push_of_some _ ho₁
 have hne:h₁.objs.size≠a:=Nat.ne_of_gt (Heap.lt_size ho₁)
 have hnew:TT.old h₁.objs.size=false:=(x.ok.bas.old _).mpr (x₁.free (Nat.le_refl _)).base
 have x₂:=x₁.freezeNew (s':={s with heap:=h₁.push {cls:=.type "traceback",data:=.fields en}}) ⟨rfl,rfl⟩ (Nat.le_refl _) (fun o0 o0 e=>Heap.get?_push_of_some _ e) hT fun o0 q o0=>Value.noConfusion q
 have le:Gh.Le g ⟨addK g.B h₁.objs.size {cls:=.type "traceback",data:=.fields en},g.φ⟩:=⟨addK_le (x₁.free (Nat.le_refl _)).B,fun o0 o0 e=>e⟩
 have hd₃:=Obj.data_mapFields hd (·.setIfInBounds 1 (Value.ref h₁.objs.size))
 have tb':=TbP.yes (g:=⟨addK g.B h₁.objs.size {cls:=.type "traceback",data:=.fields en},g.φ⟩) (tb:=true) _ _ (Heap.get?_update_self (Obj.mapFields (·.setIfInBounds 1 (Value.ref h₁.objs.size))) ho₂ (Obj.isFreed_of_fields hd₃)) hd₃ (by simp[hsz]) h₁.objs.size _ en (by simp[hsz]) hne aKs rfl rfl h3 hnew
 refine wpAny_setField ho₂ hd (by lia) (hQ _ (.mk _ le (x₂.fldB ⟨rfl,rfl⟩ (le.1 _ _ hbB) hold update_ne (mapFields_kp ho₂ hd _ (Array.size_setIfInBounds ..) ((x₂.at_ a).frz _ (le.1 _ _ hbB)).keep hdB) fun o0 o0 o0=>tb'.any) (.mk y rfl a rfl (Rep.mono le.1 r) tb')))
theorem wpAny_note(x:Sim c g st s){tb:Bool}(f:Fly g s.heap tb v e)(hQ:∀s',Flown c g st v e s'→Q () s'):wpAny M c.A (noteFrame e c.env) Q E s:=by
 obtain⟨e0,outer,hfr,he0⟩:=x.ok.frame
 obtain⟨hk0,L,_,hf,_⟩:=StandP.live x (e:=e0) (by rw[hfr];exact .head _)
 obtain⟨y,rfl,a,rfl,r,tb⟩:=f
 rw[noteFrame_frame he0.symm]
 unfold noteFrame
 simp only[hf]
 have tb0:=tb
 rcases tb with⟨_,o,vs,ho,hd,hsz,h1⟩ | ⟨o,vs,ho,hd,hsz,t,ot,ts,h1,ne,hb,cls,dt,h3,old⟩
 ·refine wpAny_bind (wpAny_field ho hd h1 ?_)
  rw[if_neg (by decide)]
  exact entry_aux x hfr hf r tb0 hQ
 ·refine wpAny_bind (wpAny_field ho hd h1 ?_)
  rw[if_pos (show(Value.ref t !=Value.none)=true from by simp)]
  obtain⟨o',hT,_,_,hdat⟩:=((x.at_ t).frz _ hb).keep
  obtain⟨us,hdT,hus⟩:∃us,o'.data=.fields us∧us.size=ts.size:=by
   rcases hdat with e | ⟨_,us,e,e',hs⟩
   ·exact⟨ts,e▸dt,rfl⟩
   ·exact⟨us,e',hs.trans (congrArg Array.size (Data.fields_inj (e.symm.trans dt)))⟩
  have h3u:3 < us.size:=hus▸h3
  refine wpAny_bind (wpAny_field hT hdT (Array.getElem?_eq_getElem h3u) ?_)
  have tb1:TbP g s.heap a true:=.yes o vs ho hd hsz t ot ts h1 ne hb cls dt h3 old
  split
  ·exact wpAny_pure (hQ s (.mk g (.refl g) x (.mk y rfl a rfl r tb1)))
  ·refine wpAny_bind (wpAny_setField hT hdT h3u ?_)
   obtain⟨g',le,x',f'⟩:=x.setTrace r tb1 .none (t:=t) (fun o2 vs2 q1 q2=>by cases sIj ho q1;cases Data.fields_inj (hd.symm.trans q2);exact h1) hT hdT
   obtain⟨_,hy,_,ha,r',tb'⟩:=f'
   cases hy;cases ha
   exact entry_aux x' hfr hf r' tb' fun s'' w=>hQ s'' (w.up le)
theorem wSF{A:Around}(x:Sim c g st s){fl:Option Addr}(f:Fly g s.heap true v e)(hQ:∀s',Flown c g st v e s'→Q () s'):wpAny M A (setFlight e fl) Q E s:=by
 obtain⟨y,rfl,a,rfl,r,tb⟩:=f
 have tb0:=tb
 rcases tb with⟨z,_⟩ | ⟨o,vs,ho,hd,hsz,t,ot,ts,h1,ne,hb,cls,dt,h3,old⟩
 ·cases z
 ·obtain⟨o',hT,_,_,hdat⟩:=((x.at_ t).frz _ hb).keep
  obtain⟨us,hdT,hus⟩:∃us,o'.data=.fields us∧us.size=ts.size:=by
   rcases hdat with e | ⟨_,us,e,e',hs⟩
   ·exact⟨ts,e▸dt,rfl⟩
   ·exact⟨us,e',hs.trans (congrArg Array.size (Data.fields_inj (e.symm.trans dt)))⟩
  unfold setFlight
  refine wpAny_bind (wpAny_field ho hd h1 ?_)
  rw[if_pos (show(Value.ref t !=Value.none)=true from by simp)]
  exact wpAny_setField hT hdT (hus▸h3) (hQ _ (x.setTrace r tb0 _ (t:=t) (fun o2 vs2 q1 q2=>by cases sIj ho q1;cases Data.fields_inj (hd.symm.trans q2);exact h1) hT hdT))
theorem wpAny_leave(x:Sim c g st s){tb:Bool}(f:Fly g s.heap tb v e)(hQ:∀s',Flown c g st v e s'→Q () s'):wpAny M c.A (leaving c.env e) Q E s:=
 wpAny_bind (wpAny_note x f fun s' w=>match w with | .mk g' le x' f'=>wSF x' f' fun s'' w'=>hQ s'' (w'.up le))
theorem wpAny_cameBack(x:Sim c g st s){E':Value→Shared→Prop}(f:Fly g s.heap true v e)(hQ:∀s',Flown c g st v e s'→E' e s'):cameBackBy M c.A c.env E' e s:=by
 unfold cameBackBy
 have f0:=f
 obtain⟨y,rfl,a,rfl,r,tb⟩:=f
 rcases tb with⟨z,_⟩ | ⟨o,vs,ho,hd,hsz,t,ot,ts,h1,ne,hb,cls,dt,h3,old⟩
 ·cases z
 ·refine wpAny_bind (wpAny_field ho hd h1 ?_)
  rw[if_neg (by simp)]
  exact wSF x f0 hQ
end
end
section
set_option tactic.hygienic true
variable{c c':Cx}{g g':Gh}{st st':St}{s s':Shared}{h h':Heap}{a:Addr}
@[reducible] noncomputable def Cx.M(c:Cx):Model:=model TT.prog c.w
abbrev Ex(γ:Type):=Except V γ×St
inductive Post{α β γ:Type}(c:Cx)(g:Gh)(k:Kt β γ)(r:Ex γ)(Q:Gh→β→α→Prop)(v:α)(s:Shared):Prop
 |mk (w:β) (g':Gh) (st':St) (le:Gh.Le g g') (sim:Sim c g' st' s) (q:Q g' w v) (e:k w st'=some r)
inductive Bad{γ:Type}(c:Cx)(g:Gh)(tb:Bool)(r:Ex γ)(e:Value)(s:Shared):Prop
 |mk (x:V) (hr:r.1=.error x) (g':Gh) (le:Gh.Le g g') (sim:Sim c g' r.2 s) (fly:Fly g' s.heap tb x e)
theorem Post.up{α β γ:Type}{k:Kt β γ}{r:Ex γ}{Q:Gh→β→α→Prop}{v:α}(l:Gh.Le g g'):Post c g' k r Q v s→Post c g k r Q v s | .mk w g'' st' le sim q e=>.mk w g'' st' (l.trans le) sim q e
theorem Bad.up{γ:Type}{tb:Bool}{r:Ex γ}{e:Value}(l:Gh.Le g g'):Bad c g' tb r e s→Bad c g tb r e s | .mk x hr g'' le sim fly=>.mk x hr g'' (l.trans le) sim fly
theorem Bad.any{γ:Type}{r:Ex γ}{e:Value}:Bad c g true r e s→Bad c g false r e s | .mk x hr g'' le sim fly=>.mk x hr g'' le sim fly.any
theorem Bad.flown{γ:Type}{r:Ex γ}{x:V}{e:Value}(hr:r.1=.error x):Flown c g r.2 x e s→Bad c g true r e s | .mk g' le sim fly=>.mk x hr g' le sim fly
inductive Lf{α β:Type}(c:Cx)(g:Gh)(st:St)(Q:Gh→β→α→Prop)(b:β)(v:α)(s:Shared):Prop
 |mk (g':Gh) (le:Gh.Le g g') (sim:Sim c g' st s) (q:Q g' b v)
theorem Lf.here{α β:Type}{Q:Gh→β→α→Prop}{b:β}{v:α}(x:Sim c g st s)(q:Q g b v):Lf c g st Q b v s:=.mk g (.refl g) x q
structure Snd{α β:Type}(c:Cx)(g:Gh)(t:Sem α)(m:Km β)(Q:Gh→β→α→Prop):Prop where
 h:∀{g₁},Gh.Le g g₁→∀{st s},Sim c g₁ st s→∀{γ:Type} {k:Kt β γ} {r},m k st=some r→wpAny c.M c.A t (Post c g₁ k r Q) (Bad c g₁ false r) s
section
variable{α β δ ε:Type}{t:Sem α}{m:Km β}{Q:Gh→β→α→Prop}{Q':Gh→ε→δ→Prop}
theorem Snd.weaken(h:Snd c g t m Q)(le:Gh.Le g g'):Snd c g' t m Q:=⟨fun l=>h.h (le.trans l)⟩
theorem Snd.bind{f:α→Sem δ}{n:β→Km ε}{m':Km ε}(h:Snd c g t m Q)(q:∀{γ:Type} (κ:Kt ε γ),m' κ=m fun x=>n x κ)(k:∀g' x v,Gh.Le g g'→Q g' x v→Snd c g' (f v) (n x) Q'):Snd c g (t >>=f) m' Q':=⟨fun l o0 o0 x o0 o0 o0 e=>
 wpAny_bind (wpAny_mono (h.h l x (q _▸e)) (fun o0 o0 z=>match z with | .mk w g' st' le sim q e=>wpAny_mono ((k g' w _ (l.trans le) q).h (.refl _) sim e) (fun o0 o0=>Post.up le) fun o0 o0=>Bad.up le) fun o0 o0 z=>z)⟩
theorem Snd.pure{v:α}{x:β}(h:∀g',Gh.Le g g'→Q g' x v):Snd c g (Pure.pure v) (fun κ=>κ x) Q:=⟨fun l o0 o0 x o0 o0 o0 e=>wpAny_pure (.mk _ _ _ (.refl _) x (h _ l) e)⟩
theorem optK_get{γ:Type}{o:Option β}{k:Kt β γ}{st:St}{r:Ex γ}(e:oK o k st=some r):∃b,o=some b∧k b st=some r:=
 match o,e with | none,e=>nomatch e | some b,e=>⟨b,rfl,e⟩
theorem Snd.opt{o:Option β}{n:β→Km ε}{t:Sem δ}(h:∀b,o=some b→Snd c g t (n b) Q'):Snd c g t (fun κ=>oK o fun b=>n b κ) Q':=⟨fun l o0 o0 x o0 o0 o0 e=>let ⟨b,e1,e2⟩:=optK_get e;(h b e1).h l x e2⟩
theorem Snd.last{o:St→Option β}(h:∀{g₁},Gh.Le g g₁→∀{st s},Sim c g₁ st s→∀{b},o st=some b→wpAny c.M c.A t (Lf c g₁ st Q b) (fun o0 o0=>False) s):Snd c g t (fun κ st=>oK (o st) κ st) Q:=⟨fun l o0 o0 x o0 o0 o0 e=>
 let ⟨b,e1,e2⟩:=optK_get e
 wpAny_mono (h l x e1) (fun o0 o0 z=>match z with | .mk g' le sim q=>.mk b g' _ le sim q e2) fun o0 o0 z=>z.elim⟩
theorem Snd.val{b:β}(h:∀{g₁},Gh.Le g g₁→∀{st s},Sim c g₁ st s→wpAny c.M c.A t (Lf c g₁ st Q b) (fun o0 o0=>False) s):Snd c g t (fun κ=>κ b) Q:=⟨fun l o0 o0 x o0 o0 o0 e=>
 wpAny_mono (h l x) (fun o0 o0 z=>match z with | .mk g' le sim q=>.mk b g' _ le sim q e) fun o0 o0 z=>z.elim⟩
theorem Snd.map{f:β→ε}{Q':Gh→ε→α→Prop}{m':Km ε}(h:Snd c g t m Q)(q:∀{γ:Type} (κ:Kt ε γ),m' κ=m fun x=>κ (f x))(k:∀g' x v,Gh.Le g g'→Q g' x v→Q' g' (f x) v):Snd c g t m' Q':=⟨fun l o0 o0 x o0 o0 o0 e=>
 wpAny_mono (h.h l x (q _▸e)) (fun o0 o0 z=>match z with | .mk w g' st' le sim q e=>.mk (f w) g' st' le sim (k _ _ _ (l.trans le) q) e) fun o0 o0 z=>z⟩
theorem Snd.standAt{p:Pos}{f:Unit→Sem α}(h:Snd c g (f ()) m Q):Snd c g (standAt p >>=f) m Q:=⟨fun l o0 o0 x o0 o0 o0 e=>wpAny_bind (wpAny_standAt (h.h l x e))⟩
theorem Snd.rule{p:String}{f:Unit→Sem α}(h:Snd c g (f ()) m Q):Snd c g (PySem.rule p >>=f) m Q:=⟨fun l o0 o0 x o0 o0 o0 e=>wpAny_bind (wpAny_rule (h.h l x e))⟩
theorem Snd.holding{vs:List Value}(h:Snd c g t m Q):Snd c g (PySem.holding vs t) m Q:=⟨fun l o0 o0 x o0 o0 o0 e=>wpAny_holding (h.h l x e)⟩
theorem Snd.operate{vs:List Value}{t:Sem Value}{Q:Gh→β→Value→Prop}(h:Snd c g t m Q):Snd c g (operate vs t) m Q:=⟨fun l o0 o0 x o0 o0 o0 e=>wpAny_operating (h.h l x e)⟩
theorem Snd.release{vs keep:List Value}{f:Unit→Sem α}(h:Snd c g (f ()) m Q):Snd c g (release vs keep >>=f) m Q:=⟨fun l o0 o0 x o0 o0 o0 e=>wpAny_bind (wpAny_release (h.h l x e))⟩
theorem Snd.pureTruthy{b:Bool}{vs:List Value}{f:Bool→Sem α}(h:Snd c g (f b) m Q):Snd c g (PySem.holding vs (truthy (.bool b)) >>=f) m Q:=⟨fun l o0 o0 x o0 o0 o0 e=>wpAny_bind (wpAny_holding (wpAny_truthy_bool (h.h l x e)))⟩
theorem Snd.thenTruthy{t:Sem Value}{m:Km Bool}(h:Snd c g t m fun o0 b u=>u=.bool b):Snd c g (t >>=fun u=>PySem.holding [u] (truthy u)) m (fun o0 y v=>v=y):=⟨fun l o0 o0 x o0 o0 o0 e=>
 wpAny_bind (wpAny_mono (h.h l x e) (fun o0 o0 z=>match z with | .mk w g' st' le sim q e=>q▸wpAny_holding (wpAny_truthy_bool (.mk w g' st' le sim rfl e))) fun o0 o0 z=>z)⟩
theorem Snd.pureL{f:α→Sem δ}{a:α}{n:Km ε}(h:Snd c g (f a) n Q'):Snd c g (Pure.pure a >>=f) n Q':=⟨fun l o0 o0 x o0 o0 o0 e=>wpAny_bind (wpAny_pure (h.h l x e))⟩
theorem Snd.of_eq{t':Sem α}(h:Snd c g t m Q)(e:t'=t):Snd c g t' m Q:=e▸h
theorem Snd.stop:Snd c g t (fun o0 o0=>none) Q:=⟨fun o0 o0 o0 o0 o0 o0 o0 e=>nomatch e⟩
end
noncomputable def Res{α β γ:Type}(c:Cx)(g:Gh)(k:Kt β γ)(r:Ex γ)(Q:Gh→β→α→Prop):Except Value α→Shared→Prop:=Except.rec (motive:=fun o0=>Shared→Prop) (Bad c g true r) (Post c g k r Q)
structure SndC(c:Cx)(g:Gh)(code:Code)(m:Km Flow)(Q:Gh→Flow→PySem.Flow→Prop):Prop where
 h:∀{g₁},Gh.Le g g₁→∀{st s},Sim c g₁ st s→∀{γ:Type} {k:Kt Flow γ} {r},m k st=some r→codeAny c.M c.A code (Res c g₁ k r Q) s
inductive RetP(g:Gh)(w:W)(f:PySem.Flow):Prop | mk (v:Value) (e:f=.ret v) (h:RepW g w v)
noncomputable def FlowRep(g:Gh):Flow→PySem.Flow→Prop:=Flow.rec (motive:=fun o0=>PySem.Flow→Prop) (fun f=>f=.next) (RetP g)
theorem notedBy_of{γ:Type}{r:Ex γ}{E:Value→Shared→Prop}{e:Value}(hE:∀s',Bad c g true r e s'→E e s'):Bad c g false r e s→notedBy c.M c.A c.env E e s
 |.mk x hr g' le sim fly=>wpAny_note sim fly fun s' w=>hE s' ((Bad.flown hr w).up le)
theorem Snd.runOwn{code:Code}{m:Km Flow}{Q:Gh→Flow→PySem.Flow→Prop}(h:SndC c g code m Q):Snd c g (runOwn code c.env) m Q:=⟨fun l st s x γ k r e=>
 wpAny_runOwn (codeAny_mono (h.h l x e) fun res s' z=>match res,z with
  |.ok _,z=>z
  |.error v,.mk y hr g' le sim fly=>wpAny_cameBack sim fly fun s'' w=>((Bad.flown hr w).up le).any)⟩
section
variable{C:CallT}
noncomputable def whN(C:CallT)(t:X)(b:List S):Nat→St→R Flow:=Nat.rec (fun o0=>none) fun o0 w=>tk C t fun y=>ifK y (B C b fun fl=>Flow.casesOn fl w fun v st=>some (.ok (.ret v),st)) kStop
theorem wh_N(t:X)(b:List S)(st:St)(r:Ex Flow)(e:Wh C t b st=some r):∃n,whN C t b n st=some r:=by
 unfold Wh at e
 refine whileM.partial_correctness ((ck C t).2 retK) (bk C b retK) (fun st r=>∃n,whN C t b n st=some r) (fun f ih st r e=>?_) st r e
 have step:∀n,whN C t b (n+1) st=bR ((ck C t).2 retK st) fun y=>ifK y (B C b fun fl=>Flow.casesOn fl (whN C t b n) fun v st=>some (.ok (.ret v),st)) kStop:=fun n=>(nat_t C (k:=retK) (x:=t)).symm
 split at e
 ·cases e
 ·rename_i x st' q;exact⟨1,by rw[step,q];exact e⟩
 ·rename_i st' q;exact⟨1,by rw[step,q];exact e⟩
 ·rename_i st' q
  have step2:∀n,whN C t b (n+1) st=bR (bk C b retK st') fun fl=>Flow.casesOn fl (whN C t b n) fun v st=>some (.ok (.ret v),st):=fun n=>by rw[step,q];exact(nat_B C (k:=retK) (x:=b)).symm
  split at e
  ·rename_i st'' q'
   obtain⟨n,hn⟩:=ih _ _ e
   exact⟨n+1,by rw[step2,q'];exact hn⟩
  ·rename_i q'
   refine⟨1,?_⟩
   rw[step2]
   rcases q2:bk C b retK st' with _ | ⟨_ | fl,st2⟩
   ·rw[q2]at e;cases e
   ·rw[q2]at e;exact e
   ·cases fl with
    |next=>exact absurd q2 (q' st2)
    |ret w=>rw[q2]at e;exact e
theorem bindR_get{γ δ:Type}{m:R γ}{k:Kt γ δ}{r:Ex δ}(e:bR m k=some r):∃r',m=some r'∧bR (some r') k=some r:=by
 rcases m with _ | r'
 ·cases e
 ·exact⟨r',rfl,e⟩
theorem SndC.while{test:Expr}{body:List Stmt}{t:X}{b:List S}(ht:Snd c g (isTrue test c.env (eval test c.env)) (tk C t) fun o0 x v=>v=x)
  (hb:Snd c g (PySem.execs body c.env) (B C b) FlowRep):SndC c g (.whileLoop test body [] c.env) (fun κ st=>bR (Wh C t b st) κ) FlowRep:=⟨fun {g₁} l {st s} x {γ k r} e=>by
 obtain⟨r',e1,e2⟩:=bindR_get e
 obtain⟨n,hn⟩:=wh_N t b st r' e1
 refine codeAny_whileLoop (fun n s=>∃g₂ st₂,Gh.Le g₁ g₂∧Sim c g₂ st₂ s∧bR (whN C t b n st₂) k=some r) (fun n s ⟨g₂,st₂,l₂,x₂,e₂⟩=>?_) n ⟨g₁,st,.refl _,x,hn▸e2⟩
 have bad:∀{e:Value} {s:Shared},Bad c g₂ false r e s→notedBy c.M c.A c.env (fun e s'=>Res c g₁ k r FlowRep (.error e) s') e s:=notedBy_of fun o0 z=>z.up l₂
 cases n with
 |zero=>exact nomatch e₂
 |succ n=>
  refine wpAny_mono (ht.h (l.trans l₂) x₂ ((nat_t C).symm.trans e₂)) (fun v s' z=>?_) fun o0 o0=>bad
  obtain⟨y,g₃,st₃,l₃,x₃,rfl,e₃⟩:=z
  cases v with
  |false=>exact wpAny_execs_nil (.mk .next g₃ st₃ (l₂.trans l₃) x₃ rfl e₃)
  |true=>
   refine wpAny_mono (hb.h (l.trans (l₂.trans l₃)) x₃ ((nat_B C).symm.trans e₃)) (fun f s'' w=>?_) fun o0 o0 z=>bad (z.up l₃)
   obtain⟨y,g₄,st₄,l₄,x₄,q,e₄⟩:=w
   have l':=(l₂.trans l₃).trans l₄
   cases y with
   |next=>cases (q:f=.next);exact⟨n,Nat.lt_succ_self _,g₄,st₄,l',x₄,e₄⟩
   |ret w=>obtain⟨v,rfl,hv⟩:=q;exact .mk (.ret w) g₄ st₄ l' x₄ ⟨v,rfl,hv⟩ e₄⟩
end
end
section
theorem lk_cons{α:Type}{l:List (Str×α)}{x n:Str}{v:α}:((n,v)::l).lookup x=if x=n then some v else l.lookup x:=by
 rw[List.lookup_cons]
 by_cases h:x=n
 ·rw[if_pos h,beq_iff_eq.mpr h]
 ·rw[if_neg h,beq_eq_false_iff_ne.mpr h]
theorem lk_zip{α:Type}{ns:List Str}:ns.Nodup→∀{vs:List α} {i:Nat} {x:Str},ns[i]?=some x→((ns.take vs.length).zip vs).lookup x=vs[i]?:=
 List.rec (motive:=fun ns=>ns.Nodup→∀{vs:List α} {i:Nat} {x:Str},ns[i]?=some x→((ns.take vs.length).zip vs).lookup x=vs[i]?) (fun o0 o0 o0 o0 e=>nomatch e) (fun n ns ih d vs i x e=>by
  have d:=List.nodup_cons.mp d
  cases vs with
  |nil=>rfl
  |cons v vs=>
   refine lk_cons.trans ?_
   cases i with
   |zero=>exact if_pos (Option.some.inj e).symm
   |succ i=>exact(if_neg fun(q:x=n)=>d.1 (q▸List.mem_of_getElem? e)).trans (ih d.2 e)) ns
theorem fm_zip{α:Type}{F:Str→Option α}{ns:List Str}{vs:List α}(hl:vs.length=ns.length)(h:∀(i:Nat) (x:Str),ns[i]?=some x→F x=vs[i]?):ns.filterMap (fun n=>(F n).map (n, ·))=ns.zip vs:=by
 induction ns generalizing vs with
 |nil=>rfl
 |cons n ns ih=>
  cases vs with
  |nil=>cases hl
  |cons v vs=>
   rw[List.filterMap_cons,h 0 n rfl]
   exact congrArg ((n,v):: ·) (ih (Nat.succ.inj hl) fun i x e=>h (i+1) x e)
@[reducible] noncomputable def plainFd(nm q:Str)(ar:List Arg)(kd:List (Option Expr))(ds:List Expr)(body:List Stmt)(sc:Scope)(kw doc pm:Value)(an:Option Addr)(cd ct:Value):FuncData:=
 {name:=nm,qualname:=q,params:=⟨[],ar,none,[],kd,none,ds⟩,body:=.stmts body,scope:=sc,globals:=mainGlobals,closure:=[],defaults:=.none,kwdefaults:=kw,doc:=doc,pyModule:=pm,annotations:=an,code:=cd,closureTuple:=ct,builtins:=builtinsNs}
theorem bindArgs_plain{nm q:Str}{ar:List Arg}{kd:List (Option Expr)}{ds:List Expr}{body:List Stmt}{sc:Scope}{kw doc pm:Value}{an:Option Addr}{cd ct:Value}{vals:List Value}
  (hn:(ar.map (·.arg)).Nodup) (hl:vals.length=ar.length):bindArgs (plainFd nm q ar kd ds body sc kw doc pm an cd ct) ⟨vals,[]⟩=pure ((ar.map (·.arg)).zip vals):=by
 have hm:vals.length=(ar.map (·.arg)).length:=hl.trans (lmp ..).symm
 generalize hns:ar.map (·.arg)=ns at hn hm
 have ht:ns.take vals.length=ns:=by rw[hm,List.take_length]
 have hk:∀(i:Nat) (x:Str),ns[i]?=some x→(ns.zip vals).lookup x=vals[i]?:=fun i x e=>(congrArg (fun l=>(List.zip l vals).lookup x) ht).symm.trans (lk_zip hn e)
 have h1:¬((decide (vals.length > ns.length)&&true)=true):=by rw[hm];simp
 have h2:(ns.take ns.length).filter (fun n=>((ns.zip vals).lookup n).isNone)=[]:=by
  rw[List.take_length,List.filter_eq_nil_iff]
  intro x hx
  obtain⟨i,hi⟩:=List.mem_iff_getElem?.mp hx
  rw[hk i x hi,gqe (hm▸(List.getElem?_eq_some_iff.mp hi).1)];exact Bool.false_ne_true
 have h3:(ns++[]).filterMap (fun n=>((ns.zip vals).lookup n).map (n, ·))=ns.zip vals:=by rw[apn];exact fm_zip hm hk
 unfold bindArgs
 dsimp only[plainFd]
 rw[hns]
 show(if(decide (vals.length > ns.length)&&true)=true then _ else _)=_
 rw[if_neg h1]
 show(if(!((ns.take (ns.length - (List.drop (0 - ns.length) ([]:List Value)).length)).filter (fun n=>((ns.zip vals).lookup n).isNone)).isEmpty)=true then _ else(forIn ((ns.drop (ns.length - (List.drop (0 - ns.length) ([]:List Value)).length)).zip (List.drop (0 - ns.length) ([]:List Value))) _ _ >>=_))=_
 rw[List.drop_nil]
 show(if(!((ns.take ns.length).filter (fun n=>((ns.zip vals).lookup n).isNone)).isEmpty)=true then _ else _)=_
 rw[h2]
 show(forIn ((ns.drop ns.length).zip []) (ns.zip vals) _ >>=_:Sem _)=_
 rw[List.zip_nil_right]
 exact congrArg (pure (f:=Sem)) h3
end
section
variable{c c':Cx}{g g':Gh}{st st':St}{s s':Shared}{h h':Heap}{a:Addr}
noncomputable def pushK(c:Cx)(h:Heap):BH:=fun a=>if a∈c.own then h.get? a else c.K a
section
variable(x:Sim c g st s)(hK:c'.K=pushK c s.heap)
include x hK
theorem push_K{o:Obj}(e:c.K a=some o):c'.K a=some o:=hK▸(if_neg ((x.at_ a).kp o e).own).trans e
theorem push_own(e:a∈c.own):c'.K a=s.heap.get? a:=hK▸if_pos e
theorem push_none(e:c'.K a=none):c.K a=none∧a∉c.own:=
 ⟨Option.eq_none_iff_forall_ne_some.mpr fun o q=>aBn e (push_K x hK q),fun q=>let ⟨_,o,q'⟩:=(x.at_ a).own q;aBn e ((push_own x hK q).trans q')⟩
theorem push_kp(y:Sim c' g' st' s'){o:Obj}(e:c.K a=some o):KpP c g' s'.heap a o:=have z:=(y.at_ a).kp o (push_K x hK e);⟨z.keep,z.B,((x.at_ a).kp o e).own⟩
theorem push_has(y:Sim c' g' st' s')(e:a∈c.own):∃o,s.heap.get? a=some o∧g'.B a=none∧Kp Eq s'.heap a o:=
 let ⟨_,o,q⟩:=(x.at_ a).own e;have z:=(y.at_ a).kp o ((push_own x hK e).trans q);⟨o,q,z.B,z.keep⟩
theorem Has.of{o:Obj}:Kp Eq h a o→Has h a | .mk o' e _ _ _ _=>⟨o',e⟩
theorem Kp.cross{o o1:Obj}(e:h.get? a=some o):Kp Eq h a o1→Kp Eq h' a o1→Kp Eq h' a o
 |.mk o2 f f1 f2 f3 f4,.mk o3 q q1 q2 q3 q4=>have z:=sIj f e;.mk o3 q (q1.trans (f1.symm.trans (z▸rfl))) (q2.trans (f2.symm.trans (z▸rfl))) ((z▸f3.symm:o.data=o1.data).trans q3) fun⟨vs,w⟩=>(q4 ⟨vs,w⟩).trans ((f4 ⟨vs,f3.symm.trans (q3.trans w)⟩).symm.trans (z▸rfl))
theorem push_env{g₂:Gh}(y:Sim c' g' st' s')(le:Gh.Le g g₂):EnvOk c g₂ st.loc s'.heap:=
 have ho:∀{a},a∈c.own→∀o,s.heap.get? a=some o→Kp Eq s'.heap a o:=fun e o q=>let ⟨o',q',_,z⟩:=push_has x hK y e;sIj q' q▸z
 x.env.keep le (ho x.ok.ownL) fun n ce h1 h2 h3 o q=>match(x.ok.cells n ce h1 h2 h3).at_ with
  |.inl e=>ho e o q
  |.inr ⟨o1,_,e,_⟩=>Kp.cross x hK q ((x.at_ ce).kp o1 e).keep (push_kp x hK y e).keep
theorem Sim.pop(hs:c'.s₁=c.s₁)(y:Sim c' g' st' s')(le:Gh.Le g g'):Sim c g' ⟨st.loc,st'.mem⟩ s' where
 ok:=x.ok
 at_ a:=(y.at_ a).keepG hs.symm (fun o0 o0 e=>e) (fun o0=>.of) (.refl _) rfl (fun o e=>push_kp x hK y e) (fun e=>let ⟨_,_,q,z⟩:=push_has x hK y e;⟨q,.of x hK z⟩)
  fun i o e e' l=>let n:=push_none x hK ((y.at_ a).mem i o e e' l).K;⟨e,e',id,n.1,n.2⟩
 len:=y.len
 env:=push_env x hK y le
 gens:=y.gens
 os:=hs▸y.os
end
noncomputable def New(g:Gh)(st:St)(n:Nat)(a:Addr):Prop:=∃i o,n≤i∧g.φ[i]?=some a∧st.mem[i]?=some o∧o.live
open Classical in
noncomputable def truncB(g:Gh)(st:St)(h:Heap)(n:Nat):BH:=fun a=>if New g st n a then h.get? a else g.B a
theorem truncB_le(x:Sim c g st s)(n:Nat):BH.Le g.B (truncB g st s.heap n):=fun a o e=>(if_neg fun⟨i,q,h1,h2,h3,h4⟩=>aBn ((x.at_ a).mem i q h2 h3 h4).B e).trans e
theorem All2.monoM{α β:Type}{R R':α→β→Prop}{l:List α}{l':List β}(r:All2 R l l'):(∀a b,a∈l→R a b→R' a b)→All2 R' l l':=
 All2.rec (motive:=fun l l' o0=>(∀a b,a∈l→R a b→R' a b)→All2 R' l l') (fun o0=>.nil) (fun h o0 i k=>.cons (k _ _ (.head _) h) (i fun a b e=>k a b (.tail _ e))) r
theorem RepO.trunc(hB:BH.Le g.B g'.B){i:Nat}(hφ:∀(j:Nat) (b:Addr),j < i→g.φ[j]?=some b→g'.φ[j]?=some b){w:Option W}{v:Option Value}(ok:∀x,w=some x→okField i x=true):RepO g w v→RepO g' w v:=
 match w,ok with
 |none,_=>id
 |some (.v x),_=>fun | .mk v e r=>.mk v e (Rep.mono hB r)
 |some (.l j),ok=>fun | .mk v e (.mk a q q')=>.mk v e (.mk a (hφ j a (of_decide_eq_true (ok _ rfl)) q) q')
 |some (.o _ _),ok=>nomatch ok _ rfl
theorem ORep.trunc(hB:BH.Le g.B g'.B){i:Nat}(hφ:∀(j:Nat) (b:Addr),j < i→g.φ[j]?=some b→g'.φ[j]?=some b){o:AO}:ORep g h i a o→ORep g' h i a o:=
 AO.casesOn (motive:=fun o=>ORep g h i a o→ORep g' h i a o) o (fun l=>fun | .mk o vs n e cls dat reps len dict=>.mk o vs n e cls dat (reps.mono hB) len dict)
  (fun c fs=>fun | .mk ws ns reps len old=>.mk ws ns (reps.monoM fun w v e=>RepO.trunc hB hφ fun x q=>old x (q▸e)) len old) id
theorem take_some{α:Type}{l:List α}{n i:Nat}{a:α}(e:(l.take n)[i]?=some a):i < n∧l[i]?=some a:=by
 rw[List.getElem?_take]at e
 by_cases hi:i < n
 ·exact⟨hi,(if_pos hi).symm.trans e⟩
 ·exact aBn (if_neg hi) e
theorem Gh.Le.length(le:Gh.Le g g'):g.φ.length≤g'.φ.length:=by
 rcases Nat.eq_zero_or_pos g.φ.length with h | h
 ·rw[h];exact Nat.zero_le _
 ·have h1:=Nat.sub_lt h Nat.one_pos
  have h2:=(List.getElem?_eq_some_iff.mp (le.2 _ _ (gqe h1))).1
  have h3:=Nat.sub_add_cancel h
  exact h3▸h2
theorem Sim.back(x:Sim c g st s)(hs:c'.s₁=c.s₁)(hK:c'.K=pushK c s.heap)(y:Sim c' g' st' s')(le:Gh.Le g g'):
  Sim c ⟨truncB g' st' s'.heap st.mem.length,g.φ⟩ ⟨st.loc,st'.mem.take st.mem.length⟩ s':=
 have lB:=truncB_le y st.mem.length
 have hφ:∀(j:Nat) (b:Addr),j < st.mem.length→g'.φ[j]?=some b→g.φ[j]?=some b:=fun j b hj e=>by
  have q:=gqe (x.len▸hj)
  exact q.trans ((le.2 _ _ q).symm.trans e)
 {ok:=x.ok
  at_:=fun a=>by
   have z:=y.at_ a
   by_cases hn:New g' st' st.mem.length a
   ·obtain⟨i,o,h1,h2,h3,h4⟩:=hn
    have w:=z.mem i o h2 h3 h4
    have n:=push_none x hK w.K
    have e:truncB g' st' s'.heap st.mem.length a=s'.heap.get? a:=if_pos ⟨i,o,h1,h2,h3,h4⟩
    refine⟨fun o' q=>aBn w.B (z.base o' (hs.symm▸q)).1,fun o' q=>⟨(Kp.of (e.symm.trans q)).weak,fun vs q1 q2 o0=>?_⟩,fun o' q=>aBn n.1 q,fun q=>absurd q n.2,fun j q f f' l=>absurd (w.inj j q (le.2 _ _ f) (take_some f').2 l) (Nat.ne_of_lt (Nat.lt_of_lt_of_le (take_some f').1 h1))⟩
    have r:=w.rep
    cases o with
    |list l=>cases r with | mk o2 _ _ q3 cls=>exact Value.noConfusion ((sIj (e.symm.trans q) q3▸q1).symm.trans cls)
    |obj c fs=>cases r with | mk ws ns=>obtain⟨o2,_,_,q3,q4,_⟩:=ns;exact Data.noConfusion ((sIj (e.symm.trans q) q3▸q2).symm.trans q4)
    |dead=>exact h4.elim
   ·have e:truncB g' st' s'.heap st.mem.length a=g'.B a:=if_neg hn
    refine z.keepG hs.symm (fun o0 o0 e=>e) (fun o0=>.of) lB e (fun o q=>let w:=push_kp x hK y q;⟨w.keep,e.trans w.B,w.own⟩) (fun q=>let ⟨_,_,w,v⟩:=push_has x hK y q;⟨e.trans w,.of x hK v⟩) fun i o f f' l=>?_
    obtain⟨hi,f'⟩:=take_some f'
    have f2:=le.2 _ _ f
    have n:=push_none x hK (z.mem i o f2 f' l).K
    exact⟨f2,f',ORep.trunc (g':=⟨truncB g' st' s'.heap st.mem.length,g.φ⟩) lB fun j b hj=>hφ j b (Nat.lt_trans hj hi),n.1,n.2⟩
  len:=by rw[List.length_take,Nat.min_eq_left (x.len▸y.len▸le.length)];exact x.len
  env:=push_env x hK y ⟨le.1.trans lB,fun o0 o0 e=>e⟩
  gens:=y.gens
  os:=hs▸y.os}
theorem Sim.back_le(y:Sim c' g' st' s')(le:Gh.Le g g')(n:Nat):Gh.Le g ⟨truncB g' st' s'.heap n,g.φ⟩:=⟨le.1.trans (truncB_le y n),fun o0 o0 e=>e⟩
theorem Fly.back(y:Sim c' g' st' s'){φ:List Addr}{n:Nat}{tb:Bool}{v:V}{e:Value}:Fly g' s'.heap tb v e→Fly ⟨truncB g' st' s'.heap n,φ⟩ s'.heap tb v e
 |.mk z hx a he rep t=>.mk z hx a he (Rep.mono (truncB_le y n) rep) (t.keep (fun o0=>.of) (truncB_le y n))
theorem ite_get{α:Type}{p:Prop}{_:Decidable p}{o:Option α}{x:α}(e:(if p then o else none)=some x):p∧o=some x:=
 (Classical.em p).elim (fun h=>⟨h,(if_pos h).symm.trans e⟩) fun h=>aBn (if_neg h) e
theorem aoL_some{m:Option AO}{l:List V}(e:aoL m=some l):m=some (.list l):=
 match m,e with | some (.list _),rfl=>rfl
theorem aoO_some{m:Option AO}{p:Nat×List (Option W)}(e:aoO m=some p):m=some (.obj p.1 p.2):=
 match m,e with | some (.obj _ _),rfl=>rfl
theorem map_get{α β:Type}{o:Option α}{f:α→β}{x:β}(e:o.map f=some x):∃a,o=some a∧f a=x:=Option.map_eq_some_iff.mp e
theorem bGt{α β:Type}{o:Option α}{f:α→Option β}{x:β}(e:o.bind f=some x):∃a,o=some a∧f a=some x:=Option.bind_eq_some_iff.mp e
theorem list_rep(y:Sim c g st s){n i:Nat}{l:List V}{v:Value}(hi:n≤i)(hm:st.mem[i]?=some (.list l)):LocP g i v→ListP (truncB g st s.heap n) (Reps (truncB g st s.heap n) l) l.length v
 |.mk a e q=>match((y.at_ a).mem i _ e hm trivial).rep with
  |.mk o vs k e1 e2 e3 e4 e5 e6=>.mk a o vs k q ((if_pos ⟨i,_,hi,e,hm,trivial⟩).trans e1) e2 e3 (e4.mono (truncB_le y n)) (tSz e5) e6
theorem field_rep(y:Sim c g st s){n:Nat}{w:W}{x:V}{v:Value}(e:fieldV n st.mem w=some x)(r:RepW g w v):Rep (truncB g st s.heap n) x v:=by
 cases w with
 |v z=>cases e;exact Rep.mono (truncB_le y n) r
 |l j=>
  obtain⟨hj,e⟩:=ite_get e
  obtain⟨l,hl,rfl⟩:=map_get e
  exact list_rep y hj (aoL_some hl) r
 |o c j=>cases e
theorem fields_rep(y:Sim c g st s){n:Nat}{fs:List (Option W)}{ws:List (Option Value)}(r:RepsO g fs ws):∀{xs:List V},fieldsV n st.mem fs=some xs→∃vs,ws=vs.map some∧Reps (truncB g st s.heap n) xs vs∧xs.length=fs.length:=by
 induction r with
 |nil=>intro xs e;cases e;exact⟨[],rfl,.nil,rfl⟩
 |@cons w v fs ws h r ih=>
  intro xs e
  obtain⟨w,rfl,e⟩:=bGt e
  obtain⟨x,e1,e⟩:=bGt e
  obtain⟨xs',e2,rfl⟩:=map_get e
  obtain⟨v,rfl,hv⟩:=h
  obtain⟨vs,rfl,rs,hl⟩:=ih e2
  exact⟨v::vs,rfl,Reps.cons (field_rep y e1 hv) rs,congrArg Nat.succ hl⟩
theorem handBack_rep(y:Sim c g st s){φ:List Addr}{n:Nat}{w w':W}{v:Value}(e:handBack n st.mem w=some w')(r:RepW g w v):RepW ⟨truncB g st s.heap n,φ⟩ w' v:=by
 cases w with
 |v z=>cases e;exact Rep.mono (truncB_le y n) r
 |l j=>
  obtain⟨hj,e⟩:=ite_get e
  obtain⟨l,hl,rfl⟩:=map_get e
  exact list_rep y hj (aoL_some hl) r
 |o cl j=>
  obtain⟨hj,e⟩:=ite_get e
  obtain⟨⟨c',fs⟩,hl,e⟩:=bGt e
  obtain⟨hc,e⟩:=ite_get e
  cases hc
  obtain⟨xs,hxs,rfl⟩:=map_get e
  have hl:=aoO_some hl
  obtain⟨a,z,o,h3,rfl,h4,h5,h6,h7,h8⟩:=r
  obtain⟨ws,⟨od,es,ep,e1,e2,e3,e4,e5⟩,e6,e7,e8⟩:=((y.at_ a).mem j _ h3 hl trivial).rep
  obtain⟨vs,rfl,r1,r2⟩:=fields_rep y e6 hxs
  exact .mk z a o es vs rfl (truncB_le y n _ _ h4) h5 h7 (.mk od ep h6 h8 ((if_pos ⟨j,_,hj,h3,hl,trivial⟩).trans e1) e2 e3 e4) r1 (r2.trans e7) e5
end
section
variable{c c':Cx}{g g':Gh}{st st':St}{s s':Shared}{h h':Heap}{a:Addr}
noncomputable def slotsOf(names:List (Str×NameKind)):List Str:=(names.filter fun x=>x.2==.local || x.2==.cell).map (·.1)
theorem lk_mem{α:Type}{n:Str}{v:α}{l:List (Str×α)}:(l.map (·.1)).Nodup→(n,v)∈l→l.lookup n=some v:=
 List.rec (motive:=fun l=>(l.map (·.1)).Nodup→(n,v)∈l→l.lookup n=some v) (fun o0 e=>nomatch e) (fun p l ih d e=>by
  have d:=List.nodup_cons.mp d
  rcases List.mem_cons.mp e with q | q
  ·exact q▸lk_cons.trans (if_pos rfl)
  ·exact lk_cons.trans ((if_neg fun(z:n=p.1)=>d.1 (show p.1∈l.map (·.1)from z▸(List.mem_map_of_mem (f:=(·.1)) q:n∈l.map (·.1)))).trans (ih d.2 q))) l
theorem lk_out{α:Type}{n:Str}{l:List (Str×α)}(h:n∉l.map (·.1)):l.lookup n=none:=
 List.lookup_eq_none_iff.mpr fun p hp=>bne_iff_ne.mpr fun q=>h (q▸List.mem_map_of_mem (f:=(·.1)) hp)
theorem slotsOf_kind{names:List (Str×NameKind)}(d:(names.map (·.1)).Nodup){x:Str}(e:x∈slotsOf names):names.lookup x=some .local∨names.lookup x=some .cell:=by
 obtain⟨⟨n,k⟩,hm,rfl⟩:=List.mem_map.mp e
 obtain⟨hm,hk⟩:=List.mem_filter.mp hm
 have:=lk_mem d hm
 rcases(Bool.or_eq_true _ _).mp hk with q | q
 ·exact .inl (eq_of_beq q▸this)
 ·exact .inr (eq_of_beq q▸this)
theorem slotsOf_nodup{names:List (Str×NameKind)}(d:(names.map (·.1)).Nodup):(slotsOf names).Nodup:=d.sublist (List.filter_sublist.map _)
theorem cells_some{x:Str}{names:List (Str×NameKind)}:∀{n:Nat} {acc:List (Str×Addr)},((x,NameKind.cell)∈names∨(acc.lookup x).isSome=true)→((cellsFrom n names acc).lookup x).isSome=true:=
 List.rec (motive:=fun names=>∀{n:Nat} {acc:List (Str×Addr)},((x,NameKind.cell)∈names∨(acc.lookup x).isSome=true)→((cellsFrom n names acc).lookup x).isSome=true)
  (fun e=>e.elim (fun e=>nomatch e) id) (fun p r ih n acc e=>by
   obtain⟨m,k⟩:=p
   unfold cellsFrom
   have le:(acc.lookup x).isSome=true→(((m,n)::acc).lookup x).isSome=true:=fun q=>by
    rw[lk_cons];by_cases z:x=m
    ·rw[if_pos z];rfl
    ·rw[if_neg z];exact q
   by_cases hk:(k==NameKind.cell)=true
   ·rw[if_pos hk]
    refine ih (e.elim (fun e=>(List.mem_cons.mp e).elim (fun q=>.inr ?_) .inl) fun e=>.inr (le e))
    cases q;rw[lk_cons,if_pos rfl];rfl
   ·rw[if_neg hk]
    exact ih (e.elim (fun e=>(List.mem_cons.mp e).elim (fun q=>absurd (by cases q;rfl) hk) .inl) .inr)) names
theorem bindL_eq{kindOf:Str→Option NameKind}{x:Str}(hx:kindOf x=some .local){binds:List (Str×Value)}:(binds.map (·.1)).Nodup→∀{m:Str→Option Value},bindL kindOf binds m x=(binds.lookup x).or (m x):=
 List.rec (motive:=fun binds=>(binds.map (·.1)).Nodup→∀{m:Str→Option Value},bindL kindOf binds m x=(binds.lookup x).or (m x)) (fun o0 o0=>rfl) (fun p r ih d m=>by
  have d:=List.nodup_cons.mp d
  refine(ih d.2).trans ?_
  rw[lk_cons]
  by_cases q:x=p.1
  ·rw[lk_out (q▸d.1),if_pos q,if_pos (q▸hx),if_pos q];rfl
  ·rw[if_neg q];exact congrArg _ (by split;exact if_neg q;rfl)) binds
theorem bindC_eq{kindOf:Str→Option NameKind}{x:Str}(hx:kindOf x=some .cell){binds:List (Str×Value)}:(binds.map (·.1)).Nodup→∀{m:Str→Option Value},bindC kindOf binds m x=(binds.lookup x).or (m x):=
 List.rec (motive:=fun binds=>(binds.map (·.1)).Nodup→∀{m:Str→Option Value},bindC kindOf binds m x=(binds.lookup x).or (m x)) (fun o0 o0=>rfl) (fun p r ih d m=>by
  have d:=List.nodup_cons.mp d
  refine(ih d.2).trans ?_
  rw[lk_cons]
  by_cases q:x=p.1
  ·rw[lk_out (q▸d.1),if_pos q,if_neg (q▸fun z=>nomatch hx.symm.trans z),if_pos q];rfl
  ·rw[if_neg q];exact congrArg _ (by split;rfl;exact if_neg q)) binds
inductive PlainP(fd:FuncData)(body:List Stmt):Prop
 |mk (nm q:Str) (ar:List Arg) (kd:List (Option Expr)) (ds:List Expr) (sc:Scope) (kw doc pm:Value) (an:Option Addr) (cd ct:Value) (e:fd=plainFd nm q ar kd ds body sc kw doc pm an cd ct)
structure FnOk(K:Frag)(f:Nat)(d:FnDef)(fd:FuncData)(body:List Stmt):Prop where
 at_:∃c dd sl,K.lookup (TT.fn f)=some ⟨c,dd,.func fd,sl⟩
 plain:PlainP fd body
 kind:fd.scope.kind=.function
 gen:fd.scope.isGenerator=false
 cor:fd.scope.isCoroutine=false
 args:fd.params.args.map (·.arg)=(slotsOf fd.scope.names).take d.np
 nl:(slotsOf fd.scope.names).length=d.nl
 np:d.np≤d.nl
 nod:(fd.scope.names.map (·.1)).Nodup
 code:codeIn K fd.code fd.qualname=true
noncomputable def calleeOwn(fd:FuncData)(L a:Addr):List Addr:=L::(slotsOf fd.scope.names).filterMap fun n=>(callEnvC fd L a).cells.lookup n
noncomputable def callee(c:Cx)(fd:FuncData)(a:Addr)(h:Heap)(n:Nat):Cx:=
 {w:=c.w,s₁:=c.s₁,A:=c.A.deeper (callEnvC fd h.objs.size a),env:=callEnvC fd h.objs.size a,slots:=slotsOf fd.scope.names,own:=calleeOwn fd h.objs.size a,K:=pushK c h,fr:=callEnvC fd h.objs.size a::c.fr,n:=n,k:=0}
section
variable{n f:Nat}{d:FnDef}{fd:FuncData}{body:List Stmt}(F:FnOk (TT.K c.w.params) f d fd body)(x:Sim c g st s)(hn:c.n=n+1){s₁:Shared}{binds:List (Str×Value)}
include F x hn
theorem calleeOk(I:InCallC s (callEnvC fd s.heap.objs.size a).locals (bindL (callEnvC fd s.heap.objs.size a).kindOf binds fun o0=>none) (callEnvC fd s.heap.objs.size a).cells
    (bindC (callEnvC fd s.heap.objs.size a).kindOf binds fun o0=>none) s₁):CxOk (callee c fd a s.heap n) where
 kind:=F.kind
 nod:=slotsOf_nodup F.nod
 ownL:=.head _
 cells y ce hy hk hl:=⟨Nat.ne_of_gt (I.above y ce (mem_of_lookup hl)),.inl (.tail _ (List.mem_filterMap.mpr ⟨y,hy,hl⟩))⟩
 apart y z ce hy hz hk hk' hl hl':=name_of_addr I.apart (mem_of_lookup hl) (mem_of_lookup hl')
 handled:=x.ok.handled
 frames:=Around.frames_deeper x.ok.frames
 globals:=match F.plain with | .mk _ _ _ _ _ _ _ _ _ _ _ _ e=>e▸rfl
 builtins:=match F.plain with | .mk _ _ _ _ _ _ _ _ _ _ _ _ e=>e▸rfl
 stand e he:=(List.mem_cons.mp he).elim (fun q=>q▸.mk (fun z=>nomatch F.kind.symm.trans z) s.heap.objs.size rfl (x.free (Nat.le_refl _)).base (.inl rfl)) fun q=>match x.ok.stand e q with
  |.mk k L e1 e2 (.inl e3)=>match x.env with | .mk _ _ ⟨o,_,_,q1,q2,_⟩ _=>.mk k L e1 e2 (.inr ⟨o,(if_pos (e3▸x.ok.ownL)).trans (e3▸q1),fun vs z=>Data.noConfusion (q2.symm.trans z)⟩)
  |.mk k L e1 e2 (.inr ⟨o,e3,e4⟩)=>.mk k L e1 e2 (.inr ⟨o,(if_neg ((x.at_ L).kp o e3).own).trans e3,e4⟩)
 frame:=⟨_,_,rfl,rfl⟩
 bas:=x.ok.bas
 slack:=Nat.zero_le _
 depth:=by have h1:=x.ok.depth;have h2:=x.ok.slack;rw[hn]at h1;show c.A.depth+1+5*n≤900;lia
 units:=by have h1:=x.ok.units;have h2:=x.ok.slack;rw[hn]at h1;show c.A.units+3+40*n≤9000;lia
end
theorem RepsW.some{args:List W}{vals:List Value}(r:RepsW g args vals):RepsO g (args.map Option.some) (vals.map Option.some):=All2.rec (motive:=fun l l' o0=>RepsO g (l.map Option.some) (l'.map Option.some)) .nil (fun h o0 i=>.cons (.mk _ rfl h) i) r
theorem pad_get{vals:List Value}{k i:Nat}{v:Option Value}(e:(vals.map some++List.replicate k none)[i]?=some v):v=vals[i]?:=by
 rcases Nat.lt_or_ge i vals.length with q | q
 ·rw[List.getElem?_append_left (by rw[lmp];exact q),List.getElem?_map,gqe q]at e
  exact(Option.some.inj e).symm.trans (gqe q).symm
 ·rw[List.getElem?_append_right (by rw[lmp];exact q)]at e
  exact(List.eq_of_mem_replicate (List.mem_of_getElem? e)).trans (List.getElem?_eq_none q).symm
section
variable{n f:Nat}{d:FnDef}{K:Frag}{fd:FuncData}{body:List Stmt}(F:FnOk K f d fd body){args:List W}{vals:List Value}(hr:RepsW g args vals)(hl:args.length=d.np)
include F hr hl
theorem enterEnv{s₁:Shared}(hc:c'.slots=slotsOf fd.scope.names)(he:c'.env=callEnvC fd s.heap.objs.size a)(I:InCallC s (callEnvC fd s.heap.objs.size a).locals (bindL (callEnvC fd s.heap.objs.size a).kindOf ((fd.params.args.map (·.arg)).zip vals) fun o0=>none) (callEnvC fd s.heap.objs.size a).cells
    (bindC (callEnvC fd s.heap.objs.size a).kindOf ((fd.params.args.map (·.arg)).zip vals) fun o0=>none) s₁):EnvOk c' g (args.map some++List.replicate (d.nl - d.np) none) s₁.heap:=by
 have hvl:vals.length=d.np:=hr.length.trans hl
 have hbn:(((fd.params.args.map (·.arg)).zip vals).map (·.1)).Nodup:=by
  rw[F.args,List.map_fst_zip (by rw[hvl];exact List.length_take_le ..)]
  exact(slotsOf_nodup F.nod).sublist (List.take_sublist ..)
 have hR:RepsO g (args.map some++List.replicate (d.nl - d.np) none) (vals.map some++List.replicate (d.nl - d.np) none):=hr.some.append (.replicate trivial _)
 have look:∀{i:Nat} {y:Str} {w:Option W},(slotsOf fd.scope.names)[i]?=some y→(args.map some++List.replicate (d.nl - d.np) none)[i]?=some w→RepO g w ((((fd.params.args.map (·.arg)).zip vals).lookup y).or none):=fun {i y w} h1 h2=>by
  obtain⟨v,h3,h4⟩:=hR.get h2
  have h5:=lk_zip (vs:=vals) (slotsOf_nodup F.nod) h1
  rw[hvl,←F.args]at h5
  rw[h5,Option.or_none,←pad_get h3];exact h4
 obtain⟨cw,cs,cA,ce,cl,co,cK,cf,cn,ck⟩:=c'
 cases (hc:cl=_);cases (he:ce=_)
 exact .mk _ (by
    show(args.map some++List.replicate (d.nl - d.np) none).length=(slotsOf fd.scope.names).length
    rw[lap,lmp,List.length_replicate,hl,F.nl];exact Nat.add_sub_cancel' F.np) I.toInCall.ns fun i y w h1 h2=>(slotsOf_kind F.nod (List.mem_of_getElem? h1)).elim
   (fun q=>.loc q (Eq.mpr (congrArg _ (bindL_eq q hbn)) (look h1 h2)))
   fun q=>let ⟨ce,hc⟩:=Option.isSome_iff_exists.mp (cells_some (n:=s.heap.objs.size+1) (acc:=[]) (.inl (mem_of_lookup q)));.cell q ce hc _ (I.cell y ce hc) (Eq.mpr (congrArg _ (bindC_eq q hbn)) (look h1 h2))
theorem fn_lens:vals.length=fd.params.args.length∧(fd.params.args.map (·.arg)).Nodup:=
 ⟨by rw[hr.length,hl,←lmp (f:=(·.arg)),F.args,List.length_take,F.nl,Nat.min_eq_left F.np],by rw[F.args];exact(slotsOf_nodup F.nod).sublist (List.take_sublist ..)⟩
omit hr hl in
theorem callee_new{s₁:Shared}{m:Str→Option Value}{mc:Str→Option Value}(I:InCallC s (callEnvC fd s.heap.objs.size a).locals m (callEnvC fd s.heap.objs.size a).cells mc s₁):∀b∈calleeOwn fd s.heap.objs.size a,s.heap.objs.size≤b∧Has s₁.heap b:=fun b hb=>(List.mem_cons.mp hb).elim
  (fun q=>by
   subst q
   obtain⟨o,_,_,e,_⟩:=I.toInCall.ns
   exact⟨Nat.le_refl _,o,e⟩) fun q=>let ⟨nm,_,h2⟩:=List.mem_filterMap.mp q;let ⟨o,e,_⟩:=I.cell nm b h2;⟨Nat.le_of_lt (I.above nm b (mem_of_lookup h2)),o,e⟩
end
section
variable{n f:Nat}{d:FnDef}{fd:FuncData}{body:List Stmt}(F:FnOk (TT.K c.w.params) f d fd body)(x:Sim c g st s)(hn:c.n=n+1){s₁:Shared}{args:List W}{vals:List Value}
 (hr:RepsW g args vals) (hl:args.length=d.np)
include F x hn hr hl
theorem calleeSim(I:InCallC s (callEnvC fd s.heap.objs.size a).locals (bindL (callEnvC fd s.heap.objs.size a).kindOf ((fd.params.args.map (·.arg)).zip vals) fun o0=>none) (callEnvC fd s.heap.objs.size a).cells
    (bindC (callEnvC fd s.heap.objs.size a).kindOf ((fd.params.args.map (·.arg)).zip vals) fun o0=>none) s₁):
  Sim (callee c fd a s.heap n) g ⟨args.map some++List.replicate (d.nl - d.np) none,st.mem⟩ s₁:=by
 have ok:=calleeOk F x hn I
 have k:=I.toInCall.keep
 have hO:=callee_new F I
 have hN:∀{b o},s.heap.get? b=some o→b∉calleeOwn fd s.heap.objs.size a:=fun e q=>absurd (Heap.lt_size e) (Nat.not_lt.mpr (hO _ q).1)
 have env:=enterEnv (c':=callee c fd a s.heap n) F hr hl rfl rfl I
 obtain⟨h',tk,rfl⟩:=I.toInCall.same
 exact {
  ok:=ok
  at_:=fun b=>(x.at_ b).keepG rfl (fun o o0=>k b o) (fun o e=>.of (k b o e)) (.refl _) rfl (fun o e=>(Classical.em (b∈c.own)).elim
    (fun q=>have e:s.heap.get? b=some o:=(if_pos q).symm.trans e;⟨.of (k b o e),((x.at_ b).own q).1,hN e⟩)
    fun q=>have z:=(x.at_ b).kp o ((if_neg q).symm.trans e);⟨z.keep.keep fun o e=>.of (k b o e),z.B,match z.keep with | .mk _ e _ _ _ _=>hN e⟩)
   (fun e=>⟨(x.free (hO b e).1).B,(hO b e).2⟩)
   fun i o e e' l=>have z:=(x.at_ b).mem i o e e' l;⟨e,e',ORep.keep (fun o e=>.of (k b o e)) (.refl g),(if_neg z.own).trans z.K,match o,l,z.rep with
    |.list _,_,.mk _ _ _ f _ _ _ _ _=>hN f
    |.obj _ _,_,.mk _ ⟨_,_,_,f,_⟩ _ _ _=>hN f⟩
  len:=x.len
  env:=env
  gens:=x.gens
  os:=x.os}
end
noncomputable def CodeSnd(c:Cx)(g:Gh)(C:CallT)(fv:Value)(vals:List Value)(f:Nat)(args:List W):Prop:=∀{g₁},Gh.Le g g₁→∀{st s},Sim c g₁ st s→∀{γ:Type} {k:Kt W γ} {r},callK (C f args st.mem) st.loc k=some r→
 codeAny c.M c.A (.call fv ⟨vals,[]⟩) (fun res s'=>match res with | .ok (.ret v)=>Post c g₁ k r RepW v s' | .ok _=>False | .error e=>Bad c g₁ false r e s') s
theorem CodeSnd.snd{C:CallT}{fv:Value}{vals:List Value}{f:Nat}{args:List W}(h:CodeSnd c g C fv vals f args):Snd c g (call fv vals) (fun κ st=>callK (C f args st.mem) st.loc κ) RepW:=⟨fun l o0 o0 x o0 o0 o0 e=>wpAny_call (h l x e)⟩
noncomputable def CallsOk(n:Nat):Prop:=∀c,c.n=n→∀g (f:Nat) args vals,(∃d,fns[f]?=some d)→RepsW g args vals→CodeSnd c g (cN prog n) (.ref (TT.fn f)) vals f args
noncomputable def BodyOk(n:Nat)(d:FnDef)(fd:FuncData)(body:List Stmt):Prop:=∀c,c.n=n→c.k=0→c.slots=slotsOf fd.scope.names→c.env.scope=fd.scope→(∀x,c.env.kindOf x=some .cell→∃ce,c.env.cells.lookup x=some ce)→
 (∀x ce,x∈c.slots→c.env.kindOf x=some .cell→c.env.cells.lookup x=some ce→ce∈c.own)→∀g,Snd c g (PySem.execs body c.env) (B (cN prog c.n) d.body) FlowRep
theorem flow_rep{fl:Flow}{fl':PySem.Flow}(z:FlowRep g fl fl'):RepW g (flW fl) (match(generalizing:=false) fl' with | .ret v=>v | _=>.none):=by
 cases fl with
 |next=>cases (z:fl'=.next);rfl
 |ret w=>obtain⟨v,rfl,h⟩:=z;exact h
theorem endR_get{γ:Type}{fl:Flow}{n:Nat}{loc:List (Option W)}{k:Kt W γ}{r:Ex γ}(e:callK (endR (some (.ok fl,st)) n) loc k=some r):∃w,handBack n st.mem (flW fl)=some w∧k w ⟨loc,st.mem.take n⟩=some r:=by
 obtain⟨w,hw,e⟩:∃w,handBack n st.mem (flW fl)=some w∧callK (some (.ok w,st.mem.take n)) loc k=some r:=by
  replace e:callK ((handBack n st.mem (flW fl)).map fun w=>(.ok w,st.mem.take n)) loc k=some r:=e
  cases hw:handBack n st.mem (flW fl)with
  |none=>rw[hw]at e;cases e
  |some w=>rw[hw]at e;exact⟨w,rfl,e⟩
 exact⟨w,hw,e⟩
theorem call_none{n f:Nat}{args:List W}{mem:List AO}{d:FnDef}(hd:fns[f]?=some d)(h:args.length≠d.np):cN prog (n+1) f args mem=none:=by
 show(fns[f]?.bind fun d=>if args.length=d.np then _ else none)=none
 rw[hd];exact if_neg h
theorem call_sound{n f:Nat}{d:FnDef}{fd:FuncData}{body:List Stmt}(F:FnOk (TT.K c.w.params) f d fd body)(hd:fns[f]?=some d)(hb:BodyOk n d fd body)(hn:c.n=n+1){args:List W}{vals:List Value}(hr:RepsW g args vals):
  CodeSnd c g (cN prog (n+1)) (.ref (TT.fn f)) vals f args:=fun {g₁} l {st s} x {γ k r} e=>by
 have hr:=RepsW.mono l hr
 by_cases hl:args.length=d.np
 ·rw[call_body n f args st.mem d hd hl]at e
  obtain⟨oc,dd,sl,hat⟩:=F.at_
  have hbase:=fun a o q=>((x.at_ a).base o q).2
  obtain⟨hal,hnd⟩:=fn_lens F hr hl
  have hbd:fd.body=.stmts body∧fd.closure=[]∧bindArgs fd ⟨vals,[]⟩=pure ((fd.params.args.map (·.arg)).zip vals):=by
   obtain⟨nm,q,ar,kd,ds,sc,kw,doc,pm,an,cd,ct,rfl⟩:=F.plain
   exact⟨rfl,rfl,bindArgs_plain hnd hal⟩
  refine codeAny_call_cells (by have h1:=x.ok.depth;have h2:=x.ok.slack;rw[hn]at h1;show c.A.depth < 1000;lia) (hbase _ _ (x.ok.bas.K _ _ hat)) rfl (x.ok.bas.nolimit.keeps hbase) ((codeRec_of x.ok.bas.K F.code).keeps hbase) hbd.1 hbd.2.2 hbd.2.1
   (fun y hy=>(slotsOf_kind F.nod (List.mem_of_mem_take (F.args▸(List.of_mem_zip (show(y.1,y.2)∈_ from hy)).1))).elim .inl fun q=>.inr ⟨q,cells_some (.inl (mem_of_lookup q))⟩) (fun s₁ I=>?_) F.cor F.gen F.kind
  have x':=calleeSim F x hn hr hl I
  cases e0:B (cN prog n) d.body kEnd ⟨args.map some++List.replicate (d.nl - d.np) none,st.mem⟩with
  |none=>rw[e0]at e;cases e
  |some r0=>
   refine wpAny_mono ((hb (callee c fd (TT.fn f) s.heap n) rfl rfl rfl rfl (fun y q=>Option.isSome_iff_exists.mp (cells_some (.inl (mem_of_lookup q)))) (fun y ce hy hk hc=>.tail _ (List.mem_filterMap.mpr ⟨y,hy,hc⟩)) g₁).h (.refl _) x' e0) (fun fl s' z=>?_) fun ev s' z=>?_
   ·obtain⟨w,g',st',le,sim,q,e1⟩:=z
    cases e1
    rw[e0]at e
    obtain⟨w',hw,e⟩:=endR_get e
    exact .mk w' _ _ (sim.back_le le _) (x.back (c':=callee c fd (TT.fn f) s.heap n) rfl rfl sim le) (handBack_rep sim hw (flow_rep q)) e
   ·obtain⟨y,hr,g',le,sim,fly⟩:=z
    obtain⟨_,st'⟩:=r0
    cases hr
    rw[e0]at e
    cases e
    refine wpAny_leave sim fly fun s'' w=>?_
    obtain⟨g'',l',sim',fly'⟩:=w
    exact .mk y rfl _ (sim'.back_le (le.trans l') _) (x.back (c':=callee c fd (TT.fn f) s.heap n) rfl rfl sim' (le.trans l')) (fly'.back sim').any
 ·rw[call_none hd hl]at e;cases e
end
section
open PySem.SeqAt
variable{c c':Cx}{g g':Gh}{st st':St}{s s':Shared}{h h':Heap}{a:Addr}{B:BH}{v:Value}{x y:V}{l:List V}
theorem vI_some{i:Int}:vI x=some i→x=.int i:=V.casesOn (motive_1:=fun x=>vI x=some i→x=.int i) x (aBn rfl) (fun o0=>aBn rfl) (fun o0 e=>congrArg _ (Option.some.inj e)) (fun o0=>aBn rfl) (fun o0=>aBn rfl) (fun o0=>aBn rfl) (fun o0 o0=>aBn rfl) (fun o0=>aBn rfl)
theorem vS_some{i:List Nat}:vS x=some i→x=.str i:=V.casesOn (motive_1:=fun x=>vS x=some i→x=.str i) x (aBn rfl) (fun o0=>aBn rfl) (fun o0=>aBn rfl) (fun o0 e=>congrArg _ (Option.some.inj e)) (fun o0=>aBn rfl) (fun o0=>aBn rfl) (fun o0 o0=>aBn rfl) (fun o0=>aBn rfl)
theorem vT_some{i:List V}:vT x=some i→x=.tup i:=V.casesOn (motive_1:=fun x=>vT x=some i→x=.tup i) x (aBn rfl) (fun o0=>aBn rfl) (fun o0=>aBn rfl) (fun o0=>aBn rfl) (fun o0 e=>congrArg _ (Option.some.inj e)) (fun o0=>aBn rfl) (fun o0 o0=>aBn rfl) (fun o0=>aBn rfl)
theorem vL_some{i:List V}:vL x=some i→x=.list i:=V.casesOn (motive_1:=fun x=>vL x=some i→x=.list i) x (aBn rfl) (fun o0=>aBn rfl) (fun o0=>aBn rfl) (fun o0=>aBn rfl) (fun o0=>aBn rfl) (fun o0 e=>congrArg _ (Option.some.inj e)) (fun o0 o0=>aBn rfl) (fun o0=>aBn rfl)
noncomputable def KB(B:BH)(h:Heap):Prop:=∀a o,B a=some o→Kp DatP h a o
theorem Sim.kb(x:Sim c g st s):KB g.B s.heap:=fun a o e=>((x.at_ a).frz o e).keep
inductive SeqH(P:Addr→Array Value→Prop)(B:BH)(l:List V)(v:Value):Prop
 |mk (a:Addr) (vs:Array Value) (e:v=.ref a) (h:P a vs) (r:Reps B l vs.toList) (len:l.length≤sizeLine)
theorem seq_kept(kb:KB B h){o:Obj}{vs:Array Value}{n:Nat}{nm:String}(hb:B a=some o)(cls:o.cls=.type nm)(dat:o.data=.seq vs n):∃o,h.get? a=some o∧o.cls=.type nm∧∃n,o.data=.seq vs n:=
 match(kb a o hb).data fun ws q=>Data.noConfusion (dat.symm.trans q)with | .mk o' e e1 _ e2 _=>⟨o',e,e1.trans cls,n,e2.symm.trans dat⟩
theorem tup_of(kb:KB B h):Rep B (.tup l) v→SeqH h.IsTuple B l v | .mk a o vs n e hb cls dat r len=>.mk a vs e (seq_kept kb hb cls dat) r len
theorem list_of(kb:KB B h):Rep B (.list l) v→SeqH h.IsList B l v | .mk a o vs n e hb cls dat r len _=>.mk a vs e (seq_kept kb hb cls dat) r len
noncomputable def HR(B:BH)(h:Heap)(x:V)(v:Value):Prop:=Option.elim (vL x) (Rep B x v) fun l=>SeqH h.IsList B l v
theorem HR.of(kb:KB B h)(r:Rep B x v):HR B h x v:=by
 unfold HR
 cases e:vL x with
 |none=>exact r
 |some l=>exact list_of kb (vL_some e▸r)
theorem deref_HR(x:Sim c g st s){w:W}(r:RepW g w v)(e:deref st.mem w=some y):HR g.B s.heap y v:=by
 cases w with
 |v z=>cases e;exact .of x.kb r
 |l i=>
  obtain⟨l,hl,rfl⟩:=map_get e
  obtain⟨a,ha,rfl⟩:=r
  obtain⟨o,vs,k,h1,h2,h3,h4,h5,h6⟩:=((x.at_ a).mem i _ ha (aoL_some hl) trivial).rep
  exact .mk a vs rfl ⟨o,h1,h2,k,h3⟩ h4 (tSz h5)
 |o c i=>cases e
theorem intR{i:Int}(r:Rep B x v)(e:vI x=some i):IntP i v:=(vI_some e▸r:Rep B (.int i) v)
theorem strH{i:List Nat}(r:HR B h x v)(e:vS x=some i):StrP i v:=(vS_some e▸r:HR B h (.str i) v)
theorem listH(r:HR B h x v)(e:vL x=some l):SeqH h.IsList B l v:=(vL_some e▸r:HR B h (.list l) v)
theorem tupH(kb:KB B h)(r:HR B h x v)(e:vT x=some l):SeqH h.IsTuple B l v:=tup_of kb (vT_some e▸r:HR B h (.tup l) v)
noncomputable def toD:V→PyData:=V.rec (motive_1:=fun o0=>PyData) (motive_2:=fun o0=>List PyData) .none .bool .int (fun l=>.str ⟨l.toArray⟩) (fun o0 d=>.tuple d) (fun o0 d=>.list d) (fun o0 o0 o0=>.none) (fun o0 o0=>.none) [] (fun o0 o0 d ds=>d::ds)
noncomputable def toDs:List V→List PyData:=V.rec_1 (motive_1:=fun o0=>PyData) (motive_2:=fun o0=>List PyData) .none .bool .int (fun l=>.str ⟨l.toArray⟩) (fun o0 d=>.tuple d) (fun o0 d=>.list d) (fun o0 o0 o0=>.none) (fun o0 o0=>.none) [] (fun o0 o0 d ds=>d::ds)
section
variable{f:List V→Bool}{p:V→Bool}{n:Nat}
inductive RdP(n:Nat)(h:Heap)(v:Value)(d:PyData):Prop
 |mk (as:List Addr) (r:Reads h v d as) (lay:d.canLay0=true) (depth:d.depth≤n)
inductive RdsP(n:Nat)(h:Heap)(v:List Value)(d:List PyData):Prop
 |mk (as:List Addr) (r:ReadsAll h v d as) (lay:PyData.canLayAll0 d=true) (depth:PyData.depthAll d≤n)
theorem reads1(kb:KB B h)(H:∀l vs,f l=true→Reps B l vs→RdsP n h vs (toDs l))(hp:plain1 f x=true)(r:HR B h x v):RdP (n+1) h v (toD x):=by
 cases x with
 |tup l=>
  obtain⟨a,vs,rfl,⟨o,e1,e2,n,e3⟩,rs,_⟩:=tup_of kb r
  obtain⟨as,q,h1,h2⟩:=H l _ hp rs
  exact⟨_,.tuple e1 e2 e3 q,h1,Nat.succ_le_succ h2⟩
 |list l=>
  obtain⟨a,vs,rfl,⟨o,e1,e2,n,e3⟩,rs,_⟩:=r
  obtain⟨as,q,h1,h2⟩:=H l _ hp rs
  exact⟨_,.list e1 e2 e3 q,h1,Nat.succ_le_succ h2⟩
 |none=>cases (r:v=.none);exact⟨_,.none,rfl,Nat.zero_le _⟩
 |int i=>obtain⟨t,rfl⟩:=r;exact⟨_,.int i t,rfl,Nat.zero_le _⟩
 |str i=>obtain⟨s,t,rfl,rfl,_,ok⟩:=r;exact⟨_,.str s t,ok,Nat.zero_le _⟩
 |_=>cases hp
theorem readsL(H:∀x v,p x=true→Rep B x v→RdP n h v (toD x)){l:List V}{vs:List Value}(e:l.all p=true)(r:Reps B l vs):RdsP n h vs (toDs l):=
 (Reps.ind (p:=fun l vs=>l.all p=true→RdsP n h vs (toDs l)) (fun o0=>⟨_,.nil,rfl,Nat.zero_le _⟩) (fun x l v vs hx o0 ih e=>have e:=Bool.and_eq_true_iff.mp e
  match H x v e.1 hx,ih e.2 with | .mk _ h1 h2 h3,.mk _ h4 h5 h6=>⟨_,.cons h1 h4,Bool.and_eq_true_iff.mpr ⟨h2,h5⟩,Nat.max_le.mpr ⟨h3,h6⟩⟩) r) e
open Classical in
theorem eqv1(H:∀l l',f l=true→f l'=true→PyData.eqvAll (toDs l) (toDs l')=decide (l=l'))(hx:plain1 f x=true)(hy:plain1 f y=true):PyData.eqv (toD x) (toD y)=eqS x y:=by
 cases x<;>first | (cases hx;done) | (cases y<;>first | (cases hy;done) | exact rfl | skip)
 ·exact(Bool.eq_iff_iff.mpr (Iff.trans ⟨fun e=>congrArg (fun s:Str=>s.cps.toList) (eq_of_beq e),fun e=>beq_iff_eq.mpr (congrArg (fun l:List Nat=>(⟨l.toArray⟩:Str)) e)⟩ decide_eq_true_iff.symm))
 ·exact H _ _ hx hy
 ·exact H _ _ hx hy
open Classical in
theorem eqvL(H:∀x y,p x=true→p y=true→PyData.eqv (toD x) (toD y)=decide (x=y)):∀{l l':List V},l.all p=true→l'.all p=true→PyData.eqvAll (toDs l) (toDs l')=decide (l=l'):=fun {l}=>
 List.rec (motive:=fun l=>∀{l':List V},l.all p=true→l'.all p=true→PyData.eqvAll (toDs l) (toDs l')=decide (l=l'))
  (fun {l'} o0 o0=>by cases l' with
   |nil=>exact(decide_eq_true rfl).symm
   |cons _ _=>exact(decide_eq_false nofun).symm)
  (fun x l ih {l'} e e'=>by
   have e:=Bool.and_eq_true_iff.mp e
   cases l' with
   |nil=>exact(decide_eq_false nofun).symm
   |cons y l'=>
    have e':=Bool.and_eq_true_iff.mp e'
    show(PyData.eqv (toD x) (toD y)&&PyData.eqvAll (toDs l) (toDs l'))=_
    rw[H x y e.1 e'.1,ih e.2 e'.2,Bool.eq_iff_iff,Bool.and_eq_true,decide_eq_true_iff,decide_eq_true_iff,decide_eq_true_iff]
    exact⟨fun⟨h1,h2⟩=>h1▸h2▸rfl,fun q=>by cases q;exact⟨rfl,rfl⟩⟩) l
end
theorem plain_reads(kb:KB B h)(d:Nat):∀{x v},plain d x=true→HR B h x v→RdP (d+1) h v (toD x):=Nat.rec (motive:=fun d=>∀{x v},plain d x=true→HR B h x v→RdP (d+1) h v (toD x))
 (reads1 kb fun o0 o0 e=>nomatch e) (fun d ih=>reads1 (f:=fun l=>l.all (plain d)) kb fun l vs=>readsL fun x v e r=>ih e (.of kb r)) d
open Classical in
theorem eqS_dec:eqS x y=decide (x=y):=by
 have go:∀{α:Type} {o:Option α} {a:α} {k:α→V} {d:∀b,Decidable (a=b)},(∀b,o=some b→y=k b)→(x=k a)→(∀b,k a=k b→a=b)→(o=none→y≠k a)→Option.elim o false (fun b=> @decide (a=b) (d b))=decide (x=y):=fun {α o a k d} h1 h2 h3 h4=>by
  cases o with
  |none=>exact(decide_eq_false fun q=>h4 rfl (q.symm.trans h2)).symm
  |some b=>rw[h1 b rfl,h2];exact decide_eq_decide.mpr ⟨congrArg _,h3 b⟩
 cases x with
 |none=>cases y<;>first | exact(decide_eq_true rfl).symm | exact(decide_eq_false nofun).symm
 |int i=>exact go (k:=.int) (fun o0=>vI_some) rfl (fun o0=>V.int.inj) fun e q=>absurd (q▸e) nofun
 |str i=>exact go (k:=.str) (fun o0=>vS_some) rfl (fun o0=>V.str.inj) fun e q=>absurd (q▸e) nofun
 |tup i=>exact go (k:=.tup) (fun o0=>vT_some) rfl (fun o0=>V.tup.inj) fun e q=>absurd (q▸e) nofun
 |list i=>exact go (k:=.list) (fun o0=>vL_some) rfl (fun o0=>V.list.inj) fun e q=>absurd (q▸e) nofun
 |_=>rfl
open Classical in
theorem plain_eqv(d:Nat):∀{x y},plain d x=true→plain d y=true→PyData.eqv (toD x) (toD y)=eqS x y:=Nat.rec (motive:=fun d=>∀{x y},plain d x=true→plain d y=true→PyData.eqv (toD x) (toD y)=eqS x y)
 (eqv1 fun o0 o0 e=>nomatch e) (fun d ih=>eqv1 (f:=fun l=>l.all (plain d)) fun l l'=>eqvL fun x y h h'=>(ih h h').trans eqS_dec) d
theorem any_eqS(hx:plain dep x=true){l:List V}:l.all (plain dep)=true→(toDs l).any (fun y=>PyData.eqv y (toD x))=l.any fun y=>eqS y x:=List.rec (motive:=fun l=>l.all (plain dep)=true→(toDs l).any (fun y=>PyData.eqv y (toD x))=l.any fun y=>eqS y x) (fun o0=>rfl)
 (fun y l ih e=>have e:=Bool.and_eq_true_iff.mp e;by
  show(PyData.eqv (toD y) (toD x) || (toDs l).any _)=(eqS y x || _)
  rw[plain_eqv dep e.1 hx,ih e.2]) l
end
section
open PySem.SeqAt
variable{c c':Cx}{g g':Gh}{st st':St}{s s':Shared}{h h':Heap}{a:Addr}{B:BH}{v u:Value}{x y:V}{l:List V}
theorem isPre_iff{x:List Nat}:∀{y:List Nat},isPre x y=true↔y.take x.length=x:=List.rec (motive:=fun x=>∀{y:List Nat},isPre x y=true↔y.take x.length=x) (fun {y}=>⟨fun o0=>rfl,fun o0=>rfl⟩) (fun a x ih y=>by
  cases y with
  |nil=>exact⟨fun e=>(nomatch e),fun e=>(nomatch e)⟩
  |cons b y=>
   refine Bool.and_eq_true_iff.trans ⟨fun⟨h1,h2⟩=>?_,fun e=>?_⟩
   ·rw[of_decide_eq_true h1];exact congrArg (b:: ·) (ih.mp h2)
   ·have:=List.cons.inj e
    exact⟨decide_eq_true this.1.symm,ih.mpr this.2⟩) x
theorem isSub_iff{x y:List Nat}:iSb x y=true↔∃i,i+x.length≤y.length∧(y.drop i).take x.length=x:=by
 induction y with
 |nil=>exact isPre_iff.trans ⟨fun e=>⟨0,(by rw[List.take_nil]at e;subst e;exact Nat.le_refl _),by rw[List.drop_nil];exact e⟩,fun⟨i,_,e⟩=>by rw[List.drop_nil]at e;exact e⟩
 |cons b y ih=>
  refine(Bool.or_eq_true _ _▸Iff.rfl:_↔_).trans ((or_congr isPre_iff ih).trans ⟨fun e=>e.elim (fun e=>⟨0,?_,e⟩) fun⟨i,h1,h2⟩=>⟨i+1,?_,h2⟩,fun⟨i,h1,h2⟩=>?_⟩)
  ·have:=congrArg List.length e
   rw[List.length_take]at this
   rw[Nat.zero_add];exact this▸Nat.min_le_right _ _
  ·rw[Nat.add_right_comm];exact Nat.succ_le_succ h1
  ·cases i with
   |zero=>exact .inl h2
   |succ i=>exact .inr ⟨i,Nat.le_of_succ_le_succ (by rw[Nat.add_right_comm]at h1;exact h1),h2⟩
theorem occ_isSub(x y:Str):(!(Builtin.Str.occurrences x y 0 x.length 1).isEmpty)=iSb y.cps.toList x.cps.toList:=by
 rw[Bool.eq_iff_iff,StrLaws.found_iff,isSub_iff]
 refine exists_congr fun i=>and_congr Iff.rfl ?_
 rw[StrLaws.subAt_eq,beq_iff_eq]
 exact Iff.rfl
noncomputable def opC(o:Cmp):CmpOp:=Cmp.casesOn o .Eq .NotEq .Lt .LtE .Gt .GtE .In .NotIn .Is
noncomputable def opB(o:Op):Operator:=Op.casesOn o .Add .Sub .Mult .FloorDiv .Mod .Pow
theorem rc_nil{a a':Addr}{vs ws:Array Value}{A:Around}(h3:s.heap.IsList a vs)(h4:s.heap.IsList a' ws)(hw:ws.size=0)(hu:A.units < cLine):RcAt A s (.ref a) (.ref a') (decide (vs.size=0))∧RcNeAt A s (.ref a) (.ref a') (!decide (vs.size=0)):=by
 by_cases z:vs.size=0
 ·have he:∀j (h1:j < vs.size) (h2:j < ws.size),EqAt A.in1 s vs[j] ws[j] true:=fun j h1=>absurd (z▸h1) (Nat.not_lt_zero j)
  have h1:=RcAt.lists h3 h4 (z.trans hw.symm) hu he
  have h2:=RcNeAt.lists h3 h4 (z.trans hw.symm) hu he
  rw[z]at h1 h2 ⊢
  exact⟨h1,h2⟩
 ·have hz:(vs.size !=ws.size)=true:=bne_iff_ne.mpr (hw▸z)
  rw[decide_eq_false z]
  exact⟨RcAt.lists_lengths h3 h4 hz hu,RcNeAt.lists_lengths h3 h4 hz hu⟩
section
variable{E:Value→Shared→Prop}{Q:Value→Shared→Prop}{b:Bool}(X:Sim c g st s)
theorem cmpI_sound{f:Int→Int→Bool}{op:CmpOp}(hop:∀i j t t',Q (.bool (f i j)) s→wpAny c.M c.A (compareOp op (.int i t) (.int j t')) Q E s)(e:cmpI x y f=some b)(rx:HR g.B s.heap x v)(ry:HR g.B s.heap y u)(hQ:Q (.bool b) s):wpAny c.M c.A (compareOp op v u) Q E s:=by
 obtain⟨i,e1,e⟩:=bGt e
 obtain⟨j,e2,rfl⟩:=map_get e
 cases vI_some e1;cases vI_some e2
 obtain⟨t,rfl⟩:=rx;obtain⟨t',rfl⟩:=ry
 exact hop _ _ _ _ hQ
include X
theorem Sim.room:c.A.units+30 < cLine:=by have h1:=X.ok.units;have h2:=X.ok.slack;show c.A.units+30 < 9900;lia
theorem eq_sound{op:CmpOp}{F:Bool→Bool}(hop:∀{da db:PyData} {as bs:List Addr},Reads s.heap v da as→Reads s.heap u db bs→da.canLay0=true→db.canLay0=true→c.A.units+min da.depth db.depth < cLine→Q (.bool (F (PyData.eqv da db))) s→wpAny c.M c.A (compareOp op v u) Q E s)
  (hl:∀{a a':Addr} {vs ws:Array Value},v=.ref a→u=.ref a'→s.heap.IsList a vs→s.heap.IsList a' ws→ws.size=0→Q (.bool (F (decide (vs.size=0)))) s→wpAny c.M c.A (compareOp op v u) Q E s)
  (e:eqV dep x y=some b) (rx:HR g.B s.heap x v) (ry:HR g.B s.heap y u) (hQ:Q (.bool (F b)) s):wpAny c.M c.A (compareOp op v u) Q E s:=by
 unfold eqV at e
 cases hn:lnil x y with
 |true=>
  rw[hn]at e
  cases Option.some.inj e
  unfold lnil at hn
  cases e1:vL x with
  |none=>rw[e1]at hn;cases hn
  |some l=>
   cases e2:vL y with
   |none=>rw[e1,e2]at hn;cases hn
   |some m=>
    rw[e1,e2]at hn
    cases vL_some e1;cases vL_some e2
    cases m with
    |cons _ _=>cases hn
    |nil=>
     obtain⟨a,vs,e3,h3,r3,_⟩:=rx;obtain⟨a',ws,e4,h4,r4,_⟩:=ry
     refine hl e3 e4 h3 h4 r4.length (Eq.mpr (congrArg (fun b=>Q (.bool (F b)) s) ?_) hQ)
     rw[eqS_dec]
     exact decide_eq_decide.mpr ⟨fun e=>congrArg V.list (List.length_eq_zero_iff.mp (r3.length.symm.trans e)),fun e=>r3.length.trans (congrArg List.length (V.list.inj e))⟩
 |false=>
  rw[hn]at e
  cases hp:plain dep x&&plain dep y with
  |false=>rw[hp]at e;cases e
  |true=>
   rw[hp]at e
   obtain⟨h1,h2⟩:=Bool.and_eq_true_iff.mp hp
   obtain⟨as,r1,l1,d1⟩:=plain_reads X.kb dep h1 rx
   obtain⟨bs,r2,l2,d2⟩:=plain_reads X.kb dep h2 ry
   refine hop r1 r2 l1 l2 (Nat.lt_of_le_of_lt (Nat.add_le_add_left (ltr (Nat.min_le_left _ _) (ltr d1 (by decide))) _) X.room) ?_
   rw[plain_eqv dep h1 h2,Option.some.inj e];exact hQ
theorem in_sound{op:CmpOp}{F:Bool→Bool}(hl:∀{xs:List PyData} {d:PyData} {as bs:List Addr},Reads s.heap u (.list xs) as→Reads s.heap v d bs→PyData.canLayAll0 xs=true→d.canLay0=true→c.A.units+1+min (PyData.depthAll xs) d.depth < cLine→Q (.bool (F (xs.any fun y=>PyData.eqv y d))) s→wpAny c.M c.A (compareOp op v u) Q E s)
  (ht:∀{xs:List PyData} {d:PyData} {as bs:List Addr},Reads s.heap u (.tuple xs) as→Reads s.heap v d bs→PyData.canLayAll0 xs=true→d.canLay0=true→c.A.units+1+min (PyData.depthAll xs) d.depth < cLine→Q (.bool (F (xs.any fun y=>PyData.eqv y d))) s→wpAny c.M c.A (compareOp op v u) Q E s)
  (hs:∀{a b:Str} {t t':Tok},v=.str a t→u=.str b t'→Q (.bool (F (!(Builtin.Str.occurrences b a 0 b.length 1).isEmpty))) s→wpAny c.M c.A (compareOp op v u) Q E s)
  (e:inV x y=some b) (rx:HR g.B s.heap x v) (ry:HR g.B s.heap y u) (hQ:Q (.bool (F b)) s):wpAny c.M c.A (compareOp op v u) Q E s:=by
 have go:∀{l:List V} {vs:List Value} {P:Prop},anyEq x l=some b→Reps g.B l vs→
   (∀{d:PyData} {as bs:List Addr},ReadsAll s.heap vs (toDs l) as→Reads s.heap v d bs→PyData.canLayAll0 (toDs l)=true→d.canLay0=true→c.A.units+1+min (PyData.depthAll (toDs l)) d.depth < cLine→Q (.bool (F ((toDs l).any fun y=>PyData.eqv y d))) s→P)→P:=fun {l vs P} e r k=>by
  unfold anyEq at e
  cases hp:plain dep x&&l.all (plain dep)with
  |false=>rw[hp]at e;cases e
  |true=>
   rw[hp]at e
   obtain⟨h1,h2⟩:=Bool.and_eq_true_iff.mp hp
   obtain⟨bs,r2,l2,d2⟩:=plain_reads X.kb dep h1 rx
   obtain⟨as,r1,l1,d1⟩:=readsL (h:=s.heap) (fun x v e r=>plain_reads X.kb dep e (.of X.kb r)) h2 r
   refine k r1 r2 l1 l2 (Nat.lt_of_le_of_lt (Nat.add_le_add_left (ltr (Nat.min_le_left _ _) d1) _) (Nat.lt_of_le_of_lt (show c.A.units+1+21≤c.A.units+30 from(Nat.add_assoc c.A.units 1 21).symm▸Nat.add_le_add_left (by decide:1+21≤30) _) X.room)) ?_
   ·rw[any_eqS h1 h2,Option.some.inj e];exact hQ
 cases y with
 |list l=>
  obtain⟨a,vs,rfl,⟨o,h1,h2,n,h3⟩,r,_⟩:=ry
  exact go e r fun r1=>hl (.list h1 h2 h3 r1)
 |tup l=>
  obtain⟨a,vs,rfl,⟨o,h1,h2,n,h3⟩,r,_⟩:=tup_of X.kb ry
  exact go e r fun r1=>ht (.tuple h1 h2 h3 r1)
 |str q=>
  obtain⟨p,e1,rfl⟩:=map_get e
  cases vS_some e1
  obtain⟨s1,t,rfl,rfl,_⟩:=rx;obtain⟨s2,t',rfl,rfl,_⟩:=ry
  exact hs rfl rfl (Eq.mpr (congrArg (fun b=>Q (.bool (F b)) s) (occ_isSub ..)) hQ)
 |_=>cases e
theorem cmp_sound{o:Cmp}(e:cmpV o x y=some b)(rx:HR g.B s.heap x v)(ry:HR g.B s.heap y u)(hQ:Q (.bool b) s):wpAny c.M c.A (compareOp (opC o) v u) Q E s:=by
 have hu:c.A.units < cLine:=Nat.lt_of_le_of_lt (Nat.le_add_right _ 30) X.room
 cases o with
 |eq=>
  exact eq_sound X (F:=id) compareEq_reads (fun h1 h2 h3 h4 h5 h6=>by subst h1 h2;exact(rc_nil h3 h4 h5 hu).1 _ _ _ _ h6) e rx ry hQ
 |ne=>
  obtain⟨b',e1,rfl⟩:=map_get e
  exact eq_sound X (F:=not) compareNe_reads (fun h1 h2 h3 h4 h5 h6=>by subst h1 h2;exact(rc_nil h3 h4 h5 hu).2 _ _ _ _ h6) e1 rx ry hQ
 |lt=>exact cmpI_sound (fun o0 o0 o0 o0=>P.lt_int) e rx ry hQ
 |le=>exact cmpI_sound (fun o0 o0 o0 o0=>P.le_int) e rx ry hQ
 |gt=>exact cmpI_sound (fun o0 o0 o0 o0=>P.gt_int) e rx ry hQ
 |ge=>exact cmpI_sound (fun o0 o0 o0 o0=>P.ge_int) e rx ry hQ
 |in_=>exact in_sound X (F:=id) in_list_reads in_tuple_reads (fun h1 h2 h=>by subst h1 h2;exact P.in_str h) e rx ry hQ
 |notin=>
  obtain⟨b',e1,rfl⟩:=map_get e
  exact in_sound X (F:=not) notIn_list_reads notIn_tuple_reads (fun h1 h2 h=>by subst h1 h2;exact P.notIn_str h) e1 rx ry hQ
 |is_=>
  replace e:isV x y=some b:=e
  unfold isV at e
  cases hn:isNone y with
  |false=>rw[hn]at e;cases e
  |true=>
   rw[hn]at e
   have hu:u=.none:=by cases y<;>first | exact ry | cases hn
   subst hu
   cases hx:isNone x with
   |true=>
    rw[hx]at e
    cases Option.some.inj e
    have hv:v=.none:=by cases x<;>first | exact rx | cases hx
    subst hv;exact is_none_none hQ
   |false=>
    rw[hx]at e
    obtain⟨i,e1,rfl⟩:=map_get e
    cases vI_some e1
    obtain⟨t,rfl⟩:=rx
    exact is_none_ne (fun q=>nomatch q) hQ
end
end
section
open PySem.SeqAt
variable{c c':Cx}{g g':Gh}{st st':St}{s s':Shared}{h h':Heap}{a:Addr}{B:BH}{v u:Value}{x y r:V}{l:List V}
abbrev LfV(c:Cx)(g:Gh)(st:St)(x:V):Value→Shared→Prop:=Lf c g st RepW (W.v x)
theorem Lf.tokV(x:Sim c g st s){y:V}(q:Rep g.B y v){tk:Nat}:LfV c g st y v {s with toks:=tk}:=.here (x.same ⟨rfl,rfl⟩ rfl) q
theorem Lf.hereV(x:Sim c g st s){y:V}(q:Rep g.B y v):LfV c g st y v s:=.here x q
theorem int_rep{i:Int}{t:Tok}:Rep B (.int i) (.int i t):=⟨t,rfl⟩
theorem str_rep{s:Str}{t:Tok}(h:s.length≤sizeLine)(ok:PyData.strOk s=true):Rep B (.str s.cps.toList) (.str s t):=.mk s t rfl rfl h ok
theorem Sim.newObj(x:Sim c g st s)(hs:Same s s'){o:Obj}(hh:s'.heap=s.heap.push o)(ne:o.cls≠.ref TT.exc)(hf:o.isFreed=false):
  Gh.Le g ⟨addK g.B s.heap.objs.size o,g.φ⟩∧Sim c ⟨addK g.B s.heap.objs.size o,g.φ⟩ st s':=
 ⟨⟨addK_le (x.free (Nat.le_refl _)).B,fun o0 o0 e=>e⟩,x.freezeNew hs (Nat.le_refl _) (fun o0 o0 e=>hh▸Heap.get?_push_of_some _ e) (hh▸Heap.get?_push_size _ hf) fun o0 q=>absurd q ne⟩
theorem Sim.newList(x:Sim c g st s)(hs:Same s s'){vs:Array Value}(hh:s'.heap=s.heap.push {cls:=.type "list",data:=.seq vs})(r:Reps g.B l vs.toList)(hl:l.length≤sizeLine):LfV c g st (.list l) (.ref s.heap.objs.size) s':=
 have⟨le,x'⟩:=x.newObj hs hh (fun q=>Value.noConfusion q) rfl
 .mk _ le x' (.mk _ _ vs 0 rfl aKs rfl rfl (r.mono le.1) hl rfl)
theorem Sim.newTuple(x:Sim c g st s)(hs:Same s s'){vs:Array Value}(hh:s'.heap=s.heap.push {cls:=.type "tuple",data:=.seq vs})(r:Reps g.B l vs.toList)(hl:l.length≤sizeLine):LfV c g st (.tup l) (.ref s.heap.objs.size) s':=
 have⟨le,x'⟩:=x.newObj hs hh (fun q=>Value.noConfusion q) rfl
 .mk _ le x' (.mk _ _ vs 0 rfl aKs rfl rfl (r.mono le.1) hl)
theorem Reps.replicate{vs:List Value}(r:Reps B l vs)(n:Nat):Reps B (List.replicate n l).flatten (List.replicate n vs).flatten:=Nat.rec .nil (fun o0 i=>r.append i) n
theorem Reps.size{vs:Array Value}(r:Reps B l vs.toList):vs.size=l.length:=r.length
theorem bits_lt{x:Int}{n:Nat}(h:x.natAbs < 2 ^ n):Builtin.Int.intBits x≤n:=by
 unfold Builtin.Int.intBits
 split
 ·exact Nat.zero_le _
 ·rename_i hne
  exact(Nat.log2_lt fun q=>hne (by simpa using q)).mpr h
theorem noPylong{x y:Int}(h:y.natAbs < 2 ^ 8000):Builtin.divisionGoesByPylong x y=false:=by
 unfold Builtin.divisionGoesByPylong
 refine Bool.and_eq_false_imp.mpr fun h'=>?_
 refine absurd (of_decide_eq_true h') (Nat.not_lt.mpr ?_)
 dsimp only
 split
 ·exact Nat.zero_le _
 ·rename_i hne
  exact Nat.succ_le_succ (ltr (Nat.div_le_div_right (Nat.le_of_lt ((Nat.log2_lt fun q=>hne (by simpa using q)).mpr h))) (by decide:8000 / 30≤299))
section
variable{E:Value→Shared→Prop}{Q:Value→Shared→Prop}{b:Bool}(X:Sim c g st s)
theorem top_size{m n k:Nat}(h:m+n≤top)(e:k=m+n):k≤sizeLine:=e▸tSz h
theorem add_sound(X:Sim c g st s)(e:addV x y=some r)(rx:HR g.B s.heap x v)(ry:HR g.B s.heap y u):wpAny c.M c.A (binaryOp .Add v u) (LfV c g st r) (fun o0 o0=>False) s:=by
 cases x with
 |int i=>
  obtain⟨j,e1,rfl⟩:=map_get e
  cases vI_some e1
  obtain⟨t,rfl⟩:=rx;obtain⟨t',rfl⟩:=ry
  exact P.add_int (Lf.tokV X int_rep)
 |str p=>
  obtain⟨q,e1,e⟩:=bGt e
  obtain⟨hc,e2⟩:=ite_get e
  cases vS_some e1;cases e2
  obtain⟨s1,t,rfl,rfl,l1,o1⟩:=rx;obtain⟨s2,t',rfl,rfl,l2,o2⟩:=ry
  have hcat:s1.cps.toList++s2.cps.toList=(s1++s2).cps.toList:=((congrArg Array.toList (Str.cps_append s1 s2)).trans Array.toList_append).symm
  have hlen:(s1++s2).length≤sizeLine:=top_size hc (Str.length_append s1 s2)
  have hok:PyData.strOk (s1++s2)=true:=by unfold PyData.strOk;rw[Str.cps_append,Array.all_append];exact Bool.and_eq_true_iff.mpr ⟨o1,o2⟩
  rw[hcat]
  refine P.add_str ?_
  split
  ·rename_i h0
   refine Lf.hereV X ?_
   have:s1.cps.toList=[]:=List.length_eq_zero_iff.mp (by simpa [Str.length] using h0)
   rw[←hcat,this,List.nil_append];exact str_rep l2 o2
  ·split
   ·rename_i h0
    refine Lf.hereV X ?_
    have:s2.cps.toList=[]:=List.length_eq_zero_iff.mp (by simpa [Str.length] using h0)
    rw[←hcat,this,apn];exact str_rep l1 o1
   ·exact⟨hlen,Lf.tokV X (str_rep hlen hok)⟩
 |list p=>
  obtain⟨q,e1,e⟩:=bGt e
  obtain⟨hc,e2⟩:=ite_get e
  cases vL_some e1;cases e2
  obtain⟨a1,vs1,rfl,h1,r1,_⟩:=rx;obtain⟨a2,vs2,rfl,h2,r2,_⟩:=ry
  obtain⟨⟨_,dd,_,sl⟩,ho,rfl,n,rfl⟩:=h1
  obtain⟨⟨_,dd2,_,sl2⟩,ho2,rfl,n2,rfl⟩:=h2
  refine concat_meets ⟨_,ho,rfl⟩ ⟨_,ho2,rfl⟩ noFill_list_add seq_list_add PySem.F.slot_list_add PySem.F.entry_list_add (PySem.F.args_list_add_2 _ _)
   (list_addW a1 a2 vs1 vs2 n n2 dd dd2 sl sl2 (top_size hc (by rw[r1.size,r2.size]))) ⟨ho,ho2,?_⟩
  exact X.newList ⟨rfl,rfl⟩ rfl (by rw[Array.toList_append];exact r1.append r2) (top_size hc lap)
 |tup p=>
  obtain⟨q,e1,e⟩:=bGt e
  obtain⟨hc,e2⟩:=ite_get e
  cases vT_some e1;cases e2
  have rx0:Rep g.B (.tup p) v:=rx
  have ry0:Rep g.B (.tup q) u:=ry
  obtain⟨a1,vs1,rfl,h1,r1,_⟩:=tup_of X.kb rx0;obtain⟨a2,vs2,rfl,h2,r2,_⟩:=tup_of X.kb ry0
  obtain⟨⟨_,dd,_,sl⟩,ho,rfl,n,rfl⟩:=h1
  obtain⟨⟨_,dd2,_,sl2⟩,ho2,rfl,n2,rfl⟩:=h2
  have t1:s.TypeIs (.ref a1) "tuple" :=⟨_,ho,rfl⟩
  have t2:s.TypeIs (.ref a2) "tuple" :=⟨_,ho2,rfl⟩
  by_cases hv:vs1.isEmpty=true
  ·refine concat_meets t1 t2 noFill_tuple_add seq_tuple_add PySem.F.slot_tuple_add PySem.F.entry_tuple_add (PySem.F.args_tuple_add_2 _ _) (tuple_addW0 a1 a2 vs1 vs2 n n2 dd dd2 sl sl2 hv) ⟨ho,ho2,?_⟩
   have:p=[]:=List.length_eq_zero_iff.mp (r1.size.symm.trans (by simpa using hv))
   subst this
   exact Lf.hereV X ry0
  ·by_cases hw:vs2.isEmpty=true
   ·refine concat_meets t1 t2 noFill_tuple_add seq_tuple_add PySem.F.slot_tuple_add PySem.F.entry_tuple_add (PySem.F.args_tuple_add_2 _ _) (tuple_addW1 a1 a2 vs1 vs2 n n2 dd dd2 sl sl2 hv hw) ⟨ho,ho2,?_⟩
    have:q=[]:=List.length_eq_zero_iff.mp (r2.size.symm.trans (by simpa using hw))
    subst this
    rw[apn]
    exact Lf.hereV X rx0
   ·refine concat_meets t1 t2 noFill_tuple_add seq_tuple_add PySem.F.slot_tuple_add PySem.F.entry_tuple_add (PySem.F.args_tuple_add_2 _ _) (tuple_addW2 a1 a2 vs1 vs2 n n2 dd dd2 sl sl2 hv hw (top_size hc (by rw[r1.size,r2.size]))) ⟨ho,ho2,?_⟩
    exact X.newTuple ⟨rfl,rfl⟩ rfl (by rw[Array.toList_append];exact r1.append r2) (top_size hc lap)
 |_=>cases e
theorem mul_sound(X:Sim c g st s)(e:mulV x y=some r)(rx:HR g.B s.heap x v)(ry:HR g.B s.heap y u):wpAny c.M c.A (binaryOp .Mult v u) (LfV c g st r) (fun o0 o0=>False) s:=by
 cases x with
 |int i=>
  obtain⟨j,e1,e⟩:=bGt e
  obtain⟨hc,e2⟩:=ite_get e
  cases vI_some e1;cases e2
  obtain⟨t,rfl⟩:=rx;obtain⟨t',rfl⟩:=ry
  exact P.mul_int (Lf.tokV X int_rep) (IntMulOk.of_left (ltr (bits_lt (n:=61) (Nat.lt_of_le_of_lt hc (by decide))) (by decide)))
 |list p=>
  obtain⟨k,e1,e⟩:=bGt e
  obtain⟨⟨hc1,hc2,hc3⟩,e2⟩:=ite_get e
  cases vI_some e1;cases e2
  obtain⟨a1,vs1,rfl,h1,r1,_⟩:=rx
  obtain⟨t',rfl⟩:=ry
  obtain⟨⟨_,dd,_,sl⟩,ho,rfl,n,rfl⟩:=h1
  have hk:k.toNat≤8:=Int.toNat_le.mpr hc3
  have hm:vs1.size*k.toNat≤64:=r1.size▸ltr (Nat.mul_le_mul hc1 hk) (by decide)
  refine wpAny_binaryOp_repeat_ref (T:= "list") (U:= "int") (by decide) ⟨_,ho,rfl⟩ (fun s'=>typeIs_int s' k t') noFill_list_mul F.fills_int_mul F.slot_int_rmul repeat_list F.slot_int_index.lookup
   (call_meets F.slot_int_rmul (typeIs_int s k t') F.entry_int_rmul (F.args_int_rmul_2 _ _) (lm_int_rmul_list_any k t' a1 vs1 n dd sl)
    ⟨ho,rfl,⟨_,ho,rfl⟩,call_meets F.slot_list_mul ⟨_,ho,rfl⟩ F.entry_list_mul (F.args_list_mul_2 _ _)
     (lm_list_mul_any a1 vs1 n dd sl k t' (by simp[Builtin.List.listFitsIndex];lia) (by lia) (by simp[Builtin.List.listTooLong,sizeLine];lia))
     ⟨ho,?_⟩⟩)
  rw[listMul_foldl_if]
  refine X.newList ⟨rfl,rfl⟩ rfl (by simpa using r1.replicate k.toNat) ?_
  have:(List.replicate k.toNat p).flatten.length=k.toNat*p.length:=by simp
  rw[this,sizeLine_eq']
  exact ltr (Nat.mul_le_mul hk hc1) (of_decide_eq_true (Eq.refl true))
 |_=>cases e
theorem int2_sound{f:Int→Int→Option V}{op:Operator}(X:Sim c g st s)(e:int2 x y f=some r)(rx:HR g.B s.heap x v)(ry:HR g.B s.heap y u)
  (hop:∀i j t t',f i j=some r→wpAny c.M c.A (binaryOp op (.int i t) (.int j t')) (LfV c g st r) (fun o0 o0=>False) s):wpAny c.M c.A (binaryOp op v u) (LfV c g st r) (fun o0 o0=>False) s:=by
 obtain⟨i,e1,e⟩:=bGt e
 obtain⟨j,e2,e⟩:=bGt e
 cases vI_some e1;cases vI_some e2
 obtain⟨t,rfl⟩:=rx;obtain⟨t',rfl⟩:=ry
 exact hop _ _ _ _ e
theorem ite_not{α:Type}{p:Prop}{_:Decidable p}{o:Option α}{x:α}(e:(if p then none else o)=some x):¬p∧o=some x:=
 (Classical.em p).elim (fun h=>aBn (if_pos h) e) fun h=>⟨h,(if_neg h).symm.trans e⟩
theorem bin_sound(X:Sim c g st s){o:Op}(e:binV o x y=some r)(rx:HR g.B s.heap x v)(ry:HR g.B s.heap y u):wpAny c.M c.A (binaryOp (opB o) v u) (LfV c g st r) (fun o0 o0=>False) s:=by
 cases o with
 |add=>exact add_sound X e rx ry
 |mul=>exact mul_sound X e rx ry
 |sub=>
  exact int2_sound X e rx ry fun i j t t' e=>by cases e;exact P.sub_int (Lf.tokV X int_rep)
 |fdiv=>
  exact int2_sound X e rx ry fun i j t t' e=>by
   obtain⟨h,e2⟩:=ite_not e
   cases e2
   exact floordiv_int (fun q=>h (.inl q)) (Lf.tokV X int_rep) (.inl (noPylong (Nat.not_le.mp fun q=>h (.inr q))))
 |mod=>
  exact int2_sound X e rx ry fun i j t t' e=>by
   obtain⟨h,e2⟩:=ite_not e
   cases e2
   exact mod_int' h (Lf.tokV X int_rep)
 |pow=>
  exact int2_sound X e rx ry fun i j t t' e=>by
   obtain⟨⟨rfl,h1,h2⟩,e2⟩:=ite_get e
   cases e2
   exact pow_int h1 (show(5:Int)*j≤2 ^ 27 by lia) (Lf.tokV X int_rep)
end
end
section
open PySem.SeqAt
variable{c c':Cx}{g g':Gh}{st st':St}{s s':Shared}{h h':Heap}{a:Addr}{B:BH}{v u:Value}{x y r:V}{l:List V}
inductive IdxP(i:Int)(n k:Nat):Prop
 |mk (seq:seqIndex? i n=some k) (lo: -(n:Int)≤i) (hi:i < n) (at_:(0≤i∧k=i.toNat)∨(i < 0∧k=(i+n).toNat))
theorem idx_of{i:Int}{n k:Nat}(e:idx i n=some k):IdxP i n k:=by
 unfold idx at e
 by_cases h0:0≤i
 ·rw[if_pos h0]at e
  obtain⟨h1,e2⟩:=ite_get e
  have h2:¬i < 0:=Int.not_lt.mpr h0
  refine⟨?_,Int.le_trans (Int.neg_nonpos_of_nonneg (Int.natCast_nonneg n)) h0,h1,.inl ⟨h0,(Option.some.inj e2).symm⟩⟩
  unfold seqIndex?
  rw[if_neg h2,if_pos (Bool.and_eq_true_iff.mpr ⟨decide_eq_true h0,decide_eq_true h1⟩)];exact e2
 ·rw[if_neg h0]at e
  obtain⟨h1,e2⟩:=ite_get e
  have h2:i < 0:=Int.not_le.mp h0
  have h3:i+n < n:=by lia
  refine⟨?_,by lia,Int.lt_of_lt_of_le h2 (Int.natCast_nonneg n),.inr ⟨h2,(Option.some.inj e2).symm⟩⟩
  unfold seqIndex?
  rw[if_pos h2,if_pos (Bool.and_eq_true_iff.mpr ⟨decide_eq_true h1,decide_eq_true h3⟩)];exact e2
theorem fit63{i:Int}{n:Nat}(h:n≤sizeLine)(lo: -(n:Int)≤i)(hi:i < n): -(2 ^ 63)≤i∧i < 2 ^ 63:=by rw[sizeLine_eq']at h;lia
theorem sub_ops(slice:Expr)(o i:Value):∃ops,subscripted slice false o i=operate ops (getItem o i):=by
 cases slice with
 |Slice lo hi st p=>cases st<;>exact⟨_,rfl⟩
 |_=>exact⟨_,rfl⟩
theorem subTail{prog:Program}{w:World}{A:Around}{E:Value→Shared→Prop}{value slice:Expr}{o i:Value}{t id:String}{Q:Value→Shared→Prop}(hT:s.TypeIs o t)(hl:typeLookup (.type t) "__getitem__" =pure (some (.builtin id)))
  (h:wpAny (model prog w) A (getItem o i) Q E s):
  wpAny (model prog w) A (getitemInPython o >>=fun b=>subscripted slice b o i >>=fun r=>letTemporaryGo value o r >>=fun o0=>pure r) Q E s:=by
 refine wpAny_bind ?_
 rw[getitemInPython_of_ne hT.not_modules]
 refine wpAny_bind (wpAny_specialOf hT hl (wpAny_pure (wpAny_bind ?_)))
 obtain⟨ops,e⟩:=sub_ops slice o i
 refine Eq.mpr (congrArg (fun t=>wpAny _ A t _ _ s) e) ?_
 exact wpAny_operating (wpAny_mono h (fun r s₃ h₃=>wpAny_bind (wpAny_letTemporaryGo (wpAny_pure h₃))) fun o0 o0 x=>x)
theorem strOk_sub{s:Str}{l:List Nat}(h:PyData.strOk s=true)(k:∀c∈l,c∈s.cps.toList):PyData.strOk ⟨l.toArray⟩=true:=by
 unfold PyData.strOk at h ⊢
 rw[←Array.all_toList,List.all_eq_true]at h
 rw[←Array.all_toList,List.all_eq_true]
 exact fun c hc=>h c (k c hc)
theorem adjust_to(b n:Nat)(hb:b≤n):Builtin.Slice.sliceAdjust none (some (b:Int)) 1 (n:Int)=(0,(b:Int)):=by
 unfold Builtin.Slice.sliceAdjust
 have h1:¬((1:Int) < 0):=by decide
 have h2:¬((b:Int) < 0):=Int.not_lt.mpr (Int.natCast_nonneg b)
 simp only[h1,h2,if_false]
 exact congrArg _ (by lia)
theorem places_to(b:Nat):Builtin.Slice.slicePlaces 0 (b:Int) 1=b:=by
 unfold Builtin.Slice.slicePlaces
 rw[if_pos (by decide),Int.ediv_one]
 split<;>lia
theorem sliceApplied_to{prog:Program}{w:World}{A:Around}{E:Value→Shared→Prop}{sl:Addr}{b n:Nat}{u:Tok}{Q:Int×Int×Nat→Shared→Prop}(hs:s.heap.IsSliceOf sl .none (.int b u) .none)(hb:b≤n)(h:Q (0,1,b) s):
  wpAny (model prog w) A (Builtin.Slice.sliceApplied (.ref sl) (pure (n:Int))) Q E s:=by
 obtain⟨os,hos,hcs,hds⟩:=hs
 unfold Builtin.Slice.sliceApplied Builtin.Slice.sliceFields
 refine wpAny_bind (wpAny_bind (wpAny_field hos hds (x:=.none) rfl (wpAny_bind (wpAny_field hos hds (x:=.int b u) rfl (wpAny_bind (wpAny_field hos hds (x:=.none) rfl (wpAny_pure ?_)))))))
 refine wpAny_bind (slicePart_none ?_)
 show wpAny _ _ (if((1:Int)==0)=true then _ else _) _ _ s
 rw[if_neg (by decide)]
 refine wpAny_bind (slicePart_none (wpAny_bind (slicePart_int (wpAny_bind (wpAny_pure ?_)))))
 show wpAny _ _ (match Builtin.Slice.sliceAdjust none (some (b:Int)) 1 (n:Int)with | (lo,hi)=>pure (lo,(1:Int),Builtin.Slice.slicePlaces lo hi 1)) _ _ s
 rw[adjust_to b n hb]
 show wpAny _ _ (pure ((0:Int),(1:Int),Builtin.Slice.slicePlaces 0 (b:Int) 1)) _ _ s
 rw[places_to b]
 exact wpAny_pure h
theorem pick_to(xs:Array Value)(b:Nat)(hb:b≤xs.size):((List.range b).filterMap fun(k:Nat)=>xs[((0:Int)+(k:Int)*1).toNat]?).toArray=(xs.toList.take b).toArray:=by
 have e:(fun(k:Nat)=>xs[((0:Int)+(k:Int)*1).toNat]?)=(fun x=>xs[x]?)∘fun x=>0+x:=by
  funext k
  rw[Int.zero_add,Int.mul_one,Int.toNat_natCast]
  show _=xs[0+k]?
  rw[Nat.zero_add]
 have:=pick_run xs 0 b
 rw[List.filterMap_map,←e,List.drop_zero]at this
 rw[this]
theorem getItem_tuple_to{prog:Program}{w:World}{A:Around}{E:Value→Shared→Prop}{t sl:Addr}{items:Array Value}{b:Nat}{u:Tok}{Q:Value→Shared→Prop}(ht:IsTup s.heap t items)(hs:s.heap.IsSliceOf sl .none (.int b u) .none)(hb:b < items.size)
  (h:Q (.ref s.heap.objs.size) {s with heap:=s.heap.push {cls:=.type "tuple",data:=.seq (items.toList.take b).toArray}})
  (hsz:items.size≤sizeLine):wpAny (model prog w) A (getItem (.ref t) (.ref sl)) Q E s:=by
 have hdrop:sizeOk (.seq (items.toList.take b).toArray):=by
  show(items.toList.take b).toArray.size≤sizeLine
  exact ltr (List.length_take_le' ..) hsz
 have hTs:s.TypeIs (.ref sl) "slice" :=let ⟨os,hos,hcs,_⟩:=hs;⟨os,hos,hcs⟩
 have hp:=pick_to items b (Nat.le_of_lt hb)
 generalize (items.toList.take b).toArray=ys at h hdrop hp
 unfold getItem
 try with_reducible refine wpAny_holding ?_
 first | refine wpAny_bind (wpAny_pure ?_) | skip
 refine wpAny_bind (wpAny_sequenceKey ht.typeIs (by decide) ?_)
 refine wpAny_bind (wpAny_callSpecial?_slot (name:=Str.ofString "__getitem__") ht.typeIs slot_tuple_getitem
  (wpAny_call_entry slot_tuple_getitem ht.typeIs entry_tuple_getitem ?_ (args_tuple_getitem _ _)))
 show wpAny _ _ (Builtin.Tuple.tupleItemsOf (.ref t) >>=_) _ _ s
 refine wpAny_bind (tupleItemsOf_ ht (wpAny_bind (wpAny_typeOf hTs ?_)))
 rw[if_pos (by decide)]
 refine wpAny_bind (sliceApplied_to hs (Nat.le_of_lt hb) ?_)
 have hno:¬(((0:Int)==0&&(1:Int)==1&&(b==items.size))=true):=by rw[beq_eq_false_iff_ne.mpr (Nat.ne_of_lt hb)];decide
 show wpAny _ _ (if((0:Int)==0&&(1:Int)==1&&b==items.size)=true then _ else _) _ _ s
 rw[if_neg hno,hp]
 first
  |exact wpAny_bind (m:=Builtin.Tuple.tupleExact _) (wpAny_newObj_type (wpAny_pure ⟨_,rfl,wpAny_pure h⟩) hdrop)
  |exact wpAny_bind (m:=Builtin.Tuple.tupleExact _) (wpAny_newObj_type (wpAny_bind (wpAny_pure (wpAny_pure ⟨_,rfl,wpAny_pure h⟩))) hdrop)
  |exact wpAny_bind (wpAny_bind (m:=Builtin.Tuple.tupleExact _) (wpAny_newObj_type (wpAny_pure (wpAny_pure ⟨_,rfl,wpAny_pure h⟩)) hdrop))
  |exact wpAny_bind (wpAny_bind (m:=Builtin.Tuple.tupleExact _) (wpAny_newObj_type (wpAny_pure ⟨_,rfl,wpAny_pure h⟩) hdrop))
theorem clip_cut{α:Type}(l:List α)(a b:Nat):(l.drop (clipAt l.length a)).take (clipAt l.length b - clipAt l.length a)=cut l a b:=by
 rw[clipAt_nat,clipAt_nat]
 unfold cut
 rcases Nat.le_total a l.length with h | h
 ·rw[Nat.min_eq_left h]
  rcases Nat.le_total b l.length with h' | h'
  ·rw[Nat.min_eq_left h']
  ·rw[Nat.min_eq_right h',List.take_of_length_le (by simp),List.take_of_length_le (by simp;lia)]
 ·rw[Nat.min_eq_right h,List.drop_of_length_le (Nat.le_refl _),List.drop_of_length_le h];simp
theorem SeqH.keeps(k:∀a o,h.get? a=some o→h'.get? a=some o):SeqH h.IsList B l v→SeqH h'.IsList B l v | .mk a vs e ⟨o,e1,e2⟩ r len=>.mk a vs e ⟨o,k _ _ e1,e2⟩ r len
theorem HR.keeps(k:∀a o,h.get? a=some o→h'.get? a=some o)(q:HR B h x v):HR B h' x v:=by
 unfold HR at q ⊢
 cases e:vL x with
 |none=>rw[e]at q;exact q
 |some l=>rw[e]at q;exact SeqH.keeps k q
theorem elim_get{α β:Type}{o:Option α}{d:Option β}{f:α→Option β}{b:β}{P:Prop}(e:Option.elim o d f=some b)(h1:∀a,o=some a→f a=some b→P)(h2:d=some b→P):P:=
 match o,e,h1 with | none,e,_=>h2 e | some a,e,h1=>h1 a rfl e
theorem take_le{α:Type}{l:List α}{n k:Nat}(h:l.length≤k):(l.take n).length≤k:=ltr (List.length_take_le' ..) h
theorem drop_le{α:Type}{l:List α}{n k:Nat}(h:l.length≤k):(l.drop n).length≤k:=ltr (List.length_drop .. ▸Nat.sub_le ..) h
theorem int_nat{i:Int}(h:0≤i):(i.toNat:Int)=i:=Int.toNat_of_nonneg h
inductive GetI(c:Cx)(g:Gh)(st:St)(r:V)(v u:Value)(s:Shared):Prop
 |mk (t id:String) (hT:s.TypeIs v t) (hl:typeLookup (.type t) "__getitem__" =pure (some (.builtin id))) (h:wpAny c.M c.A (getItem v u) (LfV c g st r) (fun o0 o0=>False) s)
section
variable(X:Sim c g st s)
include X
theorem sub_sound(e:subV x y=some r)(rx:HR g.B s.heap x v)(ry:Rep g.B y u):GetI c g st r v u s:=by
 cases x with
 |str l=>
  obtain⟨i,e1,e⟩:=bGt e
  obtain⟨k,e2,e⟩:=bGt e
  obtain⟨cc,e3,rfl⟩:=map_get e
  cases vI_some e1
  obtain⟨q,t,rfl,rfl,hl,ok⟩:=rx;obtain⟨t',rfl⟩:=ry
  obtain⟨hs,lo,hi,_⟩:=idx_of e2
  obtain⟨f1,f2⟩:=fit63 hl lo hi
  refine .mk _ _ (typeIs_str s q t) F.slot_str_getitem.lookup (P.getItem_str (c:=cc) (Bool.or_eq_false_iff.mpr ⟨decide_eq_false (Int.not_lt.mpr f1),decide_eq_false (Int.not_le.mpr f2)⟩) ?_ (Lf.tokV X ?_))
  ·refine(congrArg (fun o:Option Nat=>o.bind (q.cps[·]?)) hs).trans ?_
   rw[←e3];exact(Array.getElem?_toList ..).symm
  ·exact str_rep (s:=⟨#[cc]⟩) (show 1≤sizeLine from tSz (by decide)) (strOk_sub (l:=[cc]) ok fun d hd=>List.mem_singleton.mp hd▸List.mem_of_getElem? e3)
 |tup l=>
  obtain⟨i,e1,e⟩:=bGt e
  obtain⟨k,e2,e5⟩:=bGt e
  cases vI_some e1
  obtain⟨a,vs,rfl,hv,rl,hl⟩:=tup_of X.kb rx
  obtain⟨t',rfl⟩:=ry
  obtain⟨hs,lo,hi,_⟩:=idx_of e2
  obtain⟨f1,f2⟩:=fit63 hl lo hi
  obtain⟨z,h3,h4⟩:=rl.get e5
  exact .mk _ _ hv.typeIs slot_tuple_getitem.lookup (PyProof.Rows.getItem_tuple hv f1 f2 (rl.size▸hs) ((Array.getElem?_toList ..).symm.trans h3) (Lf.hereV X h4))
 |list l=>
  obtain⟨i,e1,e⟩:=bGt e
  obtain⟨k,e2,e5⟩:=bGt e
  cases vI_some e1
  obtain⟨a,vs,rfl,hv,rl,hl⟩:=rx
  obtain⟨t',rfl⟩:=ry
  obtain⟨hs,lo,hi,hk⟩:=idx_of e2
  obtain⟨f1,f2⟩:=fit63 hl lo hi
  obtain⟨z,h3,h4⟩:=rl.get e5
  have h5:=(Array.getElem?_toList ..).symm.trans h3
  refine .mk _ _ hv.typeIs list_getitem_lookup ?_
  rcases hk with⟨h0,rfl⟩ | ⟨h0,rfl⟩
  ·exact wpAny_getItem_list hv h0 f2 h5 (Lf.hereV X h4)
  ·rw[←rl.size]at lo h5
   exact wpAny_getItem_list_neg hv h0 lo f1 h5 (Lf.hereV X h4)
 |_=>cases e
noncomputable def PartRep(B:BH)(o:Option V)(v:Value):Prop:=Option.elim o (v=.none) fun x=>Rep B x v
section
variable{lo hi:Option V}{lv uv:Value}{sl:Addr}(hsl:s.heap.IsSliceOf sl lv uv .none){i j:Int}
include hsl
theorem slT_list(rs:SeqH s.heap.IsList g.B l v)(ru:IntP i uv)(hl:lv=.none)(h0:0≤i):GetI c g st (.list (l.take i.toNat)) v (.ref sl) s:=by
 obtain⟨a,vs,rfl,hv,rs,hn⟩:=rs
 obtain⟨t,rfl⟩:=ru
 subst hl
 refine .mk _ _ hv.typeIs list_getitem_lookup (wpAny_getItem_list_slice hv hsl .none (.int _ t) .none nofun (X.newList ⟨rfl,rfl⟩ rfl ?_ (take_le hn)) (rs.size▸hn))
 rw[←int_nat h0,slicePick_upto',int_nat h0];exact rs.take _
theorem slT_tup(rs:SeqH s.heap.IsTuple g.B l v)(ru:IntP i uv)(hl:lv=.none)(h0:0≤i)(h1:i < l.length):GetI c g st (.tup (l.take i.toNat)) v (.ref sl) s:=by
 obtain⟨a,vs,rfl,hv,rs,hn⟩:=rs
 obtain⟨t,rfl⟩:=ru
 subst hl
 obtain⟨k,rfl⟩:=Int.eq_ofNat_of_zero_le h0
 exact .mk _ _ hv.typeIs slot_tuple_getitem.lookup (getItem_tuple_to hv hsl (rs.size▸Int.ofNat_lt.mp h1) (X.newTuple ⟨rfl,rfl⟩ rfl (rs.take k) (take_le hn)) (rs.size▸hn))
theorem slF_list(rs:SeqH s.heap.IsList g.B l v)(ru:IntP i lv)(hu:uv=.none)(h0:0≤i):GetI c g st (.list (l.drop i.toNat)) v (.ref sl) s:=by
 obtain⟨a,vs,rfl,hv,rs,hn⟩:=rs
 obtain⟨t,rfl⟩:=ru
 subst hu
 refine .mk _ _ hv.typeIs list_getitem_lookup (wpAny_getItem_list_slice hv hsl (.int _ t) .none .none nofun (X.newList ⟨rfl,rfl⟩ rfl ?_ (drop_le hn)) (rs.size▸hn))
 rw[←int_nat h0,slicePick_from',int_nat h0];exact rs.drop _
theorem slB_list(rs:SeqH s.heap.IsList g.B l v)(rl:IntP i lv)(ru:IntP j uv)(h0:0≤i)(h1:0≤j):GetI c g st (.list (cut l i.toNat j.toNat)) v (.ref sl) s:=by
 obtain⟨a,vs,rfl,hv,rs,hn⟩:=rs
 obtain⟨t,rfl⟩:=rl
 obtain⟨t',rfl⟩:=ru
 refine .mk _ _ hv.typeIs list_getitem_lookup (wpAny_getItem_list_slice hv hsl (.int _ t) (.int _ t') .none nofun (X.newList ⟨rfl,rfl⟩ rfl ?_ (take_le (drop_le hn))) (rs.size▸hn))
 rw[slicePick_plain,←int_nat h0,←int_nat h1]
 show Reps g.B _ ((vs.toList.drop (clipAt vs.toList.length _)).take (clipAt vs.toList.length _ - clipAt vs.toList.length _))
 rw[clip_cut,int_nat h0,int_nat h1];exact(rs.drop _).take _
theorem slB_str{l:List Nat}(rs:StrP l v)(rl:IntP i lv)(ru:IntP j uv)(h0:0≤i)(h1:i≤j)(h2:j≤l.length):GetI c g st (.str (cut l i.toNat j.toNat)) v (.ref sl) s:=by
 obtain⟨y,t2,rfl,rfl,hl,ok⟩:=rs
 obtain⟨t,rfl⟩:=rl
 obtain⟨t',rfl⟩:=ru
 obtain⟨k,rfl⟩:=Int.eq_ofNat_of_zero_le h0
 obtain⟨k',rfl⟩:=Int.eq_ofNat_of_zero_le (Int.le_trans h0 h1)
 have hk:k≤k':=Int.ofNat_le.mp h1
 have hk':k'≤y.length:=Int.ofNat_le.mp h2
 refine .mk _ _ (typeIs_str _ y t2) F.slot_str_getitem.lookup (wpAny_getItem_str_slice (l:=some (_,t)) (u:=some (_,t')) (st:=none) hsl rfl ?_)
 have hp:(slicePicked y (some ((k:Int),t)) (some ((k':Int),t')) none).filterMap (y.cps[·]?)=cut y.cps.toList k k':=StrLaws.sliced_plain y hk hk'
 have hlen:(slicePicked y (some ((k:Int),t)) (some ((k':Int),t')) none).length=k' - k:=(congrArg List.length (StrLaws.strSliceIndices_plain hk hk')).trans ((lmp ..).trans (List.length_range ..))
 have hle:(cut y.cps.toList k k').length≤sizeLine:=take_le (drop_le hl)
 unfold sliceMade
 rw[hp,hlen]
 by_cases hw:((((none:Option (Int×Tok)).map (·.1)).getD 1:Int)==1&&(k' - k==y.length))=true
 ·rw[if_pos hw]
  have hw:k' - k=y.length:=eq_of_beq (Bool.and_eq_true_iff.mp hw).2
  have f1:k'=y.length:=Nat.le_antisymm hk' (hw▸Nat.sub_le ..)
  have f0:k=0:=by lia
  have:cut y.cps.toList k k'=y.cps.toList:=by rw[f0,f1];exact List.take_length ..
  exact Lf.hereV X (Eq.mpr (congrArg (fun l=>Rep g.B (.str l) (.str y t2)) this) (str_rep hl ok))
 ·rw[if_neg hw]
  exact⟨hle,Lf.tokV X (str_rep (s:=⟨(cut y.cps.toList k k').toArray⟩) hle (strOk_sub ok fun c hc=>List.mem_of_mem_drop (List.mem_of_mem_take hc)))⟩
theorem slV(e:sliceV x lo hi=some r)(rx:HR g.B s.heap x v)(rl:PartRep g.B lo lv)(rh:PartRep g.B hi uv):GetI c g st r v (.ref sl) s:=by
 cases lo with
 |none=>
  cases hi with
  |none=>exact aBn rfl e
  |some b=>
   obtain⟨b,e1,e⟩:=bGt e
   refine elim_get e (fun l e2 e=>?_) fun e=>?_
   ·obtain⟨h0,e⟩:=ite_get e
    exact Option.some.inj e▸slT_list X hsl (listH rx e2) (intR rh e1) rl h0
   ·obtain⟨l,e2,e⟩:=bGt e
    obtain⟨h0,e⟩:=ite_get e
    exact Option.some.inj e▸slT_tup X hsl (tupH X.kb rx e2) (intR rh e1) rl h0.1 h0.2
 |some a=>
  cases hi with
  |none=>
   obtain⟨a,e1,e⟩:=bGt e
   obtain⟨l,e2,e⟩:=bGt e
   obtain⟨h0,e⟩:=ite_get e
   exact Option.some.inj e▸slF_list X hsl (listH rx e2) (intR rl e1) rh h0
  |some b=>
   obtain⟨a,e1,e⟩:=bGt e
   obtain⟨b,e2,e⟩:=bGt e
   refine elim_get e (fun l e3 e=>?_) fun e=>?_
   ·obtain⟨h0,e⟩:=ite_get e
    exact Option.some.inj e▸slB_list X hsl (listH rx e3) (intR rl e1) (intR rh e2) h0.1 h0.2
   ·obtain⟨l,e3,e⟩:=bGt e
    obtain⟨h0,e⟩:=ite_get e
    exact Option.some.inj e▸slB_str X hsl (strH rx e3) (intR rl e1) (intR rh e2) h0.1 h0.2.1 h0.2.2
end
theorem slice_sound{lo hi:Option V}{lv uv:Value}(hs:Same s s')(hh:s'.heap=s.heap.push {cls:=.type "slice",data:=.fields #[lv,uv,.none]})(e:sliceV x lo hi=some r)(rx:HR g.B s.heap x v)(rl:PartRep g.B lo lv)(rh:PartRep g.B hi uv):
  GetI c g st r v (.ref s.heap.objs.size) s':=
 have k:∀a o,s.heap.get? a=some o→s'.heap.get? a=some o:=fun o0 o0 e=>hh▸Heap.get?_push_of_some _ e
 slV (X.grow hs k) (hh▸Heap.IsSliceOf.new ..) e (rx.keeps k) rl rh
end
end
section
open PySem.SeqAt
variable{c c':Cx}{g g':Gh}{st st':St}{s s':Shared}{h h':Heap}{a:Addr}{B:BH}{v u:Value}{x y r:V}{l:List V}
structure TabOk(p:Params):Prop where
 glob:∀(k:Nat) (x:V),globs[k]?=some x→∃v,nsIn (TT.K p) mainGlobals (TT.gname k)=some (some v)∧Rep (fun a=>(TT.K p).lookup a) x v
 fn:∀f,TT.fname f≠ "" →nsIn (TT.K p) mainGlobals (TT.fname f)=some (some (.ref (TT.fn f)))
 cls:∀k,k < clss.length→nsIn (TT.K p) mainGlobals (TT.cname k)=some (some (.ref (TT.cls k)))
 exc:nsIn (TT.K p) mainGlobals TT.ename=some (some (.ref TT.exc))
 blt:∀n∈(["len", "int", "str", "abs", "sum", "tuple", "isinstance", "range", "enumerate"]:List Str),nsIn (TT.K p) mainGlobals n=some none
@[reducible] noncomputable def Cx.C(c:Cx):CallT:=cN prog c.n
abbrev SX(c:Cx)(g:Gh)(e:Expr)(x:X):Prop:=Snd c g (eval e c.env) (fun {γ}=>(ck c.C (γ:=γ) x).1) RepW
abbrev ST(c:Cx)(g:Gh)(e:Expr)(x:X):Prop:=Snd c g (isTrue e c.env (eval e c.env)) (fun {γ}=>(ck c.C (γ:=γ) x).2) (fun o0 y v=>v=y)
section
variable{E:Value→Shared→Prop}{Q:Value→Shared→Prop}{id:Str}{pos:Pos}{k:Nat}{e e1 e2 e3:Expr}{a b d:X}{o o':Op}
theorem globalName(X:Sim c g st s)(hk:c.env.kindOf id=some .globalImplicit)(hd:(id==("__debug__" :Str))=false)(e:nsIn (TT.K c.w.params) mainGlobals id=some (some v))(h:Q v s):wpAny c.M c.A (eval (.Name id pos) c.env) Q E s:=
 have hb:=fun a o q=>((X.at_ a).base o q).2
 let ⟨mg,hg⟩:=X.ok.bas.g
 Calls.Name_function_global X.ok.kind hk (Calls.loadGlobal_global (mg:=mg) (X.ok.globals▸hg.keeps hb) (mg_of (X.ok.bas.K.keeps hb) (hg.keeps hb) e) h) hd
theorem builtinName(X:Sim c g st s)(hk:c.env.kindOf id=some .globalImplicit)(hd:(id==("__debug__" :Str))=false)(hn:id≠ "__name__")(e:nsIn (TT.K c.w.params) mainGlobals id=some none)(hv:bootBuiltins id=some v)(h:Q v s):wpAny c.M c.A (eval (.Name id pos) c.env) Q E s:=
 have hb:=fun a o q=>((X.at_ a).base o q).2
 let ⟨mg,hg⟩:=X.ok.bas.g
 let ⟨mb,hm,hb'⟩:=X.ok.bas.b
 Calls.Name_function_global X.ok.kind hk (Calls.loadGlobal_builtin (mg:=mg) (mb:=mb) (X.ok.globals▸hg.keeps hb) (mg_none_of (X.ok.bas.K.keeps hb) (hg.keeps hb) e) (X.ok.builtins▸hm.keeps hb) ((hb' id hn).trans hv) h) hd
theorem join_get{α:Type}{o:Option (Option α)}{x:α}(e:o.join=some x):o=some (some x):=match o,e with | some _,e=>congrArg _ e
theorem loc_sx{i:Nat}(hs:c.slots[i]?=some id)(hd:(id==("__debug__" :Str))=false):SX c g (.Name id pos) (.loc i):=Snd.last fun {g₁} l {st s} X {w} e=>wpAny_Name (by
 obtain⟨m,_,hn,slot⟩:=X.env
 rcases slot i id _ hs (join_get e)with⟨hk,r⟩ | ⟨hk,ce,hc,v,hv,r⟩
 ·obtain⟨v,h1,h2⟩:=r
  exact wpAny_loadName_local X.ok.kind hk hn h1 (.here X h2)
 ·obtain⟨v,rfl,h2⟩:=r
  exact wpAny_loadName_cell X.ok.kind hk hc hv (.here X h2)) hd
theorem glob_sx(tk:TabOk c.w.params)(hk:c.env.kindOf (TT.gname k)=some .globalImplicit)(hd:(TT.gname k==("__debug__" :Str))=false):SX c g (.Name (TT.gname k) pos) (.glob k):=Snd.last fun {g₁} l {st s} X {w} e=>
 let ⟨y,hy,hw⟩:=map_get e
 let ⟨v,h1,h2⟩:=tk.glob k y hy
 globalName X hk hd h1 (.here X (hw▸Rep.mono (fun a o q=>((X.at_ a).base o (X.ok.bas.K a o q)).1) h2))
theorem none_sx:SX c g (.Constant .none k pos) .none:=Snd.val fun {o0} l {o0 o0} X=>wpAny_Constant_none (Lf.hereV X (y:=.none) rfl)
theorem bool_sx{b:Bool}:SX c g (.Constant (.bool b) k pos) (.bool b):=Snd.val fun {o0} l {o0 o0} X=>wpAny_Constant_bool (Lf.hereV X (y:=.bool b) rfl)
theorem int_sx{i:Int}:SX c g (.Constant (.int i) k pos) (.int i):=Snd.val fun {o0} l {o0 o0} X=>wpAny_Constant_int (Lf.tokV X (y:=.int i) ⟨_,rfl⟩)
theorem str_sx{y:Str}(h:y.length≤sizeLine)(ok:PyData.strOk y=true):SX c g (.Constant (.str y) k pos) (.str y.cps.toList):=Snd.val fun {o0} l {o0 o0} X=>wpAny_Constant_str (Lf.tokV X (str_rep h ok))
theorem bin_sx{o:Op}(h1:SX c g e1 a)(h2:SX c g e2 b):SX c g (.BinOp e1 (opB o) e2 pos) (.bin o a b):=by
 show Snd c g (eval (.BinOp e1 (opB o) e2 pos) c.env) _ _
 rw[arm_eval_BinOp]
 refine Snd.bind h1 (fun o0=>rfl) fun g1 w v le hv=>Snd.bind (Snd.holding (h2.weaken le)) (fun o0=>rfl) fun g2 w' v' le' hv'=>Snd.standAt (Snd.operate (Snd.last fun {g₁} l {st s} X {r} e=>?_))
 obtain⟨y,q1,e⟩:=bGt e
 obtain⟨y',q2,e⟩:=bGt e
 obtain⟨z,q3,e⟩:=map_get e
 exact e▸bin_sound X q3 (deref_HR X (hv.mono (le'.trans l)) q1) (deref_HR X (hv'.mono l) q2)
theorem asV_rep{w:W}(e:asV w=some x)(q:RepW g w v):Rep g.B x v:=match w,e,q with | .v _,rfl,q=>q
theorem asInt_rep{w:W}{i:Int}(e:asInt w=some i)(q:RepW g w v):IntP i v:=let ⟨_,e1,e2⟩:=bGt e;intR (asV_rep e1 q) e2
theorem truthyW_v{w:W}{b:Bool}(e:truthyW w=some b):w=.v (.bool b):=by
 cases w with
 |v x=>cases x with
  |bool b'=>exact congrArg (fun b=>W.v (.bool b)) (Option.some.inj e)
  |_=>exact nomatch e
 |_=>exact nomatch e
theorem truthyW_rep{w:W}{b:Bool}(e:truthyW w=some b)(q:RepW g w v):v=.bool b:=by
 cases truthyW_v e;exact q
theorem neg_sx(h1:SX c g e a):SX c g (.UnaryOp .USub e pos) (.neg a):=
 Snd.bind h1 (fun o0=>rfl) fun g1 w v le hv=>Snd.standAt (Snd.holding (Snd.opt fun i e=>Snd.val fun {o0} l {o0 o0} X=>let ⟨t,q⟩:=asInt_rep e hv;q▸P.neg_int (Lf.tokV X (y:=.int (-i)) ⟨_,rfl⟩)))
theorem cmpW_snd{o:Cmp}{w w':W}{v v':Value}(hv:RepW g w v)(hv':RepW g w' v'):Snd c g (compareOp (opC o) v v') (fun κ st=>oK (cmpW o st.mem w w') κ st) (fun o0 b u=>u=.bool b):=Snd.last fun {o0} l {o0 o0} X {o0} e=>
 let ⟨y,q1,e⟩:=bGt e
 let ⟨y',q2,e⟩:=bGt e
 cmp_sound X e (deref_HR X (hv.mono l) q1) (deref_HR X (hv'.mono l) q2) (.here X rfl)
theorem mBf{op:CmpOp}{e:Expr}{t:Sem Value}(h:behindInMarks op e=false):markedBehindIn op e t=t:=by unfold markedBehindIn;rw[h]
theorem boolW{b:Bool}(h:u=.bool b):RepW g (.v (.bool b)) u:=h
theorem cmp_sx{o:Cmp}(hm:behindInMarks (opC o) e2=false)(h1:SX c g e1 a)(h2:SX c g e2 b):SX c g (.Compare e1 [opC o] [e2] pos) (.cmp o a b):=
 Snd.bind h1 (fun o0=>rfl) fun g1 w v le hv=>Snd.bind (Snd.holding (Snd.of_eq (h2.weaken le) (mBf hm))) (fun o0=>rfl) fun g2 w' v' le' hv'=>Snd.standAt (Snd.operate (Snd.map (cmpW_snd (hv.mono le') hv') (fun o0=>rfl) fun g' b u o0 hu=>hu))
theorem cmp_st{o:Cmp}(hm:behindInMarks (opC o) e2=false)(h1:SX c g e1 a)(h2:SX c g e2 b):ST c g (.Compare e1 [opC o] [e2] pos) (.cmp o a b):=
 Snd.bind h1 (fun o0=>rfl) fun g1 w v le hv=>Snd.bind (Snd.holding (Snd.of_eq (h2.weaken le) (mBf hm))) (fun o0=>rfl) fun g2 w' v' le' hv'=>Snd.standAt (Snd.thenTruthy (Snd.operate (cmpW_snd (hv.mono le') hv')))
section
variable{o o':Cmp}(hm:behindInMarks (opC o') e3=false)(h1:SX c g e1 a)(h2:SX c g e2 b)(h3:SX c g e3 d)
include hm h1 h2 h3
theorem chain_sx:SX c g (.Compare e1 [opC o,opC o'] [e2,e3] pos) (.chain a o b o' d):=
 Snd.bind h1 (fun o0=>rfl) fun g1 w v le hv=>Snd.bind (Snd.holding (h2.weaken le)) (fun o0=>rfl) fun g2 w' v' le' hv'=>Snd.standAt (Snd.bind (Snd.holding (cmpW_snd (hv.mono le') hv')) (fun o0=>rfl) fun g3 b u le3 hu=>hu▸Snd.release (Snd.pureTruthy (match b with
  |false=>Snd.pure fun g' o0=>boolW rfl
  |true=>Snd.bind (Snd.holding (Snd.of_eq (h3.weaken ((le.trans le').trans le3)) (mBf hm))) (fun o0=>rfl) fun g4 w'' v'' le4 hv''=>Snd.standAt (Snd.operate (Snd.map (cmpW_snd (hv'.mono (le3.trans le4)) hv'') (fun o0=>rfl) fun g' b u o0 hu=>hu)))))
theorem chain_st:ST c g (.Compare e1 [opC o,opC o'] [e2,e3] pos) (.chain a o b o' d):=
 Snd.bind h1 (fun o0=>rfl) fun g1 w v le hv=>Snd.bind (Snd.holding (h2.weaken le)) (fun o0=>rfl) fun g2 w' v' le' hv'=>Snd.standAt (Snd.bind (Snd.holding (cmpW_snd (hv.mono le') hv')) (fun o0=>rfl) fun g3 b u le3 hu=>hu▸Snd.release (Snd.pureTruthy (match b with
  |false=>Snd.pure fun g' o0=>rfl
  |true=>Snd.bind (Snd.holding (Snd.of_eq (h3.weaken ((le.trans le').trans le3)) (mBf hm))) (fun o0=>rfl) fun g4 w'' v'' le4 hv''=>Snd.standAt (Snd.thenTruthy (Snd.operate (cmpW_snd (hv'.mono (le3.trans le4)) hv''))))))
end
theorem val_st(he:∀env whole,isTrue e env whole=(do let v←whole;standAt e.pos;holding [v] (truthy v)))(hx:∀{γ:Type} (κ:Kt Bool γ),(ck c.C a).2 κ=(ck c.C a).1 fun w=>oK (truthyW w) κ)(h:SX c g e a):ST c g e a:=
 Snd.of_eq (Snd.bind h hx fun g1 w v le hv=>Snd.standAt (Snd.opt (n:=fun b o0 κ=>κ b) fun b e=>truthyW_rep e hv▸Snd.val fun {o0} l {o0 o0} X=>wpAny_holding (wpAny_truthy_bool (.here X rfl)))) (he c.env _)
theorem not_st(h:ST c g e a):ST c g (.UnaryOp .Not e pos) (.not a):=Snd.bind h (fun o0=>rfl) fun g1 b v le hv=>Snd.pure fun o0 o0=>congrArg not hv
theorem ite_sx(h:ST c g e1 a)(h1:SX c g e2 b)(h2:SX c g e3 d):SX c g (.IfExp e1 e2 e3 pos) (.ite a b d):=Snd.bind h (fun o0=>rfl) fun g1 t v le hv=>hv▸match v with | true=>h1.weaken le | false=>h2.weaken le
theorem ite_st(h:ST c g e1 a)(h1:ST c g e2 b)(h2:ST c g e3 d):ST c g (.IfExp e1 e2 e3 pos) (.ite a b d):=Snd.bind h (fun o0=>rfl) fun g1 t v le hv=>hv▸match v with | true=>h1.weaken le | false=>h2.weaken le
end
end
section
open PySem.SeqAt
variable{c c':Cx}{g g':Gh}{st st':St}{s s':Shared}{h h':Heap}{a:Addr}{B:BH}{v u:Value}{x y r:V}{l:List V}
section
variable{pos:Pos}{e e1 e2 e3:Expr}{a b d:X}{es:List Expr}{xs:List X}
theorem truthyW_self{w:W}{b:Bool}(e:truthyW w=some b):RepW g w (.bool b):=by
 cases truthyW_v e;exact rfl
noncomputable def opBool(a:Bool):BoolOp:=Bool.casesOn a .Or .And
theorem boolOp_sx(i:Bool)(r:All2 (SX c g) es xs):∀{g'},Gh.Le g g'→Snd c g' (boolOp pos (opBool i) (evalEach es c.env)) (fun {γ}=>foldBK i (cks c.C (γ:=γ) xs)) RepW:=by
 induction r with
 |nil=>exact fun o0=>Snd.stop
 |@cons e x es xs h r ih=>
  intro g' le
  cases r with
  |nil=>exact h.weaken le
  |cons h2 r2=>
   cases i with
   |true=>
    refine Snd.bind (h.weaken le) (fun o0=>rfl) fun g1 w v l1 hv=>Snd.standAt (Snd.opt fun b e=>truthyW_rep e hv▸Snd.pureTruthy ?_)
    cases b with
    |true=>exact ih (le.trans l1)
    |false=>exact Snd.pure fun g' l=>truthyW_self e
   |false=>
    refine Snd.bind (h.weaken le) (fun o0=>rfl) fun g1 w v l1 hv=>Snd.standAt (Snd.opt fun b e=>truthyW_rep e hv▸Snd.pureTruthy ?_)
    cases b with
    |false=>exact ih (le.trans l1)
    |true=>exact Snd.pure fun g' l=>truthyW_self e
theorem allTrue_st(i:Bool)(r:All2 (ST c g) es xs):∀{g'},Gh.Le g g'→Snd c g' (allTrue (opBool i) es c.env) (fun {γ}=>foldTBK i (cks c.C (γ:=γ) xs)) (fun o0 y v=>v=y):=by
 induction r with
 |nil=>exact fun o0=>Snd.pure fun o0 o0=>by cases i<;>rfl
 |@cons e x es xs h r ih=>
  intro g' le
  cases i with
  |true=>
   refine Snd.bind (h.weaken le) (fun o0=>rfl) fun g1 b v l1 hv=>hv▸?_
   cases v with
   |true=>exact ih (le.trans l1)
   |false=>exact Snd.pure fun o0 o0=>rfl
  |false=>
   refine Snd.bind (h.weaken le) (fun o0=>rfl) fun g1 b v l1 hv=>hv▸?_
   cases v with
   |false=>exact ih (le.trans l1)
   |true=>exact Snd.pure fun o0 o0=>rfl
theorem and_sx(r:All2 (SX c g) es xs):SX c g (.BoolOp .And es pos) (.and xs):=boolOp_sx true r (.refl _)
theorem or_sx(r:All2 (SX c g) es xs):SX c g (.BoolOp .Or es pos) (.or xs):=boolOp_sx false r (.refl _)
theorem and_st(r:All2 (ST c g) es xs):ST c g (.BoolOp .And es pos) (.and xs):=allTrue_st true r (.refl _)
theorem or_st(r:All2 (ST c g) es xs):ST c g (.BoolOp .Or es pos) (.or xs):=allTrue_st false r (.refl _)
noncomputable def isStar(e:Expr):Bool:=Nat.beq e.ctorIdx 22
theorem starEach_plain{e:Expr}{rest:List Expr}{env:Env}(h:isStar e=false):starEach (e::rest) env=(false,eval e env)::starEach rest env:=by
 cases e<;>first | rfl | exact Bool.noConfusion h
structure PartOk(c:Cx)(g:Gh)(e:Expr)(x:X):Prop where
 star:isStar e=false
 sx:SX c g e x
abbrev SXs(c:Cx)(g:Gh)(es:List Expr)(xs:List X):Prop:=All2 (PartOk c g) es xs
structure WsRep(n:Nat)(g:Gh)(ws:List W)(vs:List Value):Prop where
 rep:RepsW g ws vs
 len:vs.length=n
theorem spliced_sx(r:SXs c g es xs):∀{g'},Gh.Le g g'→Snd c g' (spliced (backTo pos (starEach es c.env))) (fun {γ}=>foldVsK (cks c.C (γ:=γ) xs)) (WsRep xs.length):=by
 induction r with
 |nil=>exact fun o0=>Snd.pure fun o0 o0=>⟨.nil,rfl⟩
 |@cons e x es xs h r ih=>
  intro g' le
  rw[starEach_plain h.star]
  exact Snd.bind (h.sx.weaken le) (fun o0=>rfl) fun g1 w v l1 hv=>Snd.pureL (Snd.bind (Snd.holding (ih (le.trans l1))) (fun o0=>rfl) fun g2 ws vs l2 hvs=>Snd.pure fun g3 l3=>⟨.cons (hv.mono (l2.trans l3)) (RepsW.mono l3 hvs.rep),congrArg Nat.succ hvs.len⟩)
theorem list_frozen{a:Addr}{o:Obj}{vs:Array Value}{n:Nat}(b1:B a=some o)(cls:o.cls=.type "list")(dat:o.data=.seq vs n)(reps:Reps B l vs.toList)(len:l.length≤top)(dict:o.dict=none):Rep B (.list l) (.ref a):=.mk a o vs n rfl b1 cls dat reps (tSz len) dict
theorem frozen{β α:Type}{t:Sem α}{Q:Gh→β→α→Prop}{ws:List W}{vs:List Value}:∀{g:Gh} {m:List V→Km β},RepsW g ws vs→(∀{g'},Gh.Le g g'→∀xs,Reps g'.B xs vs→Snd c g' t (m xs) Q)→Snd c g t (fun κ=>frK ws fun xs=>m xs κ) Q:=by
 induction ws generalizing vs with
 |nil=>intro g m r h;cases r;exact h (.refl _) [] .nil
 |cons w ws ih=>
  intro g m r h
  cases r with
  |@cons _ v _ vs hw r=>
   cases w with
   |v x=>exact ih (m:=fun xs=>m (x::xs)) r fun l xs hx=>h l (x::xs) (.cons (Rep.mono l.1 hw) hx)
   |l i=>
    refine⟨fun {g₁} l {st s} X {γ k r'} e=>?_⟩
    obtain⟨l',hl,e⟩:=optK_get e
    obtain⟨a,ha,rfl⟩:=hw
    have hm:=aoL_some hl
    have ha':=l.2 _ _ ha
    have w:=(X.at_ a).mem i _ ha' hm trivial
    obtain⟨o,us,k',e1,e2,e3,e4,e5,e6⟩:=w.rep
    have le:Gh.Le g₁ ⟨addK g₁.B a o,g₁.φ⟩:=⟨addK_le w.B,fun o0 o0 e=>e⟩
    have X':=X.freeze ha' hm trivial e1 (fun q=>Value.noConfusion (e2.symm.trans q))
    have z:=(ih (m:=fun xs=>m (.list l'::xs)) (RepsW.mono (l.trans le) r) fun l2 xs hx=>h ((l.trans le).trans l2) (.list l'::xs) (.cons (Rep.mono l2.1 (list_frozen aKs e2 e3 (e4.mono le.1) e5 e6)) hx)).h (.refl _) X' e
    exact wpAny_mono z (fun o0 o0=>Post.up le) fun o0 o0=>Bad.up le
   |o c i=>exact Snd.stop
theorem tup_sx{x1}(hs:SXs c g es xs)(hn:xs.length≤1000):SX c g (.Tuple es x1 pos) (.tup xs):=
 Snd.standAt (Snd.bind (spliced_sx hs (.refl _)) (fun o0=>rfl) fun g1 ws vs le hvs=>frozen hvs.rep fun {g2} l2 ys hys=>Snd.val fun {o0} l {o0 s} X=>
  have hl:ys.length≤sizeLine:=tSz (hys.length.symm.trans hvs.len▸ltr hn (by decide))
  wpAny_newTuple (X.newTuple ⟨rfl,rfl⟩ rfl (vs:=vs.toArray) (hys.mono l.1) hl) (hys.length▸hl))
theorem list_sx{mu:Bool}(hs:SXs c g es xs)(hn:xs.length≤1000):SX c g (.List es pos) (.list mu xs):=
 Snd.standAt (Snd.bind (spliced_sx hs (.refl _)) (fun o0=>rfl) fun g1 ws vs le hvs=>frozen hvs.rep fun {g2} l2 ys hys=>
  have ht:ys.length≤top:=hys.length.symm.trans hvs.len▸ltr hn (by decide)
  match mu with
  |false=>Snd.val fun {o0} l {o0 s} X=>wpAny_newList (X.newList ⟨rfl,rfl⟩ rfl (vs:=vs.toArray) (hys.mono l.1) (tSz ht)) (hys.length▸tSz ht)
  |true=>⟨fun {g₁} l {o0 s} X {o0 o0 o0} e=>wpAny_newList (.mk (.l _) ⟨g₁.B,g₁.φ++[s.heap.objs.size]⟩ _ ⟨BH.Le.refl _,fun i b e=>(List.getElem?_append_left (List.getElem?_eq_some_iff.mp e).1).trans e⟩
    (X.alloc (s':={s with heap:=s.heap.push {cls:=.type "list",data:=.seq vs.toArray}}) (o:=.list ys) ⟨rfl,rfl⟩ (Nat.le_refl _) (fun o0 o0 e=>Heap.get?_push_of_some _ e) (.mk _ vs.toArray 0 (Heap.get?_push_size _ rfl) rfl rfl (hys.mono l.1) ht rfl)) (.mk s.heap.objs.size (X.len▸List.getElem?_concat_length ..) rfl) e) (hys.length▸tSz ht)⟩)
theorem sub_sx(h1:SX c g e1 a)(h2:SX c g e2 b):SX c g (.Subscript e1 e2 pos) (.sub a b):=
 Snd.bind h1 (fun o0=>rfl) fun g1 w v le hv=>Snd.bind (Snd.holding (h2.weaken le)) (fun o0=>rfl) fun g2 w' v' le' hv'=>Snd.standAt (Snd.opt fun y e=>Snd.last fun {o0} l {o0 o0} X {o0} e2=>
  let ⟨z,q1,e2⟩:=bGt e2
  let ⟨z',q2,e3⟩:=map_get e2
  match sub_sound X q2 (deref_HR X (hv.mono (le'.trans l)) q1) (Rep.mono l.1 (asV_rep e hv'))with | .mk _ _ hT hl h=>e3▸subTail hT hl h)
end
end
section
open PySem.SeqAt
variable{c c':Cx}{g g':Gh}{st st':St}{s s':Shared}{h h':Heap}{a:Addr}{B:BH}{v u:Value}{x y r:V}{l:List V}
structure SndB{α δ ε:Type}(c:Cx)(g:Gh)(t:Sem α)(k:α→Sem δ)(m:Km ε)(Q:Gh→ε→δ→Prop):Prop where
 h:∀{g₁},Gh.Le g g₁→∀{st s},Sim c g₁ st s→∀{γ:Type} {κ:Kt ε γ} {r},m κ st=some r→wpAny c.M c.A t (fun v s'=>wpAny c.M c.A (k v) (Post c g₁ κ r Q) (Bad c g₁ false r) s') (Bad c g₁ false r) s
section
variable{α β δ ε ζ:Type}{t:Sem α}{k:α→Sem δ}{m m':Km ε}{Q:Gh→ε→δ→Prop}
theorem SndB.snd(h:SndB c g t k m Q):Snd c g (t >>=k) m Q:=⟨fun l o0 o0 X o0 o0 o0 e=>wpAny_bind (h.h l X e)⟩
theorem SndB.hold{vs:List Value}(h:SndB c g t k m Q):SndB c g (holding vs t) k m Q:=⟨fun l o0 o0 X o0 o0 o0 e=>wpAny_holding (h.h l X e)⟩
theorem SndB.bind{f:α→Sem β}{k:β→Sem δ}{mm:Km ζ}{P:Gh→ζ→α→Prop}{n:ζ→Km ε}(h:Snd c g t mm P)(q:∀{γ:Type} (κ:Kt ε γ),m' κ=mm fun x=>n x κ)(kk:∀g' x v,Gh.Le g g'→P g' x v→SndB c g' (f v) k (n x) Q):SndB c g (t >>=f) k m' Q:=⟨fun l o0 o0 X o0 o0 o0 e=>
 wpAny_bind (wpAny_mono (h.h l X (q _▸e)) (fun o0 o0 z=>match z with | .mk w g' st' le sim q e=>wpAny_mono ((kk g' w _ (l.trans le) q).h (.refl _) sim e) (fun o0 o0 z=>wpAny_mono z (fun o0 o0=>Post.up le) fun o0 o0=>Bad.up le) fun o0 o0=>Bad.up le) fun o0 o0 z=>z)⟩
theorem SndB.pureL{f:α→Sem β}{k:β→Sem δ}{a:α}(h:SndB c g (f a) k m Q):SndB c g (Pure.pure a >>=f) k m Q:=⟨fun l o0 o0 X o0 o0 o0 e=>wpAny_bind (wpAny_pure (h.h l X e))⟩
theorem SndB.pureH{f:α→Sem β}{k:β→Sem δ}{a:α}{vs:List Value}(h:SndB c g (f a) k m Q):SndB c g (holding vs (Pure.pure a) >>=f) k m Q:=⟨fun l o0 o0 X o0 o0 o0 e=>wpAny_bind (wpAny_holding (wpAny_pure (h.h l X e)))⟩
end
section
variable{pos p:Pos}{e e1 e2 e3:Expr}{a b d:X}{es:List Expr}{xs:List X}
theorem PartRep.mono{o:Option V}(le:Gh.Le g g')(q:PartRep g.B o v):PartRep g'.B o v:=match o,q with | none,q=>q | some _,q=>Rep.mono le.1 q
theorem slice_end{w:W}{lo hi:Option V}{lv uv:Value}{slice value:Expr}{f:Value→Sem Value}(hf:f=fun i=>standAt pos >>=fun o0=>getitemInPython v >>=fun b=>subscripted slice b v i >>=fun r=>letTemporaryGo value v r >>=fun o0=>pure r)
  (hv:RepW g w v) (hl:PartRep g.B lo lv) (hu:PartRep g.B hi uv):SndB c g (newFields "slice" [lv,uv,.none]) f (fun κ st=>oK (sliceO st.mem w lo hi) κ st) RepW:=⟨fun l o0 s X o0 o0 o0 e=>by
 subst hf
 obtain⟨r,e1,e2⟩:=optK_get e
 obtain⟨z,q1,e1⟩:=bGt e1
 obtain⟨z',q2,rfl⟩:=map_get e1
 refine wpAny_newObj_type (wpAny_bind (wpAny_standAt ?_))
 obtain⟨_,_,hT,hl',h⟩:=slice_sound (s':={s with heap:=s.heap.push {cls:=.type "slice",data:=.fields #[lv,uv,.none]}}) X ⟨rfl,rfl⟩ rfl q2 (deref_HR X (hv.mono l) q1) (hl.mono l) (hu.mono l)
 exact wpAny_mono (subTail hT hl' h) (fun o0 o0 z=>match z with | .mk g' le sim q=>.mk _ g' _ le sim q e2) fun o0 o0 z=>z.elim⟩
theorem sliceTo_sx(h1:SX c g e1 a)(h2:SX c g e2 b):SX c g (.Subscript e1 (.Slice none (some e2) none p) pos) (.sliceTo a b):=
 Snd.bind h1 (fun o0=>rfl) fun g1 w v le hv=>SndB.snd (SndB.hold (SndB.pureL (SndB.bind (Snd.holding (h2.weaken le)) (fun o0=>rfl) fun g2 w' v' le' hv'=>SndB.pureH ⟨fun l o0 o0 X o0 o0 o0 e=>
  let ⟨y,e1,e2⟩:=optK_get e
  (slice_end (lo:=none) (hi:=some y) rfl (hv.mono le') rfl (asV_rep e1 hv')).h l X e2⟩)))
theorem sliceFrom_sx(h1:SX c g e1 a)(h2:SX c g e2 b):SX c g (.Subscript e1 (.Slice (some e2) none none p) pos) (.sliceFrom a b):=
 Snd.bind h1 (fun o0=>rfl) fun g1 w v le hv=>SndB.snd (SndB.hold (SndB.bind (h2.weaken le) (fun o0=>rfl) fun g2 w' v' le' hv'=>SndB.pureH (SndB.pureH ⟨fun l o0 o0 X o0 o0 o0 e=>
  let ⟨y,e1,e2⟩:=optK_get e
  (slice_end (lo:=some y) (hi:=none) rfl (hv.mono le') (asV_rep e1 hv') rfl).h l X e2⟩)))
theorem slice_sx(h1:SX c g e1 a)(h2:SX c g e2 b)(h3:SX c g e3 d):SX c g (.Subscript e1 (.Slice (some e2) (some e3) none p) pos) (.slice a b d):=
 Snd.bind h1 (fun o0=>rfl) fun g1 w v le hv=>SndB.snd (SndB.hold (SndB.bind (h2.weaken le) (fun o0=>rfl) fun g2 w' v' le' hv'=>⟨fun {o0} l {o0 o0} X {o0 κ o0} e=>
  let ⟨y,e1,e2⟩:=optK_get e
  (SndB.bind (Snd.holding (h3.weaken (le.trans le'))) (m':=fun κ=>(ck c.C d).1 fun b=>oK (asV b) fun b st=>oK (sliceO st.mem w (some y) (some b)) κ st) (fun o0=>rfl) fun g3 w'' v'' le'' hv''=>SndB.pureH (a:=Value.none) (f:=fun s=>newFields "slice" [v',v'',s]) ⟨fun l o0 o0 X o0 o0 o0 e=>
   let ⟨z,e3,e4⟩:=optK_get e
   (slice_end (lo:=some y) (hi:=some z) rfl (hv.mono (le'.trans le'')) (Rep.mono le''.1 (asV_rep e1 hv')) (asV_rep e3 hv'')).h l X e4⟩).h l X e2⟩))
theorem evalArgs_all{M:Model}{A:Around}{E:Value→Shared→Prop}{f:Value}{Q:Args→Shared→Prop}{env:Env}(hs:∀e∈es,isStar e=false)(h:wpAny M A (spliced (backTo pos (starEach es env))) (fun vs s'=>Q ⟨vs,[]⟩ s') E s):wpAny M A (evalArgs f true (backTo pos (starEach es env)) []) Q E s:=by
 cases es with
 |nil=>
  unfold evalArgs
  show wpAny M A (spliced [] >>=_) Q E s
  exact wpAny_bind (wpAny_mono h (fun vs s' h'=>wpAny_holding (wpAny_bind (wpAny_pure (wpAny_bind (wpAny_pure (wpAny_pure h')))))) fun o0 o0 x=>x)
 |cons e es=>
  rw[starEach_plain (hs e (.head _))]at h ⊢
  exact Calls.evalArgs_plain h
theorem plain_any{env:Env}{es:List Expr}:(∀e∈es,isStar e=false)→(backTo pos (starEach es env)).any (·.1)=false:=List.rec (motive:=fun es=>(∀e∈es,isStar e=false)→(backTo pos (starEach es env)).any (·.1)=false) (fun o0=>rfl)
 (fun e es ih hs=>by rw[starEach_plain (hs e (.head _))];exact ih fun e he=>hs e (.tail _ he)) es
theorem SXs.plain(h:SXs c g es xs):∀e∈es,isStar e=false:=by
 induction h with
 |nil=>exact fun e h=>nomatch h
 |cons h _ ih=>exact fun e he=>(List.mem_cons.mp he).elim (fun q=>q▸h.star) (ih e)
noncomputable def Keeps(c:Cx)(f:Value):Prop:=∀g st s,Sim c g st s→∃k,(k=Keeper.frame∨k=Keeper.machine∨k=Keeper.boundFrame)∧Looks c.M s.heap (keeperOf f) k
theorem keeps_fn{f:Value}(h:keepIn (TT.K c.w.params) f=true):Keeps c f:=fun g st s x=>keeps_K h s.heap (x.ok.bas.K.keeps fun a o q=>((x.at_ a).base o q).2)
theorem keeps_machine{f:Value}(h:∀a,f≠.ref a):Keeps c f:=fun g st s x=>⟨.machine,.inr (.inl rfl),by
 cases f with
 |ref a=>exact absurd rfl (h a)
 |_=>exact .now⟩
section
variable{β ζ γ:Type}{f:Value}{first:List Value}{ms:Km ζ}{Qs:Gh→ζ→List Value→Prop}{n:ζ→Km β}{m:Km β}{Q:Gh→β→Value→Prop}
theorem callWith_any{g₁:Gh}{κ:Kt ζ γ}{r:Ex γ}{Q:Value→Shared→Prop}(hp:∀e∈es,isStar e=false)(hs:Snd c g (spliced (backTo pos (starEach es c.env))) ms Qs)(kp:Keeps c f)(l:Gh.Le g g₁)(X:Sim c g₁ st s)(e:ms κ st=some r)
  (h:∀g' ws vs st' s',Gh.Le g₁ g'→Sim c g' st' s'→Qs g' ws vs→κ ws st'=some r→wpAny c.M c.A (call f (first++vs)) Q (Bad c g₁ false r) s'):wpAny c.M c.A (callWith pos f first (backTo pos (starEach es c.env)) []) Q (Bad c g₁ false r) s:=
 callWith_of (P:=fun h=>∃g st s,Sim c g st s∧s.heap=h) (by rw[plain_any hp];rfl) (fun h ⟨g,st,s,x,e⟩=>e▸kp g st s x) (evalArgs_all hp (wpAny_mono (hs.h l X e)
  (fun vs s' z=>match z with | .mk w g' st' le sim q e=>⟨⟨g',st',s',sim,rfl⟩,h g' w vs st' s' le sim q e⟩) fun o0 o0 z=>z))
theorem cWs(hp:∀e∈es,isStar e=false)(hs:Snd c g (spliced (backTo pos (starEach es c.env))) ms Qs)(q:∀{γ:Type} (κ:Kt β γ),m κ=ms fun x=>n x κ)(kp:Keeps c f)(h:∀g₁ ws vs,Gh.Le g g₁→Qs g₁ ws vs→Snd c g₁ (call f (first++vs)) (n ws) Q):
  Snd c g (callWith pos f first (backTo pos (starEach es c.env)) []) m Q:=⟨fun l o0 o0 X o0 o0 o0 e=>callWith_any hp hs kp l X (q _▸e) fun g' ws vs st' s' le sim hq e=>wpAny_mono ((h g' ws vs (l.trans le) hq).h (.refl _) sim e) (fun o0 o0=>Post.up le) fun o0 o0=>Bad.up le⟩
end
noncomputable def Named(c:Cx)(id:Str)(f:Value):Prop:=∀{npos:Pos} {g st s} {Q:Value→Shared→Prop} {E:Value→Shared→Prop},Sim c g st s→Q f s→wpAny c.M c.A (eval (.Name id npos) c.env) Q E s
theorem call_name{β:Type}{id:Str}{npos:Pos}{f:Value}{m:Km β}{Q:Gh→β→Value→Prop}(hn:Named c id f)(h:Snd c g (callWith pos f [] (backTo pos (starEach es c.env)) []) m Q):Snd c g (eval (.Call (.Name id npos) es [] pos) c.env) m Q:=
 ⟨fun l o0 o0 X o0 o0 o0 e=>wpAny_bind (hn X (h.h l X e))⟩
theorem func_sx(tk:TabOk c.w.params)(cs:CallsOk c.n){npos:Pos}{f:Nat}(hk:c.env.kindOf (TT.fname f)=some .globalImplicit)(hd:(TT.fname f==("__debug__" :Str))=false)(hne:TT.fname f≠ "")(hf:∃d,fns[f]?=some d)(kp:keepIn (TT.K c.w.params) (.ref (TT.fn f))=true)
  (hs:SXs c g es xs):SX c g (.Call (.Name (TT.fname f) npos) es [] pos) (.call f xs):=
 call_name (fun X hq=>globalName X hk hd (tk.fn f hne) hq) (cWs (first:=[]) hs.plain (spliced_sx hs (.refl _)) (fun o0=>rfl) (keeps_fn kp) fun g₁ ws vs le hws=>CodeSnd.snd (cs c rfl g₁ f ws vs hf hws.rep))
inductive OneP(g:Gh)(w:W)(vs:List Value):Prop | mk (v:Value) (e:vs=[v]) (h:RepW g w v)
theorem spliced_one(hs:isStar e=false)(h:SX c g e a):Snd c g (spliced (backTo pos (starEach [e] c.env))) (fun {γ}=>(ck c.C (γ:=γ) a).1) OneP:=by
 rw[starEach_plain hs]
 exact⟨fun l o0 o0 X o0 o0 o0 q=>Calls.spliced_cons (wpAny_mono (h.h l X q) (fun v s' z=>match z with | .mk y g' st' le sim hv e=>Calls.spliced_nil (.mk y g' st' le sim ⟨v,rfl,hv⟩ e)) fun o0 o0 z=>z)⟩
theorem call_one{β:Type}{id:Str}{npos:Pos}{f:Value}{n:W→Km β}{m:Km β}{Q:Gh→β→Value→Prop}(hs:isStar e=false)(hx:SX c g e a)(q:∀{γ:Type} (κ:Kt β γ),m κ=(ck c.C a).1 fun x=>n x κ)(hf:∀a,f≠.ref a)(hn:Named c id f)
  (h:∀g₁ w v,Gh.Le g g₁→RepW g₁ w v→Snd c g₁ (call f [v]) (n w) Q):Snd c g (eval (.Call (.Name id npos) [e] [] pos) c.env) m Q:=
 call_name hn (cWs (first:=[]) (es:=[e]) (fun e' he=>List.mem_singleton.mp he▸hs) (spliced_one hs hx) q (keeps_machine hf) fun g₁ w vs l z=>match z with | .mk v hv hr=>hv▸h g₁ w v l hr)
structure BltOk(c:Cx)(id:Str)(f:Value):Prop where
 kind:c.env.kindOf id=some .globalImplicit
 dbg:(id==("__debug__" :Str))=false
 nm:id≠ "__name__"
 top:nsIn (TT.K c.w.params) mainGlobals id=some none
 val:bootBuiltins id=some f
theorem BltOk.named{id:Str}{f:Value}(b:BltOk c id f):Named c id f:=fun X hq=>builtinName X b.kind b.dbg b.nm b.top b.val hq
theorem top63{n:Nat}(h:n≤sizeLine):(n:Int) < 2 ^ 63:=by rw[sizeLine_eq']at h;lia
theorem len_sx{npos:Pos}(b:BltOk c "len" (.builtin "len"))(hs:isStar e=false)(hx:SX c g e a):SX c g (.Call (.Name "len" npos) [e] [] pos) (.len a):=
 call_one (f:=.builtin "len") hs hx (fun o0=>rfl) (fun o0 q=>nomatch q) b.named fun g₁ w v le hv=>Snd.last fun {o0} l {o0 o0} X {o0} e=>by
  obtain⟨z,q1,e⟩:=bGt e
  obtain⟨z',q2,rfl⟩:=map_get e
  have hr:=deref_HR X (hv.mono l) q1
  cases z with
  |str k=>
   obtain⟨y,t,rfl,rfl,hl,_⟩:=hr
   exact Option.some.inj q2▸P.len_str (Int.not_le.mpr (top63 hl)) (Lf.tokV X (y:=.int _) ⟨_,rfl⟩)
  |tup k=>
   obtain⟨a,vs,rfl,hl,r,hz⟩:=tup_of X.kb hr
   exact Option.some.inj q2▸PyProof.Rows.len_tuple hl (top63 (r.size▸hz)) (r.size▸Lf.tokV X (y:=.int _) ⟨_,rfl⟩)
  |list k=>
   obtain⟨a,vs,rfl,hl,r,hz⟩:=hr
   exact Option.some.inj q2▸Calls.call_len_list hl (top63 (r.size▸hz)) (r.size▸Lf.tokV X (y:=.int _) ⟨_,rfl⟩)
  |_=>cases q2
end
end
section
open PySem.SeqAt
variable{c c':Cx}{g g':Gh}{st st':St}{s s':Shared}{h h':Heap}{ad:Addr}{B:BH}{v u:Value}{x y r:V}{l:List V}
section
variable{pos p npos:Pos}{e e1 e2 e3:Expr}{a b d:X}{es:List Expr}{xs:List X}
theorem natOf_eq(l:List Nat):natOf l=NumText.digitsVal l:=by
 unfold natOf NumText.digitsVal
 congr 1
 funext a c
 lia
theorem allDigits_iff{l:List Nat}:l.all isDigit=true↔NumText.AllDigits l:=by
 unfold NumText.AllDigits isDigit
 simp only[List.all_eq_true,Bool.and_eq_true,decide_eq_true_eq]
theorem intOf_text{y:Str}{i:Int}(e:intOf y.cps.toList=some i):PySem.intText? y=some i∧y.length≤640:=by
 unfold intOf at e
 obtain⟨h6,e⟩:=ite_get e
 have h43:y.length≤4300:=ltr h6 (by decide)
 refine⟨?_,ltr h6 (by decide)⟩
 cases q:y.cps.toList with
 |nil=>rw[q]at e;exact aBn rfl e
 |cons k r=>
  rw[q]at e
  by_cases hc:k=45
  ·subst hc
   obtain⟨hr,e⟩:=ite_not ((if_pos rfl).symm.trans e)
   obtain⟨h1,h2⟩:=(Bool.or_eq_false_iff.mp (Bool.eq_false_iff.mpr hr))
   rw[←Option.some.inj e,natOf_eq]
   exact PySem.intText_neg q (allDigits_iff.mp (Bool.not_eq_false' .. ▸h2)) (fun z=>by subst z;cases h1) h43
  ·obtain⟨hd,e⟩:=ite_get ((if_neg hc).symm.trans e)
   rw[←Option.some.inj e,natOf_eq,←q]
   rw[←q]at hd
   exact PySem.intText_digits (allDigits_iff.mp hd) (by rw[q];exact fun z=>nomatch z) h43
theorem toInt_sx(bo:BltOk c "int" (.type "int"))(hs:isStar e=false)(hx:SX c g e a):SX c g (.Call (.Name "int" npos) [e] [] pos) (.toInt a):=
 call_one (f:=.type "int") hs hx (fun o0=>rfl) (fun o0 q=>nomatch q) bo.named fun g₁ w v le hv=>Snd.opt fun y e=>Snd.last fun {o0} l {o0 o0} X {o0} e2=>by
  have hr:=asV_rep e hv
  obtain⟨z,q2,rfl⟩:=map_get e2
  cases y with
  |int i=>obtain⟨t,rfl⟩:=hr;exact Option.some.inj q2▸call_int_int (.here X (show IntP i _ from⟨t,rfl⟩))
  |bool b=>cases (hr:v=.bool b);exact Option.some.inj q2▸call_int_bool (Lf.tokV X (y:=.int _) ⟨_,rfl⟩)
  |str k=>
   obtain⟨i,q3,rfl⟩:=map_get q2
   obtain⟨y,t,rfl,rfl,_,_⟩:=hr
   obtain⟨h1,h2⟩:=intOf_text q3
   exact KIN.call_text h1 h2 (Lf.tokV X (y:=.int i) ⟨_,rfl⟩)
  |_=>cases q2
theorem intTo_eq(i:Int):(Str.ofString (toString i)).cps.toList=intTo i:=by
 rw[signs_ofString]
 cases i with
 |ofNat m=>
  show List.map Char.toNat (Nat.repr m).toList=_
  rw[Nat.toList_repr]
  exact(if_neg (Int.not_lt.mpr (Int.natCast_nonneg m))).symm
 |negSucc m=>
  show List.map Char.toNat ("-" ++Nat.repr (m+1)).toList=_
  rw[String.toList_append,mpa,Nat.toList_repr]
  exact(if_pos (Int.negSucc_lt_zero m)).symm
theorem toStr_sx(bo:BltOk c "str" (.type "str"))(hs:isStar e=false)(hx:SX c g e a):SX c g (.Call (.Name "str" npos) [e] [] pos) (.toStr a):=
 call_one (f:=.type "str") hs hx (fun o0=>rfl) (fun o0 q=>nomatch q) bo.named fun g₁ w v le hv=>Snd.opt fun y e=>Snd.last fun {o0} l {o0 o0} X {o0} e2=>by
  obtain⟨z,q2,rfl⟩:=map_get e2
  obtain⟨i,q3,q2⟩:=bGt q2
  obtain⟨hb,q2⟩:=ite_get q2
  obtain⟨t,rfl⟩:=intR (asV_rep e hv) q3
  have hlog:i.natAbs.log2 < 1920:=by
   by_cases h0:i.natAbs=0
   ·rw[h0];decide
   ·exact(Nat.log2_lt h0).mpr (Nat.lt_trans hb (Nat.lt_of_lt_of_le (show(10:Nat) ^ 6 < 2 ^ 20 by decide) (Nat.pow_le_pow_right (n:=2) (i:=20) (by decide) (by decide))))
  rw[←Option.some.inj q2,←intTo_eq]
  refine P.str_of_int hlog (Lf.tokV X (str_rep (int_text_fits hlog) ?_))
  unfold PyData.strOk
  rw[←Array.all_toList,signs_ofString,List.all_map,List.all_eq_true]
  exact fun k o0=>decide_eq_true (k.valid.elim (fun h=>Nat.lt_trans h (by decide)) fun h=>h.2)
theorem abs_sx(bo:BltOk c "abs" (.builtin "abs"))(hs:isStar e=false)(hx:SX c g e a):SX c g (.Call (.Name "abs" npos) [e] [] pos) (.abs a):=
 call_one (f:=.builtin "abs") hs hx (fun o0=>rfl) (fun o0 q=>nomatch q) bo.named fun g₁ w v le hv=>Snd.opt fun i e=>Snd.val fun {o0} l {o0 o0} X=>
  let ⟨t,q⟩:=asInt_rep e hv;q▸call_abs_int fun u tk=>Lf.tokV X (y:=.int _) ⟨_,rfl⟩
theorem asList_rep{w:W}(e:asList w=some l)(q:RepW g w v):Rep g.B (.list l) v:=let ⟨_,e1,e2⟩:=bGt e;vL_some e2▸asV_rep e1 q
theorem sumV_ints{ls:List Int}(e:intsOf l=some ls){vs:List Value}(q:Reps B l vs):IntsAre vs ls:=
 (Reps.ind (p:=fun l vs=>∀ls,intsOf l=some ls→IntsAre vs ls) (fun ls e=>Option.some.inj e▸.nil) (fun x l v vs hx o0 ih ls e=>
  let ⟨i,e1,e⟩:=bGt e
  let ⟨r,e2,e3⟩:=map_get e
  match intR hx e1 with | .mk t q=>q▸e3▸.cons i t (ih r e2)) q) ls e
theorem sum_sx(bo:BltOk c "sum" (.builtin "sum"))(hs:isStar e=false)(hx:SX c g e a):SX c g (.Call (.Name "sum" npos) [e] [] pos) (.sum a):=
 call_one (f:=.builtin "sum") hs hx (fun o0=>rfl) (fun o0 q=>nomatch q) bo.named fun g₁ w v le hv=>Snd.opt fun k e=>Snd.last fun {o0} l {o0 o0} X {o0} e2=>by
  obtain⟨z,q2,rfl⟩:=map_get e2
  obtain⟨ns,q3,rfl⟩:=map_get q2
  obtain⟨a,vs,rfl,hl,hr,hz⟩:=list_of X.kb (Rep.mono l.1 (asList_rep e hv))
  have h1:=sumV_ints q3 hr
  obtain⟨xs,hxs⟩:=h1.allInts.items
  have hvs:vs=intItems xs:=by rw[←hxs]
  refine sum_intListG X.ok.handled (hvs▸hl) fun h' tk t' hk=>?_
  have:preSum (numAt xs) xs.size=ns.foldr (· + ·) 0:=by
   rw[preSum_eq,List.take_of_length_le (by simp),←nums_intItems,←hvs,h1.numsOf];rfl
  rw[this]
  exact .here (X.grow ⟨rfl,rfl⟩ hk) (show IntP _ _ from⟨_,rfl⟩)
theorem asL_rep(X:Sim c g st s){w:W}(e:asL st.mem w=some l)(q:RepW g w v):SeqH s.heap.IsList g.B l v:=let ⟨_,e1,e2⟩:=bGt e;listH (deref_HR X q e1) e2
theorem tuple_sx(bo:BltOk c "tuple" (.type "tuple"))(hs:isStar e=false)(hx:SX c g e a):SX c g (.Call (.Name "tuple" npos) [e] [] pos) (.tuple a):=
 call_one (f:=.type "tuple") hs hx (fun o0=>rfl) (fun o0 q=>nomatch q) bo.named fun g₁ w v le hv=>⟨fun l o0 s X o0 o0 o0 e=>
  let ⟨k,e1,e2⟩:=optK_get e
  match asL_rep X e1 (hv.mono l)with | .mk a vs q hl hr hz=>q▸call_tuple_list hl (fun h' hk=>match(X.grow (s':={s with heap:=h'}) ⟨rfl,rfl⟩ hk).newTuple (s':={s with heap:=h'.push {cls:=.type "tuple",data:=.seq vs}}) ⟨rfl,rfl⟩ rfl hr hz with | .mk g' le sim q=>.mk _ g' _ le sim q e2) (hr.size▸hz)⟩
end
end
section
set_option tactic.hygienic true
open PySem.SeqAt
variable{c c':Cx}{g g':Gh}{st st':St}{s s':Shared}{h h':Heap}{ad:Addr}{B:BH}{v u:Value}{x y r:V}{l:List V}
section
variable{pos p npos apos ipos:Pos}{e e1 e2 e3:Expr}{a b d:X}{es:List Expr}{xs:List X}
theorem isInt_sx(bo:BltOk c "isinstance" (.builtin "isinstance"))(bi:BltOk c "int" (.type "int"))(hs:isStar e=false)(hx:SX c g e a):SX c g (.Call (.Name "isinstance" npos) [e,.Name "int" ipos] [] pos) (.isInt a):=
 call_name bo.named (cWs (first:=[]) (Qs:=fun g w vs=>∃v,vs=[v,.type "int"]∧RepW g w v) (fun e' he=>(List.mem_cons.mp he).elim (fun q=>q▸hs) fun q=>List.mem_singleton.mp q▸rfl)
  (show Snd c g (spliced (backTo pos (starEach [e,.Name "int" ipos] c.env))) (fun {γ}=>(ck c.C (γ:=γ) a).1) (fun g w vs=>∃v,vs=[v,.type "int"]∧RepW g w v)from by rw[starEach_plain hs];exact⟨fun l o0 o0 X o0 o0 o0 q=>Calls.spliced_cons (wpAny_mono (hx.h l X q) (fun v s' z=>match z with | .mk y g' st' le sim hv e=>Calls.spliced_cons (bi.named sim (Calls.spliced_nil (.mk y g' st' le sim ⟨v,rfl,hv⟩ e)))) fun o0 o0 z=>z)⟩)
  (fun o0=>rfl) (keeps_machine fun o0 q=>nomatch q) fun g₁ w vs le ⟨v,q,hv⟩=>by
   subst q
   refine Snd.opt fun y e=>⟨fun l o0 s X o0 o0 o0 e2=>?_⟩
   obtain⟨b,q2,e3⟩:=optK_get e2
   have hr:=asV_rep e (hv.mono l)
   cases y with
   |int i=>obtain⟨t,rfl⟩:=hr;cases Option.some.inj q2;exact IsiPair.int_int (.mk (.v (.bool _)) _ _ (.refl _) X rfl e3)
   |tup k=>
    obtain⟨a,vs,rfl,⟨o,ho,hc,_⟩,_⟩:=tup_of X.kb hr
    cases Option.some.inj q2
    exact IsiPair.tuple_int ho hc (.mk (.v (.bool _)) _ _ (.refl _) (X.same ⟨rfl,rfl⟩ rfl) rfl e3)
   |_=>exact aBn rfl q2)
noncomputable def noSuper:Expr→Bool
 |.Call (.Name _ _) [] [] _=>false
 |_=>true
theorem base_plain{o:Expr}{attr:Str}{env:Env}{whole:Sem Value}(h:noSuper o=true):attributeBase o attr env whole=whole:=by
 cases o with
 |Call f args kws p=>
  cases f with
  |Name id q=>
   cases args with
   |nil=>cases kws with
    |nil=>cases h
    |cons _ _=>rfl
   |cons _ _=>rfl
  |_=>rfl
 |_=>rfl
theorem few_plain{env:Env}(hp:∀e∈es,isStar e=false)(hl:es.length < 29):((backTo pos (starEach es env)).all (fun x=>!x.1)&&(backToKw pos (keywordEach [] env)).all (fun x=>x.1.isSome)
   &&decide (es.length+([]:List Keyword).length+(if([]:List Keyword).isEmpty then 0 else 1) < 30))=true:=by
 have h1:(backTo pos (starEach es env)).all (fun x=>!x.1)=true:=by
  rw[List.all_eq_not_any_not]
  have:=plain_any (env:=env) (pos:=pos) hp
  simp only[Bool.not_not]at this ⊢
  rw[this];rfl
 rw[h1]
 exact decide_eq_true (Nat.lt_trans hl (by decide))
structure MethB{β:Type}(c:Cx)(g:Gh)(v:Value)(pos:Pos)(args:List (Bool×Sem Value))(name:Str)(m:Km β)(Q:Gh→β→Value→Prop):Prop where
 h:∀{g₁},Gh.Le g g₁→∀{st s},Sim c g₁ st s→∀{γ:Type} {k:Kt β γ} {r},m k st=some r→MethodOnS TT.prog c.w c.A (Bad c g₁ false r) name v pos args (Post c g₁ k r Q) s
theorem bmeth{β:Type}{o:Expr}{name:Str}{n:W→Km β}{m:Km β}{Q:Gh→β→Value→Prop}(hb:noSuper o=true)(hl:(apos.endLine==pos.line)=true)(hp:∀e∈es,isStar e=false)(hn:es.length < 29)(h1:SX c g o a)
  (q:∀{γ:Type} (κ:Kt β γ),m κ=(ck c.C a).1 fun w=>n w κ) (h:∀g₁ w v,Gh.Le g g₁→RepW g₁ w v→MethB c g₁ v pos (backTo pos (starEach es c.env)) name (n w) Q):Snd c g (eval (.Call (.Attribute o name apos) es [] pos) c.env) m Q:=⟨fun l o0 o0 X o0 o0 o0 e=>
 wpAny_Call_method_lateS (base_plain hb) (few_plain hp hn) hl (wpAny_mono (h1.h l X (q _▸e)) (fun v s' z=>by
  cases z with
  |mk w g' st' le sim hv e=>
   obtain⟨T',id,pa,slot,hty,hT,hd,hc⟩:=(h g' w v (l.trans le) hv).h (.refl _) sim e
   exact⟨T',id,pa,slot,hty,hT,hd,wpAny_mono hc (fun o0 o0=>Post.up le) fun o0 o0=>Bad.up le⟩) fun o0 o0 z=>z)⟩
inductive ListF(B:BH)(h:Heap)(l:List V)(v:Value):Prop
 |mk (a:Addr) (vs:Array Value) (k:Nat) (sl:Array (Option Value)) (e:v=.ref a) (get:h.get? a=some ⟨.type "list",none,.seq vs k,sl⟩) (r:Reps B l vs.toList) (len:l.length≤sizeLine)
theorem list_get(X:Sim c g st s){w:W}(q:RepW g w v)(e:asL st.mem w=some l):ListF g.B s.heap l v:=by
 obtain⟨y,e1,e2⟩:=bGt e
 cases vL_some e2
 cases w with
 |v z=>
  cases e1
  obtain⟨a,o,vs,k,rfl,hb,cls,dat,r,len,dict⟩:=q
  obtain⟨⟨_,_,_,sl⟩,e,e1,e2,e3⟩:=(X.kb a o hb).data fun ws z=>Data.noConfusion (dat.symm.trans z)
  cases e1.trans cls;cases e2.trans dict;cases e3.symm.trans dat
  exact .mk a vs k sl rfl e r len
 |l i=>
  obtain⟨l',hl,q2⟩:=map_get e1
  cases q2
  obtain⟨a,ha,rfl⟩:=q
  obtain⟨⟨_,_,_,sl⟩,vs,k,e,rfl,rfl,r,len,rfl⟩:=((X.at_ a).mem i _ ha (aoL_some hl) trivial).rep
  exact .mk a vs k sl rfl e r (tSz len)
 |o c i=>cases e1
theorem listMeth{β:Type}{o:Expr}{name:Str}{id:String}{n:W→Km β}{m:Km β}{Q:Gh→β→Value→Prop}(hb:noSuper o=true)(hl:(apos.endLine==pos.line)=true)(hp:∀e∈es,isStar e=false)(hn:es.length < 29)
  (slot:Slot "list" name id) (hty:typeOf (.builtin id)=pure (.type "method_descriptor")) (h1:SX c g o a) (q:∀{γ:Type} (κ:Kt β γ),m κ=(ck c.C a).1 fun w st=>oK (asL st.mem w) (fun o0=>n w κ) st)
  (h:∀g₁ w v,Gh.Le g g₁→RepW g₁ w v→Snd c g₁ (callWith pos (.builtin id) [v] (backTo pos (starEach es c.env)) []) (n w) Q):Snd c g (eval (.Call (.Attribute o name apos) es [] pos) c.env) m Q:=
 bmeth (n:=fun w o0 κ st=>oK (asL st.mem w) (fun o0=>n w κ) st) hb hl hp hn h1 q fun g₁ w v le hv=>⟨fun l o0 o0 X o0 o0 o0 e=>by
  obtain⟨k,e1,e2⟩:=optK_get e
  obtain⟨ad,vs,k,sl,rfl,e3,_⟩:=list_get X (hv.mono l) e1
  exact⟨"list",id,F.plainAttrs_list,slot,hty,⟨_,e3,rfl⟩,fun a' qa=>by cases qa;exact⟨_,e3,rfl⟩,(h g₁ w _ le hv).h l X e2⟩⟩
theorem list_push{ad:Addr}{vs:Array Value}{k:Nat}{sl:Array (Option Value)}{E Q:Value→Shared→Prop}(e1:s.heap.get? ad=some ⟨.type "list",none,.seq vs k,sl⟩)(hsz:vs.size≤sizeLine)
  (h:∀h' o' k',h'.get? ad=some o'→o'.cls=.type "list" →o'.dict=none→o'.data=.seq (vs.push u) k'→(∀b o,b≠ad→s.heap.get? b=some o→h'.get? b=some o)→Q .none {s with heap:=h'}):wpAny c.M c.A (call (.builtin "list.append") [.ref ad,u]) Q E s:=by
 obtain⟨k',hd'⟩:=Obj.data_mapSeq (o:=⟨.type "list",none,.seq vs k,sl⟩) rfl (·.push u)
 refine wpAny_call_entry slot_list_append ⟨_,e1,rfl⟩ entry_list_append ?_ (args_list_append _ _)
 show wpAny _ _ (updateSeq ad (·.push u) >>=fun o0=>ret .none) _ _ s
 exact wpAny_bind (wpAny_updateSeq e1 rfl (wpAny_pure ⟨.none,rfl,h _ _ k' (Heap.get?_update_self (Obj.mapSeq (·.push u)) e1 (Obj.isFreed_of_seq hd')) rfl rfl hd' update_ne⟩) hsz (by simp only[Array.size_push];lia))
theorem append_sx{o:Expr}(hb:noSuper o=true)(hl:(apos.endLine==pos.line)=true)(hs:isStar e=false)(h1:SX c g o a)(h2:SX c g e b):SX c g (.Call (.Attribute o "append" apos) [e] [] pos) (.append a b):=
 listMeth hb hl (fun e' he=>List.mem_singleton.mp he▸hs) (show 1 < 29 by decide) F.slot_list_append F.type_list_append h1 (fun o0=>rfl) fun g₁ w v le hv=>
  cWs (es:=[e]) (fun e' he=>List.mem_singleton.mp he▸hs) (spliced_one hs (h2.weaken le)) (fun o0=>rfl) (keeps_machine fun o0 q=>nomatch q) fun g₂ w' vs le' hvs=>match hvs with
   |.mk u hu hr=>hu▸Snd.opt fun y e=>⟨fun l o0 s X o0 o0 o0 e2=>by
    cases w with
    |l i=>
     obtain⟨r',e3,e4⟩:=bindR_get e2
     obtain⟨k,e5,e3⟩:=bGt e3
     obtain⟨hlt,e3⟩:=ite_get e3
     cases Option.some.inj e3
     obtain⟨ad,had,rfl⟩:=hv
     have had:=(le'.trans l).2 _ _ had
     have hm:=aoL_some e5
     obtain⟨⟨_,_,_,sl⟩,vs,k,e1,rfl,rfl,r,len,rfl⟩:=((X.at_ ad).mem i _ had hm trivial).rep
     refine list_push e1 (r.size▸tSz len) fun h' o' k' h1 h2 h3 h4 h5=>.mk (.v .none) _ _ (.refl _) (X.change (s':={s with heap:=h'}) (o':=.list (_++[y])) ⟨rfl,rfl⟩ had hm trivial h5 ?_) rfl e4
     exact .mk o' _ k' h1 h2 h4 (by rw[Array.toList_push];exact r.append (.one (Rep.mono l.1 (asV_rep e hr)))) (by rw[lap];exact hlt) h3
    |_=>cases e2⟩
end
end
section
open PySem.SeqAt
variable{c c':Cx}{g g':Gh}{st st':St}{s s':Shared}{h h':Heap}{ad:Addr}{B:BH}{v u:Value}{x y r:V}{l:List V}
section
variable{pos p npos apos ipos:Pos}{e e1 e2 e3:Expr}{a b d:X}{es:List Expr}{xs:List X}
inductive StrsP(vs:List Value)(ls:List (List Nat)):Prop | mk (ys:List Str) (are:StrsAre vs ys) (eq:ys.map (fun y=>y.cps.toList)=ls) (ok:∀y∈ys,PyData.strOk y=true)
theorem strs_of{ls:List (List Nat)}(e:strsOf l=some ls){vs:List Value}(q:Reps B l vs):StrsP vs ls:=
 (Reps.ind (p:=fun l vs=>∀ls,strsOf l=some ls→StrsP vs ls) (fun ls e=>.mk [] .nil (Option.some.inj e) nofun) (fun x l v vs hx o0 ih ls e=>
  let ⟨i,e1,e⟩:=bGt e
  let ⟨r,e2,e3⟩:=map_get e
  match(vS_some e1▸hx:Rep B (.str i) v),ih r e2 with
  |.mk y t q q2 _ ok,.mk ys are eq oks=>.mk (y::ys) (q▸.cons y t are) ((congr (congrArg List.cons q2) eq).trans e3) fun z hz=>(List.mem_cons.mp hz).elim (fun q=>q▸ok) (oks z)) q) ls e
theorem join_cps(q:Str)(ys:List Str):(Str.join q ys).cps.toList=joinS q.cps.toList (ys.map fun y=>y.cps.toList):=by
 cases ys with
 |nil=>rfl
 |cons y ys=>
  induction ys generalizing y with
  |nil=>exact(apn _).symm
  |cons z ys ih=>
   show((y++q)++Str.join q (z::ys)).cps.toList=_
   rw[Str.cps_append,Str.cps_append,Array.toList_append,Array.toList_append,ih]
   exact(asc ..).trans (congrArg (y.cps.toList++ ·) (asc ..).symm)
theorem joinS_len(p:List Nat)(ys:List Str):(ys.map (·.length)).sum+ys.length*p.length≤(joinS p (ys.map fun y=>y.cps.toList)).length+p.length:=by
 cases ys with
 |nil=>simp
 |cons y ys=>
  have:∀ys:List Str,((ys.map fun y=>y.cps.toList).flatMap (p++ ·)).length=(ys.map (·.length)).sum+ys.length*p.length:=fun ys=>by
   induction ys with
   |nil=>simp
   |cons z ys ih=>
    rw[List.map_cons,List.flatMap_cons,lap,lap,ih,List.map_cons,List.sum_cons,lcn,Nat.succ_mul]
    show p.length+z.length+_=_
    lia
  show _≤(y.cps.toList++(ys.map fun y=>y.cps.toList).flatMap (p++ ·)).length+p.length
  rw[lap,this,List.map_cons,List.sum_cons,lcn,Nat.succ_mul]
  show _≤y.length+_+p.length
  lia
theorem join_ok{q:Str}{ys:List Str}(hq:PyData.strOk q=true)(hs:∀y∈ys,PyData.strOk y=true):∀k∈joinS q.cps.toList (ys.map fun y=>y.cps.toList),k < 0x110000:=by
 have one:∀{y:Str},PyData.strOk y=true→∀k∈y.cps.toList,k < 0x110000:=fun {y} h k hk=>by
  unfold PyData.strOk at h
  rw[←Array.all_toList,List.all_eq_true]at h
  exact of_decide_eq_true (h k hk)
 cases ys with
 |nil=>exact fun k hk=>nomatch hk
 |cons y ys=>
  intro k hk
  rcases List.mem_append.mp hk with hk | hk
  ·exact one (hs y (.head _)) k hk
  ·obtain⟨z,hz,hk⟩:=List.mem_flatMap.mp hk
   obtain⟨w,hw,rfl⟩:=List.mem_map.mp hz
   rcases List.mem_append.mp hk with hk | hk
   ·exact one hq k hk
   ·exact one (hs w (.tail _ hw)) k hk
theorem join_leaf{p:List Nat}{w:W}(hv:StrP p v)(hu:Rep g.B (.list l) u):Snd c g (call (.builtin "str.join") [v,u]) (fun κ=>oK (joinO p l) κ) RepW:=Snd.last fun {o0} l {o0 o0} X {o0} e=>by
 obtain⟨r',q,e⟩:=bGt e
 obtain⟨hb,e⟩:=ite_get e
 obtain⟨ls,q1,rfl⟩:=map_get q
 obtain⟨y,t,rfl,rfl,hy,ok⟩:=hv
 obtain⟨a,vs,rfl,hl,hr,hz⟩:=list_of X.kb (Rep.mono l.1 hu)
 obtain⟨ys,h1,rfl,h2⟩:=strs_of q1 hr
 have hlen:=joinS_len y.cps.toList ys
 have hp:y.length≤64:=hb.2
 have ht:=hb.1
 rw[top_eq]at ht
 rw[←Option.some.inj e]
 have ec:(Txt.join y ys).cps.toList=joinS y.cps.toList (ys.map fun y=>y.cps.toList):=by
  unfold Txt.join
  rw[StrLaws.glued_eq_join];exact join_cps y ys
 refine join_list hl h1 (ltr hlen (by show _+y.length≤_;lia)) fun t' k=>Lf.tokV X ?_
 rw[←ec]
 refine str_rep ?_ ?_
 ·exact ltr (Nat.le_of_eq (congrArg List.length ec)) (tSz hb.1)
 ·unfold PyData.strOk
  rw[←Array.all_toList,List.all_eq_true,ec]
  exact fun k hk=>decide_eq_true (join_ok ok h2 k hk)
theorem asStr_rep{w:W}{p:List Nat}(e:asStr w=some p)(q:RepW g w v):StrP p v:=let ⟨_,e1,e2⟩:=bGt e;(vS_some e2▸asV_rep e1 q:Rep g.B (.str p) v)
theorem join_sx{o:Expr}(hb:noSuper o=true)(hl:(apos.endLine==pos.line)=true)(hs:isStar e=false)(h1:SX c g o a)(h2:SX c g e b):SX c g (.Call (.Attribute o "join" apos) [e] [] pos) (.join a b):=
 bmeth hb hl (fun e' he=>List.mem_singleton.mp he▸hs) (show 1 < 29 by decide) h1 (fun o0=>rfl) fun g₁ w v le hv=>⟨fun l o0 s X o0 o0 o0 e=>by
  obtain⟨p,e1,e2⟩:=optK_get e
  have hp:=asStr_rep e1 hv
  obtain⟨y,t,rfl,_⟩:=id hp
  refine⟨"str", "str.join",F.plainAttrs_str,F.slot_str_join,F.type_str_join,typeIs_str _ _ _,fun a' qa=>(by cases qa),?_⟩
  exact(cWs (f:=.builtin "str.join") (es:=[_]) (first:=[.str y t]) (m:=fun κ=>(ck c.C b).1 fun w=>oK (asList w) fun l=>oK (joinO p l) κ) (Q:=RepW) (fun e' he=>List.mem_singleton.mp he▸hs) (spliced_one hs (h2.weaken le)) (fun o0=>rfl) (keeps_machine fun o0 q=>nomatch q) fun g₂ w' vs le' hvs=>match hvs with
   |.mk u hu hr=>hu▸Snd.opt fun k e3=>join_leaf (w:=w) hp (asList_rep e3 hr)).h l X e2⟩
end
end
section
open PySem.SeqAt PySem.MeetsSeq
variable{c c':Cx}{g g':Gh}{st st':St}{s s':Shared}{h h':Heap}{ad:Addr}{B:BH}{v u:Value}{x y r:V}{l:List V}
theorem list_indexFrom(l:Addr)(items:Array Value)(n:Nat)(dd:Option Addr)(sl:Array (Option Value))(x:Value)(e:Value→Bool)(a:Nat)(t:Tok)(j:Nat)(hj:j < items.size)(haj:a≤j)(hsmall:(j:Int) < 2 ^ 63 - 1)
  (hit:e items[j]=true) (hno:∀m (hm:m < items.size),a≤m→m < j→e items[m]=false):
  Meets (Builtin.«list.index» ⟨[.ref l,x,.int (a:Int) t],[]⟩)
   (fun A R s=>s.heap.get? l=some {cls:=.type "list",dict:=dd,data:=.seq items n,slots:=sl}∧(∀y,y∈items→EqAt A.in1 s y x (e y))∧R (.ok (.ret (.int j s.toks))) {s with toks:=s.toks+1}):=by
 intro prog w A R s h
 obtain⟨hp,g,d,tk,os⟩:=s;obtain⟨hl,he,h⟩:=h
 have a0:¬((a:Int) < 0):=by lia
 wp_walk using wpAny_loadPart' hl,wpAny_specialOf (T:= "int") (typeIs_int _ _ t) int_index
 have a1:((fun i:Int=>if i < 0 then max 0 (i+(items.size:Int))else i) ((some (a:Int)).getD 0))=((a:Nat):Int):=by simp[a0]
 have a2:((fun i:Int=>if i < 0 then max 0 (i+(items.size:Int))else i) ((none:Option Int).getD (2 ^ 63 - 1)))=2 ^ 63 - 1:=by simp
 rw[a1,a2]
 exact⟨plainId_quiet plain_index_loop _,codeAny_builtin entry_index_loop (by
  rw[Around.under_plainId plain_index_loop _]
  exact index_loopAt l items n dd sl x e (2 ^ 63 - 1) j hj hsmall hit _ a rfl haj hno prog w A R _ ⟨hl,he,h⟩)⟩
section
variable{pos p npos apos ipos:Pos}{e e1 e2 e3:Expr}{a b d:X}{es:List Expr}{xs:List X}
structure FindP(l:List V)(x:V)(k:Nat):Prop where
 px:plain dep x=true
 pl:l.all (plain dep)=true
 lt:k < l.length
 hit:∀y,l[k]?=some y→eqS y x=true
 no:∀(m:Nat) y,m < k→l[m]?=some y→eqS y x=false
theorem find_of{k:Nat}(e:findEq x l=some (some k)):FindP l x k:=by
 unfold findEq at e
 cases hp:plain dep x&&l.all (plain dep)with
 |false=>rw[hp]at e;cases e
 |true=>
  rw[hp]at e
  obtain⟨h1,h2⟩:=Bool.and_eq_true_iff.mp hp
  obtain⟨hk,h3,h4⟩:=List.findIdx?_eq_some_iff_getElem.mp (Option.some.inj e)
  refine⟨h1,h2,hk,fun y q=>?_,fun m y hm q=>?_⟩
  ·rw[gqe hk]at q;exact Option.some.inj q▸h3
  ·rw[gqe (Nat.lt_trans hm hk)]at q;exact Option.some.inj q▸Bool.eq_false_iff.mpr (h4 m hm)
inductive SrchP(c:Cx)(s:Shared)(l:List V)(x:V)(vs:Array Value)(u:Value):Prop
 |mk (f:Value→Bool) (eq:∀y,y∈vs→EqAt c.A.in1 s y u (f y)) (at_:∀(m:Nat) (hm:m < vs.size) y,l[m]?=some y→f vs[m]=eqS y x)
theorem srch(X:Sim c g st s){vs:Array Value}(q:Reps g.B l vs.toList)(hx:plain dep x=true)(hl:l.all (plain dep)=true)(hu:Rep g.B x u):SrchP c s l x vs u:=by
 obtain⟨bs,r2,l2,d2⟩:=plain_reads X.kb dep hx (.of X.kb hu)
 obtain⟨as,r1,l1,d1⟩:=readsL (h:=s.heap) (fun x v e r=>plain_reads X.kb dep e (.of X.kb r)) hl q
 have hu:c.A.units+1+21≤c.A.units+30:=(Nat.add_assoc c.A.units 1 21).symm▸Nat.add_le_add_left (by decide:1+21≤30) _
 refine .mk (fun y=>PyData.eqv (readOf s.heap y) (toD x)) (items_eqAt r1 r2 l1 l2 (Nat.lt_of_le_of_lt (Nat.add_le_add_left (ltr (Nat.min_le_left _ _) d1) _) (Nat.lt_of_le_of_lt hu X.room))) fun m hm y hy=>?_
 obtain⟨v,h3,h4⟩:=q.get hy
 have hpy:=List.all_eq_true.mp hl y (List.mem_of_getElem? hy)
 obtain⟨cs,r3,l3,_⟩:=plain_reads X.kb dep hpy (.of X.kb h4)
 have hv:vs[m]=v:=Option.some.inj ((Array.getElem?_eq_getElem hm).symm.trans ((Array.getElem?_toList ..).symm.trans h3))
 show PyData.eqv (readOf s.heap vs[m]) (toD x)=_
 rw[hv,readOf_eq l3 r3];exact plain_eqv dep hpy hx
theorem index_leaf{w:W}{ws:List W}{vs:List Value}(hv:RepW g w v)(hvs:RepsW g ws vs):Snd c g (call (.builtin "list.index") (v::vs)) (fun κ st=>bR (indexM w ws st) κ) RepW:=⟨fun l₁ o0 s X o0 o0 o0 e=>by
 obtain⟨r',e1,e2⟩:=bindR_get e
 replace e1:retO (indexO _ w ws) _=some r':=e1
 obtain⟨wv,e3,e4⟩:∃wv,indexO _ w ws=some wv∧some (.ok wv,_)=some r':=optK_get (k:=retK) e1
 cases e4
 obtain⟨l,q1,e3⟩:=bGt e3
 obtain⟨ad,us,k,sl,rfl,e5,r,hlen⟩:=list_get X (hv.mono l₁) q1
 have hvs:=RepsW.mono l₁ hvs
 cases hvs with
 |nil=>cases e3
 |@cons w1 v1 ws vs hw1 hr=>
  obtain⟨y,q2,e3⟩:=bGt e3
  have hy:=asV_rep q2 hw1
  cases hr with
  |nil=>
   obtain⟨o,q3,e3⟩:=bGt e3
   obtain⟨j,rfl,rfl⟩:=map_get e3
   have F:=find_of q3
   obtain⟨f,heq,hat⟩:=srch X r F.px F.pl hy
   have hj:j < us.size:=r.size▸F.lt
   have hj63:(j:Int) < 2 ^ 63 - 1:=by have:=F.lt;rw[sizeLine_eq']at hlen;lia
   have hg:∀m (hm:m < us.size),∃z,l[m]?=some z:=fun m hm=>⟨_,gqe (r.size▸hm)⟩
   refine call_meets PySem.F.slot_list_index ⟨_,e5,rfl⟩ PySem.F.entry_list_index (PySem.F.args_list_index_2 _ _)
    (list_indexAt ad us k none sl v1 f j hj hj63 ?_ fun m hm q=>?_) ⟨e5,heq,.mk (numW j 0) _ _ (.refl _) (X.same ⟨rfl,rfl⟩ rfl) (show IntP (j+0) (.int j _)from(Int.add_zero _).symm▸⟨_,rfl⟩) e2⟩
   ·obtain⟨z,hz⟩:=hg j hj;exact(hat j hj z hz).trans (F.hit z hz)
   ·obtain⟨z,hz⟩:=hg m hm;exact(hat m hm z hz).trans (F.no m z q hz)
  |@cons w2 v2 ws vs hw2 hr2=>
   cases hr2 with
   |cons _ _=>cases e3
   |nil=>
    obtain⟨ai,q3,e3⟩:=bGt e3
    obtain⟨⟨h0,h1⟩,e3⟩:=ite_get e3
    obtain⟨o1,q4,e3⟩:=bGt e3
    obtain⟨o,q5,e3⟩:=bGt e3
    obtain⟨j,rfl,rfl⟩:=map_get e3
    obtain⟨t,rfl⟩:=asInt_rep q3 hw2
    obtain⟨a,rfl⟩:=Int.eq_ofNat_of_zero_le h0
    have F:=find_of q5
    have hpl:l.all (plain dep)=true:=by
     unfold findEq at q4
     cases hp:plain dep y&&l.all (plain dep)with
     |false=>rw[hp]at q4;cases q4
     |true=>exact(Bool.and_eq_true_iff.mp hp).2
    obtain⟨f,heq,hat⟩:=srch X r F.px hpl hy
    have hlt:=F.lt
    rw[List.length_drop]at hlt
    have hj:a+j < us.size:=by rw[r.size];lia
    have hj63:((a+j:Nat):Int) < 2 ^ 63 - 1:=by rw[sizeLine_eq']at hlen;lia
    have hg:∀m (hm:m < us.size),∃z,l[m]?=some z:=fun m hm=>⟨_,gqe (r.size▸hm)⟩
    refine call_meets PySem.F.slot_list_index ⟨_,e5,rfl⟩ PySem.F.entry_list_index (PySem.F.args_list_index_3 _ _ _)
     (list_indexFrom ad us k none sl v1 f a t (a+j) hj (Nat.le_add_right ..) hj63 ?_ fun m hm q q'=>?_) ⟨e5,heq,.mk (numW j a) _ _ (.refl _) (X.same ⟨rfl,rfl⟩ rfl) (show IntP (j+a) (.int ((a+j:Nat):Int) _)from(Int.add_comm _ _:(j:Int)+a=a+j)▸⟨_,rfl⟩) e2⟩
    ·obtain⟨z,hz⟩:=hg _ hj;exact(hat _ hj z hz).trans (F.hit z (List.getElem?_drop.trans hz))
    ·obtain⟨z,hz⟩:=hg m hm
     refine(hat m hm z hz).trans (F.no (m - a) z (by lia) (List.getElem?_drop.trans ?_))
     rw[Int.toNat_natCast,Nat.add_sub_cancel' q];exact hz⟩
theorem index_sx{o:Expr}(hb:noSuper o=true)(hl:(apos.endLine==pos.line)=true)(hn:es.length < 29)(h1:SX c g o a)(hs:SXs c g es xs):SX c g (.Call (.Attribute o "index" apos) es [] pos) (.index a xs):=
 listMeth hb hl hs.plain hn F.slot_list_index F.type_list_index h1 (fun o0=>rfl) fun g₁ w v le hv=>
  cWs hs.plain (spliced_sx hs le) (fun o0=>rfl) (keeps_machine fun o0 q=>nomatch q) fun g₂ ws vs le' hvs=>index_leaf (hv.mono le') hvs.rep
end
end
section
open PySem.SeqAt
set_option maxRecDepth 100000 in
theorem exc_ga:Slot "Exception" "__getattribute__" "BaseException.__getattribute__" :=.of (owner:= "BaseException") (n:= "__getattribute__") (by rw[typeLookup_type,builtinLookup_eq_fast];kernel_rfl) (by decide+kernel) (by decide+kernel) (by decide+kernel)
 (by first | exact .inl (by decide+kernel) | exact .inr (by decide+kernel)) (by rw[isSubtype_type];kernel_rfl)
theorem entry_exc_ga:entryFor table "BaseException.__getattribute__" =some Builtin.«object.__getattribute__»:=
 entryFor_alias (id':= "object.__getattribute__") (by kernel_rfl) (by first | rfl | decide+kernel) (by decide+kernel) (by kernel_rfl)
theorem exc_ga_kind:builtinKind "BaseException.__getattribute__" =some .slot:=by decide+kernel
theorem exc_ga_split:splitId "BaseException.__getattribute__" =some ("BaseException", "__getattribute__"):=by decide+kernel
theorem exc_ga_args(a b:Value):argsOk "BaseException.__getattribute__" ⟨[a,b],[]⟩:=by unfold argsOk;kernel_rfl
section
variable{prog:Program}{w:World}{A:Around}{E:Value→Shared→Prop}{s:Shared}{K:Frag}{x C:Addr}{ox:Obj}{od:Option Obj}{name:Str}{expr:Bool}{Q:Value→Shared→Prop}
theorem get_value_exc{v:Value}(X:K.In s.heap)(I:InstAt s.heap x ox C od)(hga:findIn K (.ref C) "__getattribute__" =some (some (.builtin "BaseException.__getattribute__")))(hk:findIn K (.ref C) "__getattr__" =some none)
  (hsub:mroIn K C (.type "BaseException")=some true) (hf:findObj K C od name=some (.value v)) (hh:handedIn v=true) (h:Q v {s with toks:=s.toks+1}):wpAny (model prog w) A (getAttr (.ref x) name expr) Q E s:=by
 obtain⟨hh',g,d,t,os⟩:=s
 have L0:=I.type (M:=model prog w)
 have L1:=looks_findIn (M:=model prog w) X hga
 have L2:=looks_find (M:=model prog w) X I hf
 unfold getAttr getAttrBy
 refine wpAny_bind (wpAny_mkText (wpAny_holding (wpAny_bind (L0.at (wpAny_bind (L1.at ?_))))))
 show wpAny _ _ (getAttrByItsOwn (.ref x) (.str name t) (.ref C) (.builtin "BaseException.__getattribute__") true expr) _ _ _
 unfold getAttrByItsOwn callGetattribute boundAndCalled
 refine wpAny_bind ((looks_hook X (mc:=.ref C) (r:=none) hk).at ?_)
 have he:(expr&&onTheHeap (.builtin "BaseException.__getattribute__"))=false:=by cases expr<;>rfl
 refine wpAny_bind (wpAny_attempt (wpAny_holding ?_))
 rw[he]
 simp only[Bool.false_eq_true,if_false]
 refine wpAny_bind (wpAny_of_eq (exc_ga.bind _) ?_)
 have sub:Looks (model prog w) hh' (isInstance (.ref x) (.type "BaseException")) true:=L0.andThen (looks_mroIn X hsub)
 refine wpAny_call (codeAny_call_builtin exc_ga.plain entry_exc_ga (@check_slot (model prog w) _ _ ⟨hh',g,d,t+1,os⟩ "BaseException.__getattribute__" "BaseException" "__getattribute__" (.ref x) [.str name t] [] _ exc_ga_kind exc_ga_split sub (exc_ga_args (.ref x) (.str name t)) ?_))
 refine wpAny_bind (wpAny_pure (wpAny_bind (wpAny_pure (wpAny_bind (L0.at (wpAny_bind (L2.at ?_)))))))
 refine wpAny_pure ?_
 show wpAny _ _ (handedOut v) _ _ _
 rw[handedOut_of hh];exact wpAny_pure h
end
variable{c c':Cx}{g g':Gh}{st st':St}{s s':Shared}{h h':Heap}{ad:Addr}{B:BH}{v u:Value}{x y r:V}{l:List V}
structure ClsOk(K:Frag)(k:Nat)(d:ClsDef):Prop where
 dict:hasDictIn K (TT.cls k)=true
 get:plainGet K (TT.cls k) "" =true
 fld:∀f∈d.fields,∃attr,findIn K (.ref (TT.cls k)) (TT.fld f)=some attr∧noGet K attr=true
 meth:∀m f,d.meths.lookup m=some f→findIn K (.ref (TT.cls k)) (TT.mth m)=some (some (.ref (TT.fn f)))∧isFn K (.ref (TT.fn f))=true∧keepIn K (.ref (TT.fn f))=true∧TT.mth m∉names k∧∃d,fns[f]?=some d
 nod:(names k).Nodup
 len:(names k).length≤100
 set:findIn K (.ref (TT.cls k)) "__setattr__" =some (some (.builtin "object.__setattr__"))
 over:plainOver K (TT.cls k)=true
 taker:∀f∈d.fields,takerIn K (TT.cls k) (TT.fld f)=some none
 makes:makesIn K (TT.cls k)=true
 init:findIn K (.ref (TT.cls k)) "__init__" =some (some (.ref (TT.fn d.init)))∧typeIn K (.ref (TT.fn d.init))=some (.type "function")∧∃d',fns[d.init]?=some d'
 keep:keepIn K (.ref (TT.cls k))=true
structure ExcOk(K:Frag):Prop where
 mroT:mroIn K TT.exc (.type "type")=some false
 mroB:mroIn K TT.exc (.type "BaseException")=some true
 typ:typeIn K (.ref TT.exc)=some (.type "type")
 keep:keepIn K (.ref TT.exc)=true
 dict:hasDictIn K TT.exc=true
 get:findIn K (.ref TT.exc) "__getattribute__" =some (some (.builtin "BaseException.__getattribute__"))
 geta:findIn K (.ref TT.exc) "__getattr__" =some none
 fld:∃attr,findIn K (.ref TT.exc) (TT.fld 0)=some attr∧noGet K attr=true
noncomputable def ClssOk(K:Frag):Prop:=∀k d,clss[k]?=some d→ClsOk K k d
theorem Sim.K(X:Sim c g st s):(TT.K c.w.params).In s.heap:=X.ok.bas.K.keeps fun a o q=>((X.at_ a).base o q).2
theorem names_eq{k:Nat}{d:ClsDef}(e:clss[k]?=some d):names k=d.fields.map TT.fld:=congrArg (fun o=>(Option.elim o [] ClsDef.fields).map TT.fld) e
theorem lookIn_find{es:Array DictEntry}{m:Nat}{o:Obj}(hd:o.data=.dict es m)(hk:StrKeys es){y:Str}:lookIn y o=some (nsFind es y):=by
 unfold lookIn
 rw[hd]
 simp only
 have hr:es.toList.any (·.refKey)=false:=by
  rw[Array.any_toList,Array.any_eq_false]
  intro i hi
  obtain⟨a,b,e⟩:=hk es[i] (Array.getElem_mem hi)
  simp[DictEntry.refKey,e]
 unfold nsFind findBy
 rw[←Array.find?_toList]
 cases h:es.toList.find? (·.key.isStr y)with
 |some e=>rfl
 |none=>simp[hr]
theorem fmap_get{ns:List Str}{ws:List (Option Value)}{j:Nat}{n:Str}(d:ns.Nodup)(e:ns[j]?=some n)(hl:ws.length=ns.length):fmap ns ws n=(ws[j]?).join:=by
 have:=lk_zip (vs:=ws) d e
 rw[hl,List.take_length]at this
 exact congrArg Option.join this
theorem fmap_out{ns:List Str}{ws:List (Option Value)}{n:Str}(h:n∉ns):fmap ns ws n=none:=congrArg Option.join (lk_out fun q=>h (by
 obtain⟨p,hp,rfl⟩:=List.mem_map.mp q
 exact(List.of_mem_zip hp).1))
theorem Rep.handed(q:Rep B x v):handedIn v=true:=by
 cases x with
 |none=>cases (q:v=.none);rfl
 |bool b=>cases (q:v=.bool b);rfl
 |int i=>obtain⟨t,rfl⟩:=q;rfl
 |str k=>obtain⟨_,t,rfl⟩:=q;rfl
 |tup k=>obtain⟨a,o,vs,n,rfl⟩:=q;rfl
 |list k=>obtain⟨a,o,vs,n,rfl⟩:=q;rfl
 |inst k w=>obtain⟨a,_,_,_,_,rfl⟩:=q;rfl
 |exc a=>obtain⟨a,_,_,_,_,_,rfl⟩:=q;rfl
theorem RepW.handed{x:W}(q:RepW g x v):handedIn v=true:=by
 cases x with
 |v y=>exact Rep.handed q
 |l i=>obtain⟨a,_,rfl⟩:=q;rfl
 |o k i=>obtain⟨a,y,o,_,rfl⟩:=q;rfl
inductive ObjP(h:Heap)(C:Addr)(v:Value)(m:Str→Option Value):Prop
 |mk (y:Addr) (o od:Obj) (e:v=.ref y) (at_:W.InstAt h y o C (some od)) (find:∀z,lookIn z od=some (m z))
theorem notCls_plain{o:Obj}(e:o.data=.plain):notCls o=true:=by unfold notCls;rw[e]
theorem ns_at(kb:KB B h){y d:Addr}{o o':Obj}{es:Array DictEntry}{C:Addr}(ns:NsP B y o d es)(e:h.get? y=some o')(cls:o'.cls=.ref C)(di:o'.dict=o.dict)(no:notCls o'=true):ObjP h C (.ref y) (nsFind es):=by
 obtain⟨od,n,e1,e2,e3,e4,e5,e6⟩:=ns
 obtain⟨od',i1,_,_,i4⟩:=(kb d od e3).data fun ws q=>Data.noConfusion (e4.symm.trans q)
 exact .mk y o' od' rfl ⟨e,cls,no,by rw[di,e1];exact i1⟩ fun z=>lookIn_find (i4.symm.trans e4) e5
theorem inst_obj(kb:KB B h){k n:Nat}{R:List Value→Prop}:InstP B k R n v→∃vs,R vs∧n=(names k).length∧ObjP h (TT.cls k) v (fmap (names k) (vs.map some))
 |.mk y d o es vs e hb cls dat ns reps len at_=>by
  obtain⟨o',f1,f2,f3,f4⟩:=(kb y o hb).data fun ws q=>Data.noConfusion (dat.symm.trans q)
  obtain⟨y',o2,od,e1,e2,e3⟩:=ns_at kb ns f1 (f2.trans cls) f3 (notCls_plain (f4.symm.trans dat))
  exact⟨vs,reps,len,.mk y' o2 od (e.trans e1) e2 fun z=>(e3 z).trans (congrArg some (at_ z))⟩
theorem opn_obj(X:Sim c g st s){k i:Nat}{fs:List (Option W)}(q:OpnP g k i v)(hm:st.mem[i]?=some (.obj k fs)):∃ws,RepsO g fs ws∧fs.length=(names k).length∧ObjP s.heap (TT.cls k) v (fmap (names k) ws):=by
 refine hide fun P9 r9=>?_
 obtain⟨a,y,o,hφ,e,hb,cls,dict,dat,ne⟩:=q
 obtain⟨o',f1,f2,f3,f4⟩:=(X.kb y o hb).data fun ws q=>Data.noConfusion (dat.symm.trans q)
 obtain⟨ws,⟨od,es,ep,i1,i2,i3,i4,i5⟩,j1,j2,j3⟩:=((X.at_ a).mem i _ hφ hm trivial).rep
 refine r9 ?_
 exact⟨ws,j1,j2,.mk y o' od e ⟨f1,f2.trans cls,notCls_plain (f4.symm.trans dat),by rw[f3,dict];exact i1⟩ fun z=>(lookIn_find i2 i3).trans (congrArg some (i5 z))⟩
theorem idxOf_get{α:Type}[DecidableEq α]{l:List α}{a:α}{k:Nat}(e:l.idxOf? a=some k):l[k]?=some a:=by
 obtain⟨hk,h1,_⟩:=List.findIdx?_eq_some_iff_getElem.mp e
 exact(gqe hk).trans (congrArg some (eq_of_beq h1))
inductive FldP(k f j:Nat):Prop | mk (d:ClsDef) (cls:clss[k]?=some d) (at_:(names k)[j]?=some (TT.fld f)) (mem:f∈d.fields)
theorem fld_of{k f j:Nat}(e:fieldIx prog k f=some j):FldP k f j:=
 let ⟨d,e1,e2⟩:=bGt e
 have e3:=idxOf_get e2
 .mk d e1 ((congrArg (fun l=>l[j]?) (names_eq e1)).trans ((List.getElem?_map ..).trans (congrArg (Option.map TT.fld) e3))) (List.mem_of_getElem? e3)
section
variable{E:Value→Shared→Prop}{Q:Value→Shared→Prop}(X:Sim c g st s)(ck:ClssOk (TT.K c.w.params))
include X ck
theorem obj_get{k f j:Nat}{m:Str→Option Value}{expr:Bool}(F:FldP k f j)(q:ObjP s.heap (TT.cls k) v m)(hu:m (TT.fld f)=some u)(hh:handedIn u=true)(hQ:Q u {s with toks:=s.toks+1}):wpAny c.M c.A (getAttr v (TT.fld f) expr) Q E s:=by
 obtain⟨d,h1,_,hf⟩:=F
 obtain⟨attr,hA,hB⟩:=(ck k d h1).fld f hf
 obtain⟨y,o,od,rfl,I,fd⟩:=q
 exact get_value X.K I (plainGet_of (ck k d h1).get).1 (findObj_own (ck k d h1).dict hA hB ((fd _).trans (congrArg some hu))) hh hQ
theorem obj_meth{k mm f:Nat}{d:ClsDef}{m:Str→Option Value}{pl:Sem Bool}{Q:Value×List Value→Shared→Prop}(hd:clss[k]?=some d)(hm:d.meths.lookup mm=some f)(q:ObjP s.heap (TT.cls k) v m)(ho:m (TT.mth mm)=none)(hQ:Q (.ref (TT.fn f),[v]) s):
  wpAny c.M c.A (getMethod v (TT.mth mm) pl) Q E s:=by
 obtain⟨m1,m2,_⟩:=(ck k d hd).meth mm f hm
 obtain⟨y,o,od,rfl,I,fd⟩:=q
 exact method_fn X.K I (plainGet_of (ck k d hd).get).1 (plainGet_of (ck k d hd).get).2 m1 (beq_iff_eq.mp m2) (by unfold shadowIn;simp only;rw[fd,ho];rfl) hQ
end
section
variable{pos p npos apos:Pos}{e e1 e2 e3:Expr}{a b d:X}{es:List Expr}{xs:List X}
theorem join_some{α:Type}{o:Option (Option α)}{x:α}(e:o.join=some x):o=some (some x):=join_get e
theorem exc_attr(ek:ExcOk (TT.K c.w.params))(X:Sim c g st s)(hv:Rep g.B (.exc y) v){A:Around}{expr:Bool}{E Q:Value→Shared→Prop}(hQ:∀u,Rep g.B y u→Q u {s with toks:=s.toks+1}):wpAny c.M A (getAttr v (TT.fld 0) expr) Q E s:=by
 obtain⟨a,d,o,es,u,vs,rfl,hb,cls,dat,size,new,ns,at_,rep⟩:=hv
 obtain⟨o',f1,f2,f3,f4⟩:=X.kb a o hb
 have no:notCls o'=true:=by
  unfold notCls
  rcases f4 with f4 | ⟨_,vs',_,f4,_⟩
  ·rw[←f4,dat]
  ·rw[f4]
 obtain⟨y',o2,od,h1,I,fd⟩:=ns_at X.kb ns f1 (f2.trans cls) f3 no
 obtain⟨attr,hA,hB⟩:=ek.fld
 cases h1
 exact get_value_exc X.K I ek.get ek.geta ek.mroB (findObj_own ek.dict hA hB ((fd _).trans (congrArg some at_))) (Rep.handed rep) (hQ u rep)
theorem attr_leaf(ck:ClssOk (TT.K c.w.params))(ek:ExcOk (TT.K c.w.params)){w:W}{f:Nat}{expr:Bool}(hv:RepW g w v):Snd c g (getAttr v (TT.fld f) expr) (fun κ st=>oK (getF prog st.mem w f) κ st) RepW:=Snd.last fun {o0} l {o0 s} X {w'} q=>by
 have hv:=hv.mono l
 cases w with
 |v y=>
  cases y with
  |inst k ls=>
   obtain⟨j,e1,q⟩:=bGt q
   obtain⟨y,e2,rfl⟩:=map_get q
   obtain⟨vs,r,len,ob⟩:=inst_obj X.kb hv
   have F:=fld_of e1
   have r:Reps _ ls vs:=r
   obtain⟨u,hu1,hu2⟩:=Reps.get r e2
   refine obj_get X ck F ob (u:=u) ?_ hu2.handed (Lf.tokV X hu2)
   obtain⟨d,h1,h2,_⟩:=F
   rw[fmap_get (ck k d h1).nod h2 (by rw[lmp,r.length,len]),List.getElem?_map,hu1];rfl
  |exc y=>
   obtain⟨hf,q⟩:=ite_get q
   subst hf
   cases Option.some.inj q
   exact exc_attr ek X hv fun u rep=>Lf.tokV X rep
  |_=>cases q
 |l i=>cases q
 |o k i=>
  obtain⟨⟨c',fs⟩,hm,q⟩:=bGt q
  obtain⟨hc,q⟩:=ite_get q
  cases hc
  obtain⟨j,e1,q⟩:=bGt q
  obtain⟨ws,r,len,ob⟩:=opn_obj X hv (aoO_some hm)
  have F:=fld_of e1
  obtain⟨u,hu1,v',rfl,hu2⟩:=r.get (join_get q)
  refine obj_get X ck F ob (u:=v') ?_ hu2.handed (.here (X.same ⟨rfl,rfl⟩ rfl) hu2)
  obtain⟨d,h1,h2,_⟩:=F
  rw[fmap_get (ck _ d h1).nod h2 (r.length.trans len),hu1];rfl
theorem attr_sx(ck:ClssOk (TT.K c.w.params))(ek:ExcOk (TT.K c.w.params)){f:Nat}(hb:noSuper e=true)(h1:SX c g e a):SX c g (.Attribute e (TT.fld f) pos) (.attr a f):=by
 show Snd c g (eval (.Attribute e (TT.fld f) pos) c.env) _ _
 rw[arm_eval_Attribute,base_plain hb]
 exact Snd.bind h1 (fun o0=>rfl) fun g1 w v le hv=>Snd.standAt ⟨fun l o0 s X o0 o0 o0 q=>wpAny_bind (wpAny_holding (wpAny_mono ((attr_leaf ck ek hv).h l X q) (fun r s' z=>wpAny_bind (wpAny_letTemporaryGo (wpAny_pure z))) fun o0 o0 z=>z))⟩
theorem meth_obj(X:Sim c g st s){w:W}{k:Nat}(hv:RepW g w v)(hl:live st.mem w=true)(hc:clsOf w=some k):∃m,ObjP s.heap (TT.cls k) v m∧∀z,z∉names k→m z=none:=by
 cases w with
 |v y=>
  cases y with
  |inst k' ls=>
   cases Option.some.inj hc
   obtain⟨vs,_,_,ob⟩:=inst_obj X.kb hv
   exact⟨_,ob,fun z hz=>fmap_out hz⟩
  |_=>cases hc
 |l i=>cases hc
 |o k' i=>
  cases Option.some.inj hc
  replace hl:Option.elim (aoO st.mem[i]?) false (fun p=>decide (p.1=k))=true:=hl
  cases hm:aoO st.mem[i]? with
  |none=>rw[hm]at hl;cases hl
  |some p=>
   rw[hm]at hl
   have:=of_decide_eq_true hl
   obtain⟨ws,_,_,ob⟩:=opn_obj X hv (this▸aoO_some hm)
   exact⟨_,ob,fun z hz=>fmap_out hz⟩
theorem meth_sx(ck:ClssOk (TT.K c.w.params))(cs:CallsOk c.n){o:Expr}{m:Nat}(hb:noSuper o=true)(hl:(apos.endLine==pos.line)=true)(hn:es.length < 29)(h1:SX c g o a)(hs:SXs c g es xs):SX c g (.Call (.Attribute o (TT.mth m) apos) es [] pos) (.meth m a xs):=by
 show Snd c g (attributeBase o (TT.mth m) c.env (eval o c.env) >>=fun ov=>standAt apos.atName >>=fun o0=>methodCall o (TT.mth m) apos pos c.env ov (es.length+([]:List Keyword).length) (backTo pos (starEach es c.env)) (backToKw pos (keywordEach [] c.env))) _ _
 rw[base_plain hb]
 have hform:methodCallForm (es.length+([]:List Keyword).length) (backTo pos (starEach es c.env)) (backToKw pos (keywordEach [] c.env))=true:=few_plain hs.plain hn
 have hpos:methodCallPos true o c.env apos pos=pure pos:=by unfold methodCallPos;simp[hl]
 refine Snd.bind h1 (fun o0=>rfl) fun g1 w v le hv=>Snd.standAt ⟨fun l o0 s X o0 o0 o0 q=>?_⟩
 refine hide fun P9 r9=>?_
 obtain⟨f,e1,e2⟩:=optK_get q
 refine r9 ?_
 unfold methO at e1
 cases hlv:live _ w with
 |false=>rw[hlv]at e1;cases e1
 |true=>
  rw[hlv]at e1
  refine hide fun P9 r9=>?_
  obtain⟨k,e3,e1⟩:=bGt e1
  obtain⟨d,e4,e5⟩:=bGt e1
  obtain⟨mm,ob,out⟩:=meth_obj X (hv.mono l) hlv e3
  obtain⟨_,_,m4,m3,m5⟩:=(ck k d e4).meth m f e5
  refine r9 ?_
  unfold methodCall
  rw[hform]
  refine wpAny_bind (wpAny_holding ?_)
  show wpAny _ _ (getMethod v (TT.mth m) _) _ _ _
  refine obj_meth X ck e4 e5 ob (out _ m3) (wpAny_bind (wpAny_of_eq hpos ?_))
  exact(cWs (first:=[v]) (m:=fun κ=>foldVsK (cks c.C xs) fun ws st=>callK (c.C f (w::ws) st.mem) st.loc κ) (Q:=RepW) hs.plain (spliced_sx hs le) (fun o0=>rfl) (keeps_fn m4) fun g₂ ws vs le' hws=>CodeSnd.snd (cs c rfl g₂ f (w::ws) (v::vs) m5 (.cons (hv.mono le') hws.rep))).h l X e2
end
end
section
open PySem.SeqAt
variable{c c':Cx}{g g':Gh}{st st':St}{s s':Shared}{h h':Heap}{ad:Addr}{B:BH}{v u:Value}{x y r:V}{l:List V}
@[reducible] noncomputable def Cx.under(c:Cx)(A:Around)(k:Nat):Cx:={c with A:=A,k:=k}
theorem Sim.under(X:Sim c g st s){A:Around}{k:Nat}(ok:CxOk (c.under A k)):Sim (c.under A k) g st s where
 ok:=ok
 at_ a:=let y:=X.at_ a
  y.keepG (c':=c.under A k) rfl (fun o0 o0 e=>e) (fun o0=>.of) (.refl _) rfl (fun o e=>let z:=y.kp o e;⟨z.keep,z.B,z.own⟩) y.own fun i o e e' l=>let z:=y.mem i o e e' l;⟨e,e',id,z.K,z.own⟩
 len:=X.len
 env:=match X.env with | .mk m len ns slot=>.mk m len ns fun i x w e e'=>match slot i x w e e' with | .loc a b=>.loc a b | .cell a ce l v i b=>.cell a ce l v i b
 gens:=X.gens
 os:=X.os
theorem Sim.out{A:Around}{k:Nat}(ok:CxOk c)(X:Sim (c.under A k) g st s):Sim c g st s where
 ok:=ok
 at_ a:=let y:=X.at_ a
  y.keepG (c':=c) rfl (fun o0 o0 e=>e) (fun o0=>.of) (.refl _) rfl (fun o e=>let z:=y.kp o e;⟨z.keep,z.B,z.own⟩) y.own fun i o e e' l=>let z:=y.mem i o e e' l;⟨e,e',id,z.K,z.own⟩
 len:=X.len
 env:=match X.env with | .mk m len ns slot=>.mk m len ns fun i x w e e'=>match slot i x w e e' with | .loc a b=>.loc a b | .cell a ce l v i b=>.cell a ce l v i b
 gens:=X.gens
 os:=X.os
theorem CxOk.under(ok:CxOk c)(hk:c.k=0){A:Around}(hh:A.handled=c.A.handled)(hf:A.frames=c.A.frames)(h1:A.depth≤c.A.depth+1)(h2:A.units≤c.A.units+5):CxOk (c.under A 1) where
 kind:=ok.kind
 nod:=ok.nod
 ownL:=ok.ownL
 cells x ce a b d:=let z:=ok.cells x ce a b d;⟨z.ne,z.at_⟩
 apart:=ok.apart
 handled:=hh.trans ok.handled
 frames:=hf.trans ok.frames
 globals:=ok.globals
 builtins:=ok.builtins
 stand e he:=match ok.stand e he with | .mk a b d f i=>.mk a b d f i
 frame:=ok.frame
 bas:=ok.bas
 slack:=show 1≤4 by decide
 depth:=by have:=ok.depth;rw[hk]at this;show A.depth+5*c.n≤900+1;lia
 units:=by have:=ok.units;rw[hk]at this;show A.units+40*c.n≤9000+5*1;lia
section
variable{pos p npos apos:Pos}{e e1 e2 e3:Expr}{a b d:X}{es:List Expr}{xs:List X}
theorem fmap_nil{ns:List Str}{k:Nat}{z:Str}:fmap ns (List.replicate k none) z=none:=by
 unfold fmap
 cases q:(ns.zip (List.replicate k (none:Option Value))).lookup z with
 |none=>rfl
 |some w=>exact List.eq_of_mem_replicate (List.of_mem_zip (mem_of_lookup q)).2
theorem none_of{w:W}(hn:Option.elim (asV w) false isNone=true)(hw:RepW g w v):v=.none:=by
 cases w with
 |v y=>cases y<;>first | exact hw | cases hn
 |l i=>cases hn
 |o k i=>cases hn
theorem new_leaf(hk0:c.k=0)(ck:ClssOk (TT.K c.w.params))(cs:CallsOk c.n){k:Nat}{ws:List W}{vs:List Value}(hws:RepsW g ws vs):Snd c g (call (.ref (TT.cls k)) vs) (fun κ st=>newK c.C k ws κ st) RepW:=⟨fun {g₁} l {st s} X {γ κ r} q=>by
 unfold newK at q
 cases hd:clss[k]? with
 |none=>rw[hd]at q;cases q
 |some d=>
  rw[hd]at q
  have ok':=ck k d hd
  obtain⟨hi,hfn,hfd⟩:=ok'.init
  have hK:=X.K
  refine wpAny_call (make_core (makes_of hK ok'.makes) (looks_findIn hK hi) (fun self=>bind_fn hK self hfn) (.inl rfl) ?_)
  have xa:=X.alloc (s':={s with heap:=s.heap.push emptyDict}) (a:=s.heap.objs.size) (o:=.obj k (List.replicate d.fields.length none)) ⟨rfl,rfl⟩ (Nat.le_refl _) (fun o0 o0 e=>Heap.get?_push_of_some _ e)
   (.mk (List.replicate d.fields.length none) ⟨emptyDict,#[],0,Heap.get?_push_size _ rfl,rfl,fun e he=>absurd he (by simp),by simp[UniqKeys],fun y=>by rw[fmap_nil];rfl⟩ (.replicate trivial _) (by rw[names_eq hd,List.length_replicate,lmp]) fun w hw=>absurd (List.eq_of_mem_replicate hw) nofun)
  have hsz:(s.heap.push emptyDict).objs.size=s.heap.objs.size+1:=Heap.size_push ..
  have xb:=xa.freezeNew (s':={s with heap:=(s.heap.push emptyDict).push (instObj (TT.cls k) s.heap.objs.size)}) (a:=s.heap.objs.size+1) (o:=instObj (TT.cls k) s.heap.objs.size) ⟨rfl,rfl⟩ (Nat.le_of_eq hsz) (fun o0 o0 e=>Heap.get?_push_of_some _ e) (hsz▸Heap.get?_push_size _ rfl) fun o0 o0 q=>Data.noConfusion q
  have le2:Gh.Le g₁ ⟨addK g₁.B (s.heap.objs.size+1) (instObj (TT.cls k) s.heap.objs.size),g₁.φ++[s.heap.objs.size]⟩:=⟨addK_le (X.free (Nat.le_succ _)).B,fun i b e=>(List.getElem?_append_left (List.getElem?_eq_some_iff.mp e).1).trans e⟩
  have hself:RepW ⟨addK g₁.B (s.heap.objs.size+1) (instObj (TT.cls k) s.heap.objs.size),g₁.φ++[s.heap.objs.size]⟩ (.o k st.mem.length) (.ref (s.heap.objs.size+1)):=
   .mk s.heap.objs.size _ _ (X.len▸List.getElem?_concat_length ..) rfl aKs rfl rfl rfl (Nat.ne_of_lt (Nat.lt_succ_self _))
  generalize (⟨addK g₁.B (s.heap.objs.size+1) (instObj (TT.cls k) s.heap.objs.size),g₁.φ++[s.heap.objs.size]⟩:Gh)=g₂ at xb le2 hself
  have ok1:CxOk (c.under (c.A.under (.builtin "type.__call__" ⟨.ref (TT.cls k)::vs,[]⟩)) 1):=X.ok.under hk0 rfl rfl (Nat.le_refl _) (Nat.add_le_add_left (show(Code.builtin "type.__call__" ⟨.ref (TT.cls k)::vs,[]⟩).cUnits≤5 by with_unfolding_all exact bTl rfl) _)
  have key:=cs (c.under (c.A.under (.builtin "type.__call__" ⟨.ref (TT.cls k)::vs,[]⟩)) 1) rfl g₂ d.init (.o k st.mem.length::ws) (.ref (s.heap.objs.size+1)::vs) hfd (.cons hself (RepsW.mono (l.trans le2) hws)) (.refl _) (xb.under ok1) q
  refine codeAny_mono key fun res s' z=>?_
  cases res with
  |error ev=>
   obtain⟨y,hr,g',le,sim,fly⟩:=z
   exact .mk y hr g' (le2.trans le) (sim.out X.ok) fly
  |ok f=>
   cases f with
   |ret v=>
    obtain⟨w,g',st',le,sim,hw,e⟩:=z
    unfold kNew2 at e
    cases hn:Option.elim (asV w) false isNone with
    |false=>rw[hn]at e;cases e
    |true=>
     rw[hn]at e
     exact⟨none_of hn hw,.mk (.o k st.mem.length) g' _ (le2.trans le) (sim.out X.ok) (hself.mono le) e⟩
   |_=>exact z.elim⟩
theorem new_sx(hk0:c.k=0)(tk:TabOk c.w.params)(ck:ClssOk (TT.K c.w.params))(cs:CallsOk c.n){k:Nat}(hk:c.env.kindOf (TT.cname k)=some .globalImplicit)(hd:(TT.cname k==("__debug__" :Str))=false)(hl:k < clss.length)(hs:SXs c g es xs):
  SX c g (.Call (.Name (TT.cname k) npos) es [] pos) (.new k xs):=
 call_name (fun X hq=>globalName X hk hd (tk.cls k hl) hq) (cWs (first:=[]) hs.plain (spliced_sx hs (.refl _)) (fun o0=>rfl) (keeps_fn (ck k _ (gqe hl)).keep) fun g₁ ws vs le hws=>new_leaf hk0 ck cs hws.rep)
end
end
section
open PySem.SeqAt
variable{c c':Cx}{g g':Gh}{st st':St}{s s':Shared}{h h':Heap}{ad:Addr}{B:BH}{v u ov:Value}{x y r:V}{l:List V}
theorem fmap_set{ns:List Str}{ws:List (Option Value)}{j:Nat}{n:Str}{v:Option Value}(d:ns.Nodup)(e:ns[j]?=some n)(hl:ws.length=ns.length):fmap ns (ws.set j v)=fun y=>if y=n then v else fmap ns ws y:=by
 funext y
 have hl':(ws.set j v).length=ns.length:=(List.length_set ..).trans hl
 have hj:j < ws.length:=hl▸(List.getElem?_eq_some_iff.mp e).1
 by_cases hy:y=n
 ·rw[if_pos hy,hy,fmap_get d e hl',List.getElem?_set_self hj];rfl
 ·rw[if_neg hy]
  by_cases hm:y∈ns
  ·obtain⟨m,hm⟩:=List.mem_iff_getElem?.mp hm
   rw[fmap_get d hm hl',fmap_get d hm hl,List.getElem?_set_ne fun(q:j=m)=>hy (Option.some.inj (hm.symm.trans (q▸e)))]
  ·rw[fmap_out hm,fmap_out hm]
theorem fmap_within{ns:List Str}{ws:List (Option Value)}:Within (fmap ns ws) ns:=fun y hy=>Classical.byContradiction fun h=>hy (fmap_out h)
inductive SetP(st:St)(o:W)(f:Nat)(w:W)(r:Ex Unit):Prop
 |mk (k i j:Nat) (fs:List (Option W)) (e:o=.o k i) (mem:st.mem[i]?=some (.obj k fs)) (fld:fieldIx prog k f=some j) (ok:okField i w=true) (res:r=(.ok (),⟨st.loc,st.mem.set i (.obj k (fs.set j (some w)))⟩))
theorem set_of{o w:W}{f:Nat}{r:Ex Unit}(e:setattrM prog o f w st=some r):SetP st o f w r:=by
 cases o with
 |o k i=>
  obtain⟨⟨c',fs⟩,hm,e⟩:=bGt e
  obtain⟨j,hj,e⟩:=bGt e
  obtain⟨⟨hc,ho⟩,e⟩:=ite_get e
  exact .mk k i j fs rfl ((aoO_some hm).trans (congrArg (fun c=>some (AO.obj c fs)) hc)) hj ho (Option.some.inj e).symm
 |_=>cases e
theorem setattr_leaf(ck:ClssOk (TT.K c.w.params)){o w:W}{f:Nat}(ho:RepW g o ov)(hv:RepW g w v):Snd c g (setAttr ov (TT.fld f) v) (fun κ st=>bR (setattrM prog o f w st) κ) (fun o0 o0 o0=>True):=⟨fun {g₁} l {st s} X {γ κ r} q=>by
 obtain⟨r',q1,q2⟩:=bindR_get q
 obtain⟨k,i,j,fs,rfl,hm,hj,hok,rfl⟩:=set_of q1
 obtain⟨d,hd,hn,hf⟩:=fld_of hj
 have ok':=ck k d hd
 obtain⟨a,y,oy,hφ,rfl,hb,cls,dict,dat,ne⟩:=ho.mono l
 obtain⟨⟨oc,odi,oda,osl⟩,f1,f2,f3,f4⟩:=(X.kb y oy hb).data fun ws z=>Data.noConfusion (dat.symm.trans z)
 cases f2.trans cls
 cases f3.trans dict
 have hv:=hv.mono l
 obtain⟨ws,hns,j1,j2,j3⟩:=((X.at_ a).mem i _ hφ hm trivial).rep
 have hns0:=hns
 obtain⟨od,es,ep,i1,i2,i3,i4,i5⟩:=hns0
 have fset:=fmap_set (v:=some v) ok'.nod hn (j1.length.trans j2)
 have hK:=X.K
 have I:W.InstAt s.heap y ⟨.ref (TT.cls k),some a,oda,osl⟩ (TT.cls k) (some od):=⟨f1,rfl,notCls_plain (f4.symm.trans dat),i1⟩
 have I':W.InstAt ({s with toks:=s.toks+1}:Shared).heap y ⟨.ref (TT.cls k),some a,oda,osl⟩ (TT.cls k) (some od):=I
 refine set_plain hK I ok'.set (osa_open (s:={s with toks:=s.toks+1}) hK I' ok'.over (ok'.taker f hf) fun b=>?_)
 obtain⟨cd,hc,hd'⟩:=any_some ok'.dict
 refine wpAny_bind (wpAny_pure (wpAny_bind (wpAny_bind (wpAny_loadPart (s:={s with toks:=s.toks+1}) f1 (wpAny_bind (Looks.here (s:={s with toks:=s.toks+1}) (looks_clsIn hK hc) ?_))))))
 rw[hd']
 refine wpAny_pure (a:=some a) (wpAny_bind (wpAny_pure (wpAny_bind ?_)))
 refine wpAny_nsSet1 (s:={s with toks:=s.toks+1}) hns fun h' hn' hs=>?_
 obtain⟨oD,esD,epD,hoD,hdD,hcD⟩:=hn'.count (Within.cons (TT.fld f) v fmap_within)
 refine wpAny_bind (wpAny_lookBehind hoD (by rw[hdD];exact pastItsLine_dict (ltr hcD (by have:=ok'.len;rw[lcn,sizeLine_eq'];lia))) ?_)
 rw[←fset]at hn'
 refine wpAny_pure (.mk () g₁ _ (.refl _) (X.change (s':={s with heap:=h',toks:=s.toks+1+1}) (o':=.obj k (fs.set j (some w))) ⟨rfl,rfl⟩ hφ hm trivial (fun b ob hb q=>(hs.2 b hb).trans q) (OObj.mk _ hn' (j1.set j (.mk v rfl hv)) ((List.length_set ..).trans j2) fun w' hw'=>(List.mem_or_eq_of_mem_set hw').elim (j3 w') fun q=>Option.some.inj q▸hok)) trivial q2)⟩
end
section
open PySem.SeqAt
variable{c c':Cx}{g g':Gh}{st st':St}{s s':Shared}{h h':Heap}{ad:Addr}{B:BH}{v u ov:Value}{x y r:V}{l:List V}
theorem Fly.of(X:Sim c g st s){a:V}(q:Rep g.B (.exc a) v):Fly g s.heap false (.exc a) v:=by
 have q0:=q
 obtain⟨e,d,o,es,w,vs,rfl,hb,cls,dat,size,new,_⟩:=q
 exact .mk a rfl e rfl q0 (((X.at_ e).frz _ hb).tb vs cls dat new)
inductive Flown0(c:Cx)(g:Gh)(st:St)(x:V)(e:Value)(s:Shared):Prop
 |mk (g':Gh) (le:Gh.Le g g') (sim:Sim c g' st s) (fly:Fly g' s.heap false x e)
theorem wpAny_setFlight0{M:Model}{E:Value→Shared→Prop}(X:Sim c g st s){x:V}{e:Value}{fl:Option Addr}{Q:Unit→Shared→Prop}(f:Fly g s.heap false x e)(hQ:∀s',Flown0 c g st x e s'→Q () s'):wpAny M c.A (setFlight e fl) Q E s:=by
 have f0:=f
 obtain⟨y,rfl,a,rfl,rep,tb⟩:=f
 rcases tb with⟨_,o,vs,ho,hd,hsz,h1⟩ | ⟨o,vs,ho,hd,hsz,t,ot,ts,h1,ne,hb,cls,dt,h3,old⟩
 ·unfold setFlight
  refine wpAny_bind (wpAny_field ho hd h1 ?_)
  rw[if_neg (by decide)]
  exact wpAny_pure (hQ s (.mk g (.refl g) X f0))
 ·exact wSF X (.mk y rfl a rfl rep (.yes o vs ho hd hsz t ot ts h1 ne hb cls dt h3 old)) fun s' w=>match w with | .mk g' le sim fly=>hQ s' (.mk g' le sim fly.any)
theorem asExc_rep{w:W}{a:V}(e:asExc w=some a)(q:RepW g w v):Rep g.B (.exc a) v:=by
 obtain⟨y,e1,e2⟩:=bGt e
 have q:=asV_rep e1 q
 cases y with
 |exc b=>exact Option.some.inj e2▸q
 |_=>cases e2
theorem raise_stmt(ek:ExcOk (TT.K c.w.params)){t:Sem Value}{m:Km W}(h:Snd c g t m RepW):Snd c g (raiseStmt c.env (some t) none) (fun(_:Kt Flow _)=>m fun w=>oK (asExc w) fun a st=>some (.error (.exc a),st)) FlowRep:=⟨fun {g₁} l {st s} X {γ κ r} q=>by
 unfold raiseStmt
 refine wpAny_bind (wpAny_mono (h.h l X q) (fun v s' z=>?_) fun _ _ z=>z)
 obtain⟨w,g',st',le,sim,hw,q⟩:=z
 obtain⟨a,e1,e2⟩:=optK_get q
 cases Option.some.inj e2
 have hr:=asExc_rep e1 hw
 have f:=Fly.of sim hr
 obtain⟨e,d,o,es,u,vs,rfl,hb,cls,dat,size,new,_⟩:=hr
 obtain⟨o',f1,f2,_,f4⟩:=sim.kb e o hb
 have hK:=sim.K
 have L0:Looks c.M s'.heap (typeOf (.ref e)) (.ref TT.exc):=(f2.trans cls)▸(Looks.ld (part:=some headPart) f1).andThen .now
 obtain⟨vs',hd'⟩:∃vs',o'.data=.fields vs':=by
  rcases f4 with f4 | ⟨_,vs',_,f4,_⟩
  ·exact⟨vs,f4▸dat⟩
  ·exact⟨vs',f4⟩
 have L1:Looks c.M s'.heap (isType (.ref e)) false:=(Looks.ld (part:=some headPart) f1).andThen (by rw[hd'];exact .now)
 have L2:Looks c.M s'.heap (isInstance (.ref e) (.type "BaseException")) true:=L0.andThen (looks_mroIn hK ek.mroB)
 have L3:Looks c.M s'.heap (isExcClass (.ref e)) false:=L1.andThen .now
 have L4:Looks c.M s'.heap (excFromValue (.ref e) "exceptions must derive from BaseException") (.ref e):=L3.andThen (L2.andThen .now)
 have L5:Looks c.M s'.heap (raisedInstance (.ref e)) (.ref e):=L0.andThen ((looks_typeIn hK ek.typ).andThen .now)
 refine wpAny_bind (wpAny_pure (wpAny_bind (wpAny_holding (L4.here (wpAny_bind (L1.here (wpAny_bind (L5.here (wpAny_bind (wpAny_setFlight0 sim f fun s'' w=>?_))))))))))
 obtain⟨g'',le',sim',fly'⟩:=w
 exact wpAny_raiseNew_none X.ok.handled (.mk (.exc a) rfl g'' (le.trans le') sim' fly')⟩
end
section
open PySem.SeqAt
variable{c c':Cx}{g g':Gh}{st st':St}{s s':Shared}{h h':Heap}{ad:Addr}{B:BH}{v u ov:Value}{x y r:V}{l:List V}
section
variable{pos p npos apos tpos:Pos}{e e1 e2 e3:Expr}{a b d:X}{es:List Expr}{xs:List X}{is:List Nat}{i j:Nat}{id:Str}{w:W}
theorem Ns_det{a:Addr}{m m':Str→Option Value}:h.Ns a m→h.Ns a m'→m=m':=fun⟨o,es,ep,h1,h2,_,h3⟩ ⟨o',es',ep',i1,i2,_,i3⟩=>by
 cases sIj h1 i1
 cases h2.symm.trans i2
 exact funext fun y=>(h3 y).symm.trans (i3 y)
structure Bindable(c:Cx)(i:Nat)(id:Str):Prop where
 slot:c.slots[i]?=some id
 own:∀ce,c.env.kindOf id=some .cell→c.env.cells.lookup id=some ce→ce∈c.own
abbrev TrueP{α β:Type}:Gh→α→β→Prop:=fun o0 o0 o0=>True
theorem store_snd(bd:Bindable c i id)(hv:RepW g w v):Snd c g (bindName c.env id v) (fun κ st=>κ () ⟨st.loc.set i (some w),st.mem⟩) TrueP:=⟨fun {g₁} l {st s} X {γ κ r} q=>by
 refine wpAny_bindName ?_
 obtain⟨m,hlen,hn,slot⟩:=X.env
 have hlt:i < st.loc.length:=hlen▸(List.getElem?_eq_some_iff.mp bd.slot).1
 have hr:RepO g₁ (some w) (some v):=.mk v rfl (hv.mono l)
 rcases slot i id _ bd.slot (gqe hlt)with⟨hk,_⟩ | ⟨hk,ce,hce,v₀,hv₀,_⟩
 ·refine wpAny_storeName_local hk hn (fun h' hn' hs'=>?_) (by rw[X.ok.kind];rfl)
  exact .mk () g₁ _ (.refl _) (X.setLocal (s':={s with heap:=h',toks:=s.toks+1}) (v:=some v) ⟨rfl,rfl⟩ bd.slot hk hr (fun b ob hb q=>(hs'.2 b hb).trans q) fun m' hm'=>⟨_,hn',if_pos rfl,fun y hy=>(if_neg hy).trans (congrFun (Ns_det hn hm') y)⟩) trivial q
 ·refine wpAny_storeName_cell X.ok.kind hk hce hv₀ fun h' hc' hs'=>?_
  exact .mk () g₁ _ (.refl _) (X.setCell (s':={s with heap:=h'}) ⟨rfl,rfl⟩ bd.slot hk hce (bd.own ce hk hce) hr (fun b ob hb q=>(hs'.2 b hb).trans q) hc') trivial q⟩
theorem name_assign(bd:Bindable c i id)(hv:RepW g w v):Snd c g (assign (.Name id p) c.env v) (fun κ st=>κ () ⟨st.loc.set i (some w),st.mem⟩) TrueP:=Snd.of_eq (Snd.standAt (store_snd bd hv)) (arm_assign_Name ..)
inductive NameAt(c:Cx)(e:Expr)(i:Nat):Prop | mk (id:Str) (p:Pos) (eq:e=.Name id p) (bd:Bindable c i id)
abbrev Names(c:Cx)(es:List Expr)(is:List Nat):Prop:=All2 (NameAt c) es is
theorem Names.each(h:Names c es is):(assignEach es c.env).length=is.length∧(assignEach es c.env).findIdx? (·.1)=none:=by
 induction h with
 |nil=>exact⟨rfl,rfl⟩
 |cons q _ ih=>
  obtain⟨id,p,rfl,_⟩:=q
  refine⟨congrArg Nat.succ ih.1,?_⟩
  show List.findIdx? (·.1) ((false,_)::assignEach _ c.env)=none
  rw[List.findIdx?_cons,ih.2];rfl
theorem names_assign(hn:Names c es is):∀{xs:List V} {vs:List Value} {g:Gh},xs.length=is.length→Reps g.B xs vs→Snd c g (assignInOrder ((assignEach es c.env).map (·.2)) vs) (fun κ st=>κ () (bindL2 is xs st)) TrueP:=by
 induction hn with
 |nil=>
  intro xs vs g hl q
  cases xs with
  |nil=>cases (q:vs=[]);exact Snd.pure fun o0 o0=>trivial
  |cons _ _=>cases hl
 |cons q _ ih=>
  intro xs vs g hl r
  obtain⟨id,p,rfl,bd⟩:=q
  cases xs with
  |nil=>cases hl
  |cons x xs=>
   obtain⟨v,vs',rfl,r1,r2⟩:=r
   exact Snd.bind (Snd.holding (name_assign bd (w:=.v x) r1)) (fun o0=>rfl) fun g1 o0 o0 le o0=>ih (Nat.succ.inj hl) (Reps.mono le.1 r2)
theorem tuple_assign{x1}(hn:Names c es is)(q:Rep g.B y v):Snd c g (assign (.Tuple es x1 pos) c.env v) (fun κ st=>bR (bindPat is false y st) κ) TrueP:=⟨fun l o0 s X o0 o0 o0 e=>by
 obtain⟨r',e1,e2⟩:=bindR_get e
 replace e1:Option.casesOn (vT y) none (fun l=>if l.length=is.length then some (.ok (),bindL2 is l _)else none)=some r':=e1
 cases hy:vT y with
 |none=>rw[hy]at e1;cases e1
 |some k=>
  rw[hy]at e1
  obtain⟨hl,e1⟩:=ite_get e1
  cases Option.some.inj e1
  obtain⟨t,vs,rfl,ht,hr,_⟩:=tup_of X.kb (vT_some hy▸Rep.mono l.1 q:Rep _ (.tup k) v)
  refine wpAny_assign_Tuple X.ok.handled ht (by rw[hn.each.1,hr.size,hl]) hn.each.2 fun h' he=>?_
  exact(names_assign hn hl hr).h (.refl _) (X.grow (s':={s with heap:=h'}) ⟨rfl,rfl⟩ fun a o q=>he a o (Nat.ne_of_lt (Heap.lt_size q)) q) e2⟩
abbrev SE(c:Cx)(g:Gh)(t:Stmt)(s:S):Prop:=Snd c g (PySem.exec t c.env) (fun {γ}=>sk c.C (γ:=γ) s) FlowRep
noncomputable def isComp(e:Expr):Bool:=Nat.ble 8 e.ctorIdx&&Nat.ble e.ctorIdx 10
theorem swaps_false{t:Option Expr}{l:Nat}{env:Env}(h:isComp e=false):swapsWith e t l env=pure false:=by
 cases e<;>first | rfl | exact Bool.noConfusion h
theorem Snd.next{β:Type}{t:Sem β}{α:Type}{m:Km α}{m':Km Flow}(h:Snd c g t m TrueP)(q:∀{γ:Type} (κ:Kt Flow γ),m' κ=m fun o0=>κ .next):Snd c g (t >>=fun o0=>Pure.pure PySem.Flow.next) m' FlowRep:=Snd.bind h q fun o0 o0 o0 o0 o0=>Snd.pure fun o0 o0=>rfl
theorem assign_exec(hc:isComp e=false)(bd:Bindable c i id)(h:SX c g e a):SE c g (.Assign [.Name id npos] e pos) (.assign i a):=by
 show Snd c g (PySem.exec (.Assign [.Name id npos] e pos) c.env) _ _
 rw[arm_exec_Assign]
 have h1:swapsWithSole [.Name id npos] e pos.line c.env=pure false:=by rw[swapsWithSole];exact swaps_false hc
 rw[h1]
 exact Snd.standAt (Snd.pureL (Snd.bind h (fun o0=>rfl) fun g1 w v le hv=>Snd.pureL (a:=none) (Snd.next (name_assign bd hv) fun o0=>rfl)))
theorem unpack_exec{x1}(hc:isComp e=false)(ht:∀vs x p,e≠.Tuple vs x p)(hn:Names c es is)(h:SX c g e a):SE c g (.Assign [.Tuple es x1 tpos] e pos) (.unpack is a):=by
 show Snd c g (PySem.exec (.Assign [.Tuple es x1 tpos] e pos) c.env) _ _
 rw[arm_exec_Assign]
 have h1:swapsWithSole [.Tuple es x1 tpos] e pos.line c.env=pure false:=by rw[swapsWithSole];exact swaps_false hc
 have h2:swappedStores [.Tuple es x1 tpos] e c.env=pure none:=by
  revert ht;generalize e=e';intro ht;cases e'<;>first | rfl | exact absurd rfl (ht _ _ _)
 rw[h1]
 refine Snd.standAt (Snd.pureL (Snd.bind h (fun o0=>rfl) fun g1 w v le hv=>?_))
 rw[h2]
 exact Snd.pureL (show Snd c g1 (assign (.Tuple es x1 tpos) c.env v >>=fun o0=>Pure.pure PySem.Flow.next) _ _ from Snd.opt fun y e=>Snd.next (tuple_assign hn (asV_rep e hv)) fun o0=>rfl)
end
end
section
open PySem.SeqAt
variable{c c':Cx}{g g':Gh}{st st':St}{s s':Shared}{h h':Heap}{ad:Addr}{B:BH}{v u ov:Value}{x y r:V}{l:List V}
section
variable{pos p npos apos tpos:Pos}{e e1 e2 e3:Expr}{a b d:X}{es:List Expr}{xs:List X}{is:List Nat}{i j:Nat}{id:Str}{w:W}
abbrev SEs(c:Cx)(g:Gh)(t:List Stmt)(s:List S):Prop:=Snd c g (PySem.execs t c.env) (fun {γ}=>bk c.C (γ:=γ) s) FlowRep
theorem expr_exec(hk:c.env.scope.kind=.function)(hc:isComp e=false)(h:SX c g e a):SE c g (.Expr e pos) (.expr a):=by
 show Snd c g (PySem.exec (.Expr e pos) c.env) _ _
 rw[arm_exec_Expr]
 have h1:interactive c.env=false:=by unfold interactive;rw[hk];rfl
 rw[h1,swaps_false hc]
 exact Snd.standAt (Snd.pureL (Snd.bind h (fun o0=>rfl) fun g1 w v le hv=>Snd.val fun {o0} l {o0 o0} X=>wpAny_dropValue (.here X rfl)))
theorem setattr_exec(ck:ClssOk (TT.K c.w.params)){f:Nat}(hc:isComp e=false)(h:SX c g e a)(ho:SX c g e1 b):SE c g (.Assign [.Attribute e1 (TT.fld f) tpos] e pos) (.setattr b f a):=by
 show Snd c g (PySem.exec (.Assign [.Attribute e1 (TT.fld f) tpos] e pos) c.env) _ _
 rw[arm_exec_Assign]
 have h1:swapsWithSole [.Attribute e1 (TT.fld f) tpos] e pos.line c.env=pure false:=by rw[swapsWithSole];exact swaps_false hc
 have h2:swappedStores [.Attribute e1 (TT.fld f) tpos] e c.env=pure none:=by generalize e=e';cases e'<;>rfl
 rw[h1]
 refine Snd.standAt (Snd.pureL (Snd.bind h (fun o0=>rfl) fun g1 w v le hv=>?_))
 rw[h2]
 have key:Snd c g1 (assign (.Attribute e1 (TT.fld f) tpos) c.env v) (fun κ=>(Mine.ck c.C b).1 fun ov st=>bR (setattrM prog ov f w st) κ) TrueP:=by
  rw[arm_assign_Attribute]
  exact Snd.bind (Snd.holding (ho.weaken le)) (fun o0=>rfl) fun g2 wo vo le2 hvo=>Snd.standAt ⟨fun l o0 o0 X o0 o0 o0 q=>
   wpAny_bind (wpAny_holding (wpAny_mono ((setattr_leaf ck hvo (hv.mono le2)).h l X q) (fun o0 s' z=>wpAny_release z) fun o0 o0 z=>z))⟩
 exact Snd.pureL (show Snd c g1 (assign (.Attribute e1 (TT.fld f) tpos) c.env v >>=fun o0=>Pure.pure PySem.Flow.next) _ _ from Snd.next key fun o0=>rfl)
theorem setItem_obj{prog:Program}{w:World}{A:Around}{E:Value→Shared→Prop}{l:Addr}{o:Obj}{vs:Array Value}{m:Nat}{k:Int}{t:Tok}{v:Value}{Q:Unit→Shared→Prop}(ho:s.heap.get? l=some o)(hc:o.cls=.type "list")(hd:o.data=.seq vs m)
  (h0:0≤k) (hfit:k < 2 ^ 63) (hk:k < vs.size) (h:Q () {s with heap:=s.heap.update l (Obj.mapSeq (·.setIfInBounds k.toNat v))}):wpAny (model prog w) A (setItem (.ref l) (.int k t) v) Q E s:=by
 have hT:s.TypeIs (.ref l) "list" :=⟨o,ho,hc⟩
 have hfi:=fitsIndex_of h0 hfit
 clear hfit
 unfold setItem
 try with_reducible refine wpAny_holding ?_
 first | refine wpAny_bind (wpAny_pure ?_) | skip
 refine wpAny_bind (wpAny_sequenceKey hT (by decide) ?_)
 refine wpAny_bind (wpAny_callSpecial?_slot (name:=Str.ofString "__setitem__") hT slot_list_setitem (wpAny_call_entry slot_list_setitem hT entry_list_setitem ?_ (args_list_setitem _ _ _)))
 show wpAny _ _ (Builtin.List.listSubscript? (.int k t) >>=_) _ _ s
 refine wpAny_bind (wpAny_listSubscript_int hfi ?_)
 obtain⟨j,rfl⟩:=Int.eq_ofNat_of_zero_le h0
 have hj:j < vs.size:=by lia
 show wpAny _ _ ((seqItemAt l j >>=fun r=>pure (r.map (j, ·))) >>=_) _ _ s
 refine wpAny_bind (wpAny_bind (wpAny_seqItemAt ho hd (wpAny_pure ?_)))
 rw[Array.getElem?_eq_getElem hj]
 show wpAny _ _ (setSeqItemAt l j v >>=_) _ _ s
 refine wpAny_bind (wpAny_setSeqItemAt ho hd ?_)
 first
  |exact wpAny_pure ⟨.none,rfl,wpAny_pure h⟩
  |exact wpAny_bind (wpAny_pure (wpAny_pure ⟨.none,rfl,wpAny_pure h⟩))
theorem setitem_leaf{o w1:W}{iv:Value}(ho:RepW g o ov)(hi:RepW g w1 iv)(hv:Rep g.B y v):Snd c g (setItem ov iv v) (fun κ st=>bR (setitemM o w1 y st) κ) TrueP:=⟨fun {g₁} l₁ {st s} X {o0 κ o0} q=>by
 obtain⟨r',q1,q2⟩:=bindR_get q
 cases o with
 |l a=>
  cases w1 with
  |v z=>
   obtain⟨k,q3,q1⟩:=bGt q1
   obtain⟨l,q4,q1⟩:=bGt q1
   obtain⟨⟨h0,h1⟩,q1⟩:=ite_get q1
   cases Option.some.inj q1
   obtain⟨ad,hφ,rfl⟩:=ho.mono l₁
   obtain⟨t,rfl⟩:=intR hi q3
   have hm:=aoL_some q4
   obtain⟨⟨_,_,_,sl⟩,vs,m,e1,rfl,rfl,r,len,rfl⟩:=((X.at_ ad).mem a _ hφ hm trivial).rep
   have hs:=r.size
   obtain⟨k',hd'⟩:=Obj.data_mapSeq (o:=⟨.type "list",none,.seq vs m,sl⟩) rfl (·.setIfInBounds k.toNat v)
   refine setItem_obj e1 rfl rfl h0 (Int.lt_trans h1 (top63 (tSz len))) (hs▸h1) ?_
   exact .mk () g₁ _ (.refl _) (X.change (s':={s with heap:=s.heap.update ad (Obj.mapSeq (·.setIfInBounds k.toNat v))}) (o':=.list (l.set k.toNat y)) ⟨rfl,rfl⟩ hφ hm trivial update_ne
    (OList.mk _ _ k' (Heap.get?_update_self (Obj.mapSeq (·.setIfInBounds k.toNat v)) e1 (Obj.isFreed_of_seq hd')) rfl hd' (by rw[Array.toList_setIfInBounds];exact r.set k.toNat (Rep.mono l₁.1 hv)) ((List.length_set ..).symm▸len) rfl)) trivial q2
  |_=>cases q1
 |_=>cases q1⟩
theorem setitem_exec(hc:isComp e=false)(h:SX c g e a)(ho:SX c g e1 b)(hi:SX c g e2 d):SE c g (.Assign [.Subscript e1 e2 tpos] e pos) (.setitem b d a):=by
 show Snd c g (PySem.exec (.Assign [.Subscript e1 e2 tpos] e pos) c.env) _ _
 rw[arm_exec_Assign]
 have h1:swapsWithSole [.Subscript e1 e2 tpos] e pos.line c.env=pure false:=by rw[swapsWithSole];exact swaps_false hc
 have h2:swappedStores [.Subscript e1 e2 tpos] e c.env=pure none:=by generalize e=e';cases e'<;>rfl
 rw[h1]
 refine Snd.standAt (Snd.pureL (Snd.bind h (fun o0=>rfl) fun g1 w v le hv=>?_))
 rw[h2]
 refine Snd.pureL (show Snd c g1 (assign (.Subscript e1 e2 tpos) c.env v >>=fun o0=>Pure.pure PySem.Flow.next) _ _ from Snd.opt fun y q=>Snd.next (m:=fun κ=>(Mine.ck c.C b).1 fun ov=>(Mine.ck c.C d).1 fun iv st=>bR (setitemM ov iv y st) κ) ?_ fun o0=>rfl)
 rw[arm_assign_Subscript]
 have hy:=asV_rep q hv
 exact Snd.bind (Snd.holding (ho.weaken le)) (fun o0=>rfl) fun g2 wo vo le2 hvo=>Snd.bind (Snd.holding (hi.weaken (le.trans le2))) (fun o0=>rfl) fun g3 wi vi le3 hvi=>Snd.standAt ⟨fun l o0 o0 X o0 o0 o0 q=>
  wpAny_bind (wpAny_holding (wpAny_mono ((setitem_leaf (hvo.mono le3) hvi (Rep.mono (le2.trans le3).1 hy)).h l X q) (fun o0 s' z=>wpAny_release z) fun o0 o0 z=>z))⟩
theorem ret_exec(h:SX c g e a):SE c g (.Return (some e) pos) (.ret a):=by
 show Snd c g (PySem.exec (.Return (some e) pos) c.env) _ _
 rw[arm_exec_Return]
 exact Snd.standAt (Snd.bind h (fun o0=>rfl) fun g1 w v le hv=>Snd.pure fun g' l=>.mk v rfl (hv.mono l))
theorem raise_exec(ek:ExcOk (TT.K c.w.params))(h:SX c g e a):SE c g (.Raise (some e) none pos) (.raise a):=by
 show Snd c g (PySem.exec (.Raise (some e) none pos) c.env) _ _
 rw[arm_exec_Raise]
 exact Snd.standAt (raise_stmt ek (t:=eval e c.env >>=fun v=>standAt pos >>=fun o0=>pure v) (m:=fun {γ}=>(ck c.C (γ:=γ) a).1) ⟨fun l o0 o0 X o0 o0 o0 q=>wpAny_bind (wpAny_mono (h.h l X q) (fun v s' z=>wpAny_bind (wpAny_standAt (wpAny_pure z))) fun o0 o0 z=>z)⟩)
theorem ite_exec{b1 b2:List Stmt}{c1 c2:List S}(h:ST c g e a)(h1:SEs c g b1 c1)(h2:SEs c g b2 c2):SE c g (.If e b1 b2 pos) (.ite a c1 c2):=by
 show Snd c g (PySem.exec (.If e b1 b2 pos) c.env) _ _
 rw[arm_exec_If]
 refine Snd.standAt (Snd.bind h (fun o0=>rfl) fun g1 b v le hv=>hv▸?_)
 cases v with
 |true=>exact h1.weaken le
 |false=>exact h2.weaken le
theorem while_exec{body:List Stmt}{b:List S}(h:ST c g e a)(h1:SEs c g body b):SE c g (.While e body [] pos) (.while_ a b):=by
 show Snd c g (PySem.exec (.While e body [] pos) c.env) _ _
 rw[arm_exec_While]
 exact Snd.standAt (Snd.runOwn (SndC.while h h1))
theorem execs_nil:SEs c g [] []:=Snd.of_eq (Snd.pure fun o0 o0=>rfl) (arm_execs_nil ..)
theorem execs_cons{t:Stmt}{r:List Stmt}{z:S}{r':List S}(h:SE c g t z)(h1:SEs c g r r'):SEs c g (t::r) (z::r'):=by
 show Snd c g (PySem.execs (t::r) c.env) _ _
 rw[arm_execs_cons]
 refine Snd.bind h (fun o0=>rfl) fun g1 fl f le hf=>?_
 cases fl with
 |next=>cases (hf:f=.next);exact h1.weaken le
 |ret w=>obtain⟨v,rfl,hv⟩:=hf;exact Snd.pure fun g' l=>.mk v rfl (hv.mono l)
end
end
section
variable{c c':Cx}{g g':Gh}{st st':St}{s s':Shared}{h h':Heap}{a:Addr}{B K K':BH}{v u ov:Value}{x y r:V}{l:List V}
@[reducible] noncomputable def Cx.withK(c:Cx)(K:BH):Cx:={c with K:=K}
theorem CxOk.withK(ok:CxOk c)(le:BH.Le c.K K):CxOk (c.withK K) where
 kind:=ok.kind
 nod:=ok.nod
 ownL:=ok.ownL
 cells x ce a b d:=let z:=ok.cells x ce a b d;⟨z.ne,z.at_.imp id fun⟨o,v,e,q⟩=>⟨o,v,le _ _ e,q⟩⟩
 apart:=ok.apart
 handled:=ok.handled
 frames:=ok.frames
 globals:=ok.globals
 builtins:=ok.builtins
 stand e he:=match ok.stand e he with | .mk a b d f i=>.mk a b d f (i.imp id fun⟨o,q1,q2⟩=>⟨o,le _ _ q1,q2⟩)
 frame:=ok.frame
 bas:=ok.bas
 slack:=ok.slack
 depth:=ok.depth
 units:=ok.units
theorem EnvOk.withK{loc:List (Option W)}:EnvOk c g loc h→EnvOk (c.withK K) g loc h
 |.mk m len ns slot=>.mk m len ns fun i x w e e'=>match slot i x w e e' with | .loc a b=>.loc a b | .cell a ce l v i b=>.cell a ce l v i b
theorem CxOk.neK(ok:CxOk c)(hO:a∉c.own)(hc:∀o v,c.K a=some o→o.data≠.cell v):c.env.locals≠a∧∀x ce,x∈c.slots→c.env.kindOf x=some .cell→c.env.cells.lookup x=some ce→ce≠a:=
 ⟨fun q=>hO (q▸ok.ownL),fun x ce h1 h2 h3 q=>match(ok.cells x ce h1 h2 h3).at_ with | .inl z=>hO (q▸z) | .inr ⟨o,v,z,z'⟩=>hc o v (q▸z) z'⟩
theorem Sim.at1K(X:Sim c g st s)(ok:CxOk (c.withK K'))(hs:Same s s'){B':BH}(le:BH.Le g.B B')(hB:∀b,b≠a→B' b=g.B b)(hO:a∉c.own)(hc:∀o v,c.K a=some o→o.data≠.cell v)(k:∀b o,b≠a→s.heap.get? b=some o→s'.heap.get? b=some o)(hK:∀b,b≠a→K' b=c.K b)
  (hm:∀b,b≠a→∀(i:Nat) (o:AO),g.φ[i]?=some b→st'.mem[i]?=some o→o.live→st.mem[i]?=some o) (hl:st'.loc=st.loc) (len:st'.mem.length=st.mem.length) (ha:At_ (c.withK K') ⟨B',g.φ⟩ st' s'.heap a):Sim (c.withK K') ⟨B',g.φ⟩ st' s' where
 ok:=ok
 at_ b:=(Classical.em (b=a)).elim (fun q=>q▸ha) fun q=>have y:=X.at_ b
  y.keepG (c':=c.withK K') (g':=⟨B',g.φ⟩) rfl (fun o o0=>k b o q) (fun o e=>.of (k b o q e)) le (hB b q) (fun o e=>have z:=y.kp o ((hK b q).symm.trans e);⟨z.keep.keep fun o e=>.of (k b o q e),(hB b q).trans z.B,z.own⟩)
   (fun e=>let ⟨e1,o,e2⟩:=y.own e;⟨(hB b q).trans e1,o,k b o q e2⟩) fun i o e e' l=>have w:=hm b q i o e e' l;have z:=y.mem i o e w l;⟨e,w,ORep.keep (fun o e=>.of (k b o q e)) ⟨le,fun o0 o0 e=>e⟩,(hK b q).trans z.K,z.own⟩
 len:=X.len.trans len.symm
 env:=(hl▸let ⟨h1,h2⟩:=X.ok.neK hO hc;X.env.keep ⟨le,fun o0 o0 e=>e⟩ (fun o q=>.of (k _ o h1 q)) fun x ce h3 h4 h5 o q=>.of (k _ o (h2 x ce h3 h4 h5) q):EnvOk c ⟨B',g.φ⟩ st'.loc s'.heap).withK
 gens:=hs.gens.trans X.gens
 os:=hs.os.trans X.os
theorem Sim.newK(X:Sim c g st s)(hs:Same s s'){o:Obj}(ha:s.heap.objs.size≤a)(k:∀b ob,s.heap.get? b=some ob→s'.heap.get? b=some ob)(e:s'.heap.get? a=some o):Sim (c.withK (addK c.K a o)) g st s':=
 have f:=X.free ha
 X.at1K (X.ok.withK (addK_le f.K)) hs (fun o0 o0 e=>e) (fun o0 o0=>rfl) f.own (fun o0 o0 e=>aBn f.K e) (fun b o o0=>k b o) (fun b hb=>aKn hb) (fun o0 o0 o0 o0 o0 e o0=>e) rfl rfl
  ⟨fun o0 q=>aBn f.base q,fun o0 q=>aBn f.B q,fun o' q=>sIj (aKs (K:=c.K) (o:=o)) q▸⟨.of e,f.B,f.own⟩,fun q=>absurd q f.own,fun i o q q' l=>absurd l (f.mem i o q q')⟩
theorem Sim.stepKs(X:Sim c g st s)(ok:CxOk (c.withK K'))(hs:Same s s'){Own:Addr→Prop}(hK:∀a,Own a→∃o,c.K a=some o∧∀v,o.data≠.cell v)(hB:∀b,¬Own b→K' b=c.K b)(k:∀b ob,¬Own b→s.heap.get? b=some ob→s'.heap.get? b=some ob)
  (e:∀a,Own a→∀o',K' a=some o'→Kp Eq s'.heap a o'):Sim (c.withK K') g st s' where
 ok:=ok
 at_ b:=(Classical.em (Own b)).elim (fun q=>let ⟨o,h,_⟩:=hK b q;have z:=(X.at_ b).kp o h
   ⟨fun o0 q=>aBn z.B ((X.at_ b).base _ q).1,fun o0 q=>aBn z.B q,fun o2 r=>⟨e b q o2 r,z.B,z.own⟩,fun q=>absurd q z.own,fun i o2 q q' l=>aBn ((X.at_ b).mem i o2 q q' l).K h⟩)
  fun q=>have y:=X.at_ b
   y.keepG (c':=c.withK K') rfl (fun o o0=>k b o q) (fun o e=>.of (k b o q e)) (.refl _) rfl (fun o e=>have z:=y.kp o ((hB b q).symm.trans e);⟨z.keep.keep fun o e=>.of (k b o q e),z.B,z.own⟩)
    (fun e=>let ⟨e1,o,e2⟩:=y.own e;⟨e1,o,k b o q e2⟩) fun i o e e' l=>have z:=y.mem i o e e' l;⟨e,e',ORep.keep (fun o e=>.of (k b o q e)) (.refl g),(hB b q).trans z.K,z.own⟩
 len:=X.len
 env:=(X.env.keep (.refl g) (fun o q=>.of (k _ o (fun w=>let ⟨o2,h,_⟩:=hK _ w;((X.at_ _).kp o2 h).own X.ok.ownL) q)) fun x ce h3 h4 h5 o q=>.of (k _ o (fun w=>let ⟨o2,h,n⟩:=hK _ w;match(X.ok.cells x ce h3 h4 h5).at_ with
  |.inl z=>((X.at_ _).kp o2 h).own z
  |.inr ⟨_,v,z,z'⟩=>n v (sIj z h▸z')) q):EnvOk c g st.loc s'.heap).withK
 gens:=hs.gens.trans X.gens
 os:=hs.os.trans X.os
theorem Sim.stepK(X:Sim c g st s)(ok:CxOk (c.withK K'))(hs:Same s s'){o:Obj}(hK:c.K a=some o)(hc:∀v,o.data≠.cell v)(hB:∀b,b≠a→K' b=c.K b)(k:∀b ob,b≠a→s.heap.get? b=some ob→s'.heap.get? b=some ob)
  (e:∀o',K' a=some o'→Kp Eq s'.heap a o'):Sim (c.withK K') g st s':=X.stepKs (Own:=(· =a)) ok hs (fun o0 q=>q▸⟨o,hK,hc⟩) hB k fun o0 q o' r=>q▸e o' (q▸r)
theorem Sim.reK(X:Sim c g st s)(ok:CxOk (c.withK K'))(le:BH.Le K' c.K):Sim (c.withK K') g st s where
 ok:=ok
 at_ a:=let y:=X.at_ a
  y.keepG (c':=c.withK K') rfl (fun o0 o0 e=>e) (fun o0=>.of) (.refl _) rfl (fun o e=>let z:=y.kp o (le _ _ e);⟨z.keep,z.B,z.own⟩) y.own fun i o e e' l=>let z:=y.mem i o e e' l;⟨e,e',id,Option.eq_none_iff_forall_ne_some.mpr fun o' q=>aBn z.K (le _ _ q),z.own⟩
 len:=X.len
 env:=X.env.withK
 gens:=X.gens
 os:=X.os
theorem Sim.dropK(ok:CxOk c)(le:BH.Le c.K K)(X:Sim (c.withK K) g st s):Sim c g st s:=X.reK (c:=c.withK K) (K':=c.K) ok le
theorem Sim.lockK(X:Sim c g st s){i:Nat}{o:AO}{ob:Obj}(e:g.φ[i]?=some a)(e':st.mem[i]?=some o)(l:o.live)(h:s.heap.get? a=some ob):Sim (c.withK (addK c.K a ob)) g ⟨st.loc,st.mem.set i .dead⟩ s:=
 have z:=(X.at_ a).mem i o e e' l
 have hj:∀{b:Addr} {j:Nat} {q:AO},g.φ[j]?=some b→(st.mem.set i .dead)[j]?=some q→q.live→st.mem[j]?=some q:=fun {b j q} e1 e2 l2=>mem_set_ne (fun hj=>by subst hj;cases mem_set_self e' e2;exact l2) e2
 X.at1K (X.ok.withK (addK_le z.K)) ⟨rfl,rfl⟩ (fun o0 o0 e=>e) (fun o0 o0=>rfl) z.own (fun o0 o0 e=>aBn z.K e) (fun o0 o0 o0 e=>e) (fun b hb=>aKn hb) (fun b o0 j q e1 e2 l2=>hj e1 e2 l2) rfl (List.length_set ..)
  ⟨fun o0 q=>aBn z.B ((X.at_ a).base _ q).1,fun o0 q=>aBn z.B q,fun o' q=>sIj (aKs (K:=c.K) (o:=ob)) q▸⟨.of h,z.B,z.own⟩,fun q=>absurd q z.own,fun j q e1 e2 l2=>False.elim (by
   have:=z.inj j q e1 (hj e1 e2 l2) l2
   subst this
   cases mem_set_self e' e2;exact l2)⟩
noncomputable def delK(K:BH)(a:Addr):BH:=fun b=>if b=a then none else K b
theorem delK_self:delK K a a=none:=if_pos rfl
theorem delK_ne{b:Addr}(h:b≠a):delK K a b=K b:=if_neg h
theorem delK_le(h:K' a=none)(le:BH.Le K' K):BH.Le K' (delK K a):=fun b o e=>(if_neg fun q=>aBn h (q▸e)).trans (le b o e)
theorem Sim.unlockK(X:Sim (c.withK K) g st s)(ok:CxOk c){i:Nat}{o:AO}{ob:Obj}(hK:K a=some ob)(hn:c.K a=none)(hc:∀v,ob.data≠.cell v)(le:BH.Le c.K K)(e:g.φ[i]?=some a)(e':st.mem[i]?=some .dead)(r:ORep g s.heap i a o):Sim c g ⟨st.loc,st.mem.set i o⟩ s:=
 have z:=(X.at_ a).kp ob hK
 have hj:∀{b:Addr} {j:Nat} {q:AO},g.φ[j]?=some b→j≠i→(st.mem.set i o)[j]?=some q→st.mem[j]?=some q:=fun e1 h e2=>mem_set_ne h e2
 have hi:∀{j:Nat} {q:AO},g.φ[j]?=some a→(st.mem.set i o)[j]?=some q→q.live→j=i:=fun {j q} e1 e2 l=>Classical.byContradiction fun h=>aBn ((X.at_ a).mem j q e1 (hj e1 h e2) l).K hK
 Sim.dropK ok (delK_le hn le) (X.at1K (c:=c.withK K) (K':=delK K a) (ok.withK (delK_le hn le)) ⟨rfl,rfl⟩ (fun o0 o0 e=>e) (fun o0 o0=>rfl) z.own (fun o0 v q=>sIj hK q▸hc v) (fun o0 o0 o0 e=>e) (fun b hb=>delK_ne hb) (fun b hb j q e1 e2 l2=>hj e1 (fun h=>hb (sIj e1 (h▸e))) e2) rfl (List.length_set ..)
  ⟨fun o0 q=>aBn z.B ((X.at_ a).base _ q).1,fun o0 q=>aBn z.B q,fun o' q=>aBn (delK_self (K:=K) (a:=a)) q,fun q=>absurd q z.own,fun j q e1 e2 l2=>⟨z.B,delK_self,z.own,by
   have:=hi e1 e2 l2
   subst this
   exact mem_set_self e' e2▸r,fun j' q' f1 f2 l3=>(hi f1 f2 l3).trans (hi e1 e2 l2).symm⟩⟩)
theorem Sim.adoptK(X:Sim c g st s){o:Obj}(hK:c.K a=some o)(hf:∀vs,o.data≠.fields vs)(hc:∀v,o.data≠.cell v)(ok:CxOk (c.withK (delK c.K a))):Sim (c.withK (delK c.K a)) ⟨addK g.B a o,g.φ⟩ st s:=
 have z:=(X.at_ a).kp o hK
 X.at1K ok ⟨rfl,rfl⟩ (addK_le z.B) (fun b hb=>aKn hb) z.own (fun o0 v q=>sIj hK q▸hc v) (fun o0 o0 o0 e=>e) (fun b hb=>delK_ne hb) (fun o0 o0 o0 o0 o0 e o0=>e) rfl rfl
  ⟨fun o0 q=>aBn z.B ((X.at_ a).base _ q).1,fun o' q=>sIj (aKs (K:=g.B) (o:=o)) q▸⟨z.keep.weak,fun vs o0 q=>absurd q (hf vs)⟩,fun o0 q=>aBn (delK_self (K:=c.K) (a:=a)) q,fun q=>absurd q z.own,fun i o2 q q' l=>aBn ((X.at_ a).mem i o2 q q' l).K hK⟩
end
section
variable{c c':Cx}{g g':Gh}{st st':St}{s s':Shared}{h h':Heap}{a q:Addr}{B K K':BH}{v u ov:Value}{x y r:V}{l xs:List V}
inductive TurnP(c:Cx)(g:Gh)(Own:Addr→Prop)(IP:BH→Prop)(x:V)(v:Value)(st:St)(s:Shared):Prop
 |mk (g':Gh) (K':BH) (le:Gh.Le g g') (rep:Rep g'.B x v) (ip:IP K') (out:∀a,¬Own a→K' a=c.K a) (sim:Sim (c.withK K') g' st s)
inductive NextP(c:Cx)(g:Gh)(Own:Addr→Prop)(IP:BH→Prop)(target:Expr)(q:Addr)(x:V)(st:St)(r:Option Value)(s:Shared):Prop
 |mk (v:Value) (e:r=some v) (h:wpAny c.M c.A (letOwnedTupleGo target (.ref q) v) (fun o0 s'=>TurnP c g Own IP x v st s') (fun o0 o0=>False) s)
inductive StopP(c:Cx)(g:Gh)(Own:Addr→Prop)(st:St)(r:Option Value)(s:Shared):Prop
 |mk (e:r=none) (K':BH) (out:∀a,¬Own a→K' a=c.K a) (sim:Sim (c.withK K') g st s)
structure Walk(g:Gh)(L:BH)(target:Expr)(q:Addr)(xs:List V)(Own:Addr→Prop)(IP:Nat→BH→Prop):Prop where
 up:∀{i K K'},IP i K→(∀a o,Own a→K a=some o→K' a=some o)→IP i K'
 has:∀{i K},IP i K→∀a,Own a→∃o,K a=some o
 turn:∀{i x},xs[i]?=some x→∀{c g' st s},(∀{K'},(∀a,¬Own a→K' a=c.K a)→CxOk (c.withK K'))→BH.Le L c.K→IP i c.K→Gh.Le g g'→Sim c g' st s→wpAny c.M c.A (pyNext (.ref q)) (NextP c g' Own (IP (i+1)) target q x st) (fun o0 o0=>False) s
 stop:∀{c g' st s},(∀{K'},(∀a,¬Own a→K' a=c.K a)→CxOk (c.withK K'))→BH.Le L c.K→IP xs.length c.K→Gh.Le g g'→Sim c g' st s→wpAny c.M c.A (pyNext (.ref q)) (StopP c g' Own st) (fun o0 o0=>False) s
 iter:∀{c g' st s} {Q:Value→Shared→Prop} {E},IP 0 c.K→Sim c g' st s→Q (.ref q) s→wpAny c.M c.A (pyIter (.ref q)) Q E s
noncomputable def Turns{δ:Type}(w:World)(A:Around)(code:Code)(env:Env)(target:Expr)(it:Value)(em:Value→Sem δ)(out:δ→PySem.Flow):Prop:=∀{R:Result→Shared→Prop} (I:Nat→Shared→Prop),
 (∀n s,I n s→wpAny (model TT.prog w) A (pyNext it) (fun r s₁=>match r with
  |none=>R (.ok .next) s₁
  |some v=>wpAny (model TT.prog w) A (letOwnedTupleGo target it v) (fun o0 s₂=>wpAny (model TT.prog w) A (em v) (fun f s₃=>match out f with
    |.next=>∃m,m < n∧I m s₃
    |.ret v=>R (.ok (.ret v)) s₃
    |_=>False) (notedBy (model TT.prog w) A env fun e s'=>R (.error e) s') s₂) (fun o0 o0=>False) s₁) (fun o0 o0=>False) s)→∀n s,I n s→codeAny (model TT.prog w) A code R s
inductive StepP(c:Cx)(g:Gh)(Own:Addr→Prop)(K:BH)(Inv:Gh→BH→St→Prop)(Dn:Value→Gh→BH→St→Prop)(f:PySem.Flow)(s:Shared):Prop
 |next (e:f=.next) (g':Gh) (K':BH) (st':St) (le:Gh.Le g g') (up:BH.Le c.K K') (own:∀a o,Own a→K a=some o→K' a=some o) (sim:Sim (c.withK K') g' st' s) (inv:Inv g' K' st')
 |ret (v:Value) (e:f=.ret v) (g':Gh) (K':BH) (st':St) (le:Gh.Le g g') (up:BH.Le c.K K') (own:∀a o,Own a→K a=some o→K' a=some o) (sim:Sim (c.withK K') g' st' s) (dn:Dn v g' K' st')
inductive LoopEnd(c:Cx)(g:Gh)(Inv:Gh→BH→St→Prop)(Dn:Value→Gh→BH→St→Prop){γ:Type}(r:Ex γ)(res:Result)(s:Shared):Prop
 |next (e:res=.ok .next) (g':Gh) (K':BH) (st':St) (le:Gh.Le g g') (up:BH.Le c.K K') (sim:Sim (c.withK K') g' st' s) (inv:Inv g' K' st')
 |ret (v:Value) (e:res=.ok (.ret v)) (g':Gh) (K':BH) (st':St) (le:Gh.Le g g') (up:BH.Le c.K K') (sim:Sim (c.withK K') g' st' s) (dn:Dn v g' K' st')
 |bad (v:Value) (e:res=.error v) (b:Bad c g true r v s)
theorem Bad.drop{γ:Type}{tb:Bool}{r:Ex γ}{e:Value}(ok:CxOk c)(le:BH.Le c.K K):Bad (c.withK K) g tb r e s→Bad c g tb r e s | .mk x hr g' l sim fly=>.mk x hr g' l (sim.dropK ok le) fly
inductive LoopInv(c:Cx)(g:Gh)(IP:Nat→BH→Prop)(Inv:Nat→Gh→BH→St→Prop)(len n:Nat)(s:Shared):Prop
 |mk (i:Nat) (K:BH) (g':Gh) (st':St) (e:n=len - i) (hle:i≤len) (le:BH.Le c.K K) (ip:IP i K) (l:Gh.Le g g') (X:Sim (c.withK K) g' st' s) (inv:Inv i g' K st')
theorem loop_any{γ δ:Type}{code:Code}{target:Expr}{em:Value→Sem δ}{out:δ→PySem.Flow}{Own:Addr→Prop}{IP:Nat→BH→Prop}{L:BH}{Inv:Nat→Gh→BH→St→Prop}{Dn:Value→Gh→BH→St→Prop}{r:Ex γ}
  (T:Turns c.w c.A code c.env target (.ref q) em out) (W:Walk g L target q xs Own IP) (ok:CxOk c) (hL:BH.Le L c.K) (hO:∀a o,c.K a=some o→¬Own a)
  (hi:∀{i g₁ g₂ K K' st},Gh.Le g₁ g₂→(∀a,¬Own a→K' a=K a)→Inv i g₁ K st→Inv i g₂ K' st)
  (body:∀{i x K g₁ v st s},xs[i]?=some x→BH.Le c.K K→Gh.Le g g₁→Inv i g₁ K st→Rep g₁.B x v→Sim (c.withK K) g₁ st s→wpAny c.M c.A (em v) (fun f=>StepP c g₁ Own K (Inv (i+1)) Dn (out f)) (Bad (c.withK K) g₁ false r) s)
  (le:BH.Le c.K K) (ip:IP 0 K) (X:Sim (c.withK K) g st s) (inv:Inv 0 g K st):codeAny c.M c.A code (LoopEnd c g (Inv xs.length) Dn r) s:=by
 refine T (LoopInv c g IP Inv xs.length) (fun n s z=>?_) xs.length s (.mk 0 K g st rfl (Nat.zero_le _) le ip (.refl _) X inv)
 cases z with
 |mk i K g' st' e hle le ip l X inv=>
 have up:∀{K'},(∀a,¬Own a→K' a=K a)→BH.Le c.K K':=fun h a o q=>(h a (hO a o q)).trans (le a o q)
 have okK:∀{K'},(∀a,¬Own a→K' a=K a)→CxOk ((c.withK K).withK K'):=fun h=>ok.withK (up h)
 rcases Nat.lt_or_ge i xs.length with hlt | hge
 ·refine wpAny_mono (W.turn (c:=c.withK K) (gqe hlt) okK (hL.trans le) ip l X) (fun r s₁ z=>?_) fun o0 o0 z=>z
  obtain⟨v,rfl,z⟩:=z
  refine wpAny_mono z (fun o0 s₂ z=>?_) fun o0 o0 z=>z
  obtain⟨g₂,K₂,l₂,rep,ip₂,out,X₂⟩:=z
  refine wpAny_mono (body (gqe hlt) (up out) (l.trans l₂) (hi l₂ out inv) rep X₂) (fun f s₃ z=>?_) fun ev s₃ z=>notedBy_of (c:=c.withK K₂) (fun s₄ w=>.bad ev rfl (Bad.up (l.trans l₂) (Bad.drop ok (up out) w))) z
  rcases z with⟨eo,g₃,K₃,st₃,l₃,up₃,own₃,X₃,inv₃⟩ | ⟨w,eo,g₃,K₃,st₃,l₃,up₃,own₃,X₃,dn⟩<;>rw[eo]
  ·exact⟨xs.length - (i+1),e▸Nat.sub_succ_lt_self _ _ hlt,.mk (i+1) K₃ g₃ st₃ rfl hlt up₃ (W.up ip₂ own₃) ((l.trans l₂).trans l₃) X₃ inv₃⟩
  ·exact .ret w rfl g₃ K₃ st₃ ((l.trans l₂).trans l₃) up₃ X₃ dn
 ·cases Nat.le_antisymm hle hge
  refine wpAny_mono (W.stop (c:=c.withK K) okK (hL.trans le) ip l X) (fun r s₁ z=>?_) fun o0 o0 z=>z.elim
  obtain⟨rfl,K₂,out,X₂⟩:=z
  exact .next rfl g' K₂ st' l (up out) X₂ (hi (.refl _) out inv)
end
section
theorem wpAny_eq{α:Type}{M:Model}{A:Around}{t t':Sem α}{Q:α→Shared→Prop}{E:Value→Shared→Prop}{s:Shared}(e:t=t')(h:wpAny M A t' Q E s):wpAny M A t Q E s:=e▸h
section
variable{w:World}{A:Around}{env:Env}{target iter elt:Expr}{ifs:List Expr}{body:List Stmt}{scope:Scope}{pos:Pos}{it acc:Value}
theorem for_turns:Turns w A (.forLoop target it body [] env) env target it (fun v=>assign target env v >>=fun o0=>PySem.execs body env) id:=fun {R} I turn n s h=>by
 refine codeAny_loop' rfl I (fun n s hI=>?_) n h
 show wpAny _ A ((forTurn target it body [] env).onRaise (fun x=>do noteFrame x env;theTreesLotGoes x)) _ _ s
 refine wpAny_noted ?_
 unfold forTurn
 refine wpAny_bind (wpAny_standAt (wpAny_bind (wpAny_onRaise (wpAny_mono (turn n s hI) (fun r s₁ h₁=>?_) fun o0 o0 z=>z.elim))))
 cases r with
 |none=>exact wpAny_pure (.inr ⟨rfl,codeAny_block (wpAny_execs_nil h₁)⟩)
 |some v=>
  refine wpAny_bind (wpAny_mono h₁ (fun o0 s₂ h₂=>wpAny_eq (bind_assoc ..).symm (wpAny_bind (wpAny_mono h₂ (fun f s₃ h₃=>?_) fun o0 o0 z=>z))) fun o0 o0 z=>z.elim)
  cases f with
  |next=>exact wpAny_pure (.inl ⟨rfl,h₃⟩)
  |ret v=>exact wpAny_pure h₃
  |_=>exact h₃.elim
@[reducible] noncomputable def compEm(target elt:Expr)(ifs:List Expr)(acc:Value)(env:Env)(v:Value):Sem Unit:=assign target env v >>=fun o0=>(forIn ifs true fun c r=>if r=true then do let ok←isTrue c env (eval c env);pure (ForInStep.yield ok)else pure (ForInStep.yield r)) >>=fun ok=>
 if ok=true then eval elt env >>=fun x=>call (.builtin "list.append") [acc,x] >>=fun o0=>pure ()else pure ()
theorem comp_turns_of{δ:Type}{gens:List Comprehension}{d:Nat}{p:Pos}{em:Value→Sem δ}(heq:compTurn (.ListComp elt gens scope pos) d it acc env=(standAt p >>=fun o0=>pyNext it >>=fun r=>match r with
   |none=>pure (.done .next)
   |some v=>letOwnedTupleGo target it v >>=fun o0=>em v >>=fun o0=>again (.compLoop (.ListComp elt gens scope pos) d it acc env))):
  Turns w A (.compLoop (.ListComp elt gens scope pos) d it acc env) env target it em (fun o0=>.next):=fun {R} I turn n s h=>by
 refine codeAny_loop rfl I (fun n s hI=>?_) n h
 show wpAny _ A ((compTurn (.ListComp elt gens scope pos) d it acc env).onRaise (fun x=>do noteFrame x env;theTreesLotGoes x)) _ _ s
 refine wpAny_noted ?_
 rw[heq]
 refine wpAny_bind (wpAny_standAt (wpAny_bind (wpAny_mono (turn n s hI) (fun r s₁ h₁=>?_) fun o0 o0 z=>z.elim)))
 cases r with
 |none=>exact wpAny_pure h₁
 |some v=>exact wpAny_bind (wpAny_mono h₁ (fun o0 s₂ h₂=>wpAny_bind (wpAny_mono h₂ (fun f s₃ h₃=>wpAny_pure ⟨rfl,h₃⟩) fun o0 o0 z=>z)) fun o0 o0 z=>z.elim)
theorem turn_eq{β:Type}{p:Pos}{f f':Value→Sem β}{k:Sem β}(h:∀v,f v=f' v):(standAt p >>=fun o0=>pyNext it >>=fun r=>match r with | none=>k | some v=>letOwnedTupleGo target it v >>=fun o0=>f v)=(standAt p >>=fun o0=>pyNext it >>=fun r=>match r with | none=>k | some v=>letOwnedTupleGo target it v >>=fun o0=>f' v):=by
 rw[funext h]
theorem comp_turns:Turns w A (.compLoop (.ListComp elt [⟨target,iter,ifs,0⟩] scope pos) 0 it acc env) env target it (compEm target elt ifs acc env) (fun o0=>.next):=comp_turns_of ((compTurn_list ..).trans (turn_eq fun v=>by
 refine .trans ?_ (bind_assoc ..).symm
 refine congrArg _ (funext fun o0=>.trans ?_ (bind_assoc ..).symm)
 refine congrArg _ (funext fun ok=>?_)
 cases ok<;>rfl))
end
end
section
variable{c c':Cx}{g g':Gh}{st st':St}{s s':Shared}{h h':Heap}{a q la:Addr}{B K K':BH}{v u ov:Value}{x y r:V}{l xs:List V}{target:Expr}
theorem KpP.fields{o:Obj}{vs:Array Value}(hd:o.data=.fields vs):KpP c g h a o→h.get? a=some o
 |⟨.mk ⟨_,_,_,_⟩ e e1 e2 e3 e4,_,_⟩=>by
  obtain⟨c1,d1,t1,s1⟩:=o
  cases e1;cases e2;cases (e3:t1=_);cases (e4 ⟨vs,hd⟩:_=s1);exact e
noncomputable def owned:List String:=["enumerate", "zip", "dict_itemiterator", "dict_reverseitemiterator", "odict_iterator", "itertools.zip_longest", "itertools.pairwise"]
theorem letGo_none{nm:String}{o:Obj}{vs:Array Value}{M:Model}{A:Around}{E:Value→Shared→Prop}{Q:Unit→Shared→Prop}(e:s.heap.get? q=some o)(h1:o.cls=.type nm)(h2:o.data=.fields vs)(h3:owned.contains nm=false)(hQ:Q () s):wpAny M A (letOwnedTupleGo target (.ref q) v) Q E s:=by
 have key:wpAny M A (letOwnedTupleGo (.Tuple [] 0 target.pos) (.ref q) v) Q E s:=by
  cases v with
  |ref a=>
   obtain⟨c1,d1,t1,s1⟩:=o
   cases h1;cases h2
   refine wpAny_bind (wpAny_load e ?_)
   exact wpAny_eq (if_neg fun z=>Bool.noConfusion (h3.symm.trans (Bool.and_eq_true _ _▸z).1)) (wpAny_pure hQ)
  |_=>exact wpAny_pure hQ
 revert key
 generalize target=t
 intro key
 cases t<;>first | exact key | exact wpAny_pure hQ
inductive SeqIt(q la:Addr)(i:Nat)(K:BH):Prop
 |mk (o:Obj) (e:K q=some o) (cls:o.cls=.type "list_iterator") (dat:o.data=.fields #[.ref la,.int i 0])
theorem seq_walk{L:BH}{vs:Array Value}(hr:Reps g.B xs vs.toList)(hl:∀{c g' st s},Gh.Le g g'→BH.Le L c.K→Sim c g' st s→s.heap.IsList la vs):Walk g L target q xs (· =q) (SeqIt q la) where
 up:=fun⟨o,e,c1,d⟩ k=>⟨o,k _ _ rfl e,c1,d⟩
 has:=fun⟨o,e,_,_⟩ a h=>⟨o,h▸e⟩
 turn:=fun {i x} hx {c g' st s} ok hL ⟨o,e,c1,d⟩ le X=>by
  have hget:=((X.at_ q).kp o e).fields d
  obtain⟨v,h1,h2⟩:=hr.get hx
  refine wpAny_pyNext_list_item (x:=v) ⟨o,hget,c1,d⟩ (hl le hL X) (Array.getElem?_toList.symm.trans h1) fun h' hi hs=>?_
  obtain⟨o',e',c2,d'⟩:=hi
  have out:∀b,¬b=q→addK c.K q o' b=c.K b:=fun b hb=>aKn hb
  exact .mk v rfl (letGo_none e' c2 d' (by decide+kernel) (.mk g' _ (.refl _) (Rep.mono le.1 h2) ⟨o',aKs,c2,d'⟩ out
   (X.stepK (s':={s with heap:=h'}) (ok out) ⟨rfl,rfl⟩ e (fun w z=>Data.noConfusion (d.symm.trans z)) out (fun b ob hb z=>(hs.2 b hb).trans z) fun o2 z=>sIj (aKs (K:=c.K) (o:=o')) z▸.of e')))
 stop:=fun {c g' st s} ok hL ⟨o,e,c1,d⟩ le X=>by
  have hget:=((X.at_ q).kp o e).fields d
  have out:∀b,¬b=q→delK c.K q b=c.K b:=fun b hb=>delK_ne hb
  refine wpAny_pyNext_list_end X.ok.handled ⟨o,hget,c1,d⟩ (hl le hL X) (Array.getElem?_eq_none (Nat.le_of_eq hr.size)) fun h' he=>?_
  exact .mk rfl _ out (X.stepK (s':={s with heap:=h'}) (ok out) ⟨rfl,rfl⟩ e (fun w z=>Data.noConfusion (d.symm.trans z)) out (fun b ob hb z=>he b ob hb z) fun o2 z=>aBn delK_self z)
 iter:=fun⟨o,e,c1,d⟩ X hQ=>wpAny_pyIter_listiter ⟨o,((X.at_ q).kp o e).fields d,c1,d⟩ hQ
end
section
variable{c c':Cx}{g g':Gh}{st st':St}{s s':Shared}{h h':Heap}{a q la:Addr}{B K K':BH}{v u ov:Value}{x y r:V}{l xs:List V}{target:Expr}
@[reducible] noncomputable def rangeIt(x left:Int):Obj:={cls:=.type "range_iterator",dict:=none,data:=.fields #[rawInt x,rawInt left,rawInt 1],slots:=#[]}
noncomputable def RangeIt(q:Addr)(a:Int)(n i:Nat)(K:BH):Prop:=K q=some (rangeIt (a+i) (n - i:Int))
theorem range_get{a b:Int}{i:Nat}(h:(range a b)[i]?=some x):x=.int (a+i)∧i < (b - a).toNat:=by
 obtain⟨k,h1,rfl⟩:=Option.map_eq_some_iff.mp (List.getElem?_map.symm.trans h)
 obtain⟨h2,h3⟩:=List.getElem?_eq_some_iff.mp h1
 have h4:i=k:=(List.getElem_range h2).symm.trans h3
 exact⟨h4▸rfl,Nat.lt_of_lt_of_eq h2 List.length_range⟩
theorem range_length{a b:Int}:(range a b).length=(b - a).toNat:=(lmp ..).trans List.length_range
theorem range_walk{L:BH}{a b:Int}:Walk g L target q (range a b) (· =q) (RangeIt q a (b - a).toNat) where
 up:=fun e k=>k _ _ rfl e
 has:=fun e a h=>⟨_,h▸e⟩
 turn:=fun {i x} hx {c g' st s} ok _ (e:c.K q=some _) le X=>by
  obtain⟨rfl,hlt⟩:=range_get hx
  have hget:=((X.at_ q).kp _ e).fields rfl
  refine wpAny_pyNext_range_item hget (by lia) fun h' hi hs=>?_
  have hi:h'.get? q=some (rangeIt (a+(i+1:Nat)) ((b - a).toNat - (i+1:Nat):Int)):=Eq.trans hi (congrArg some (by rw[Int.natCast_succ,←Int.add_assoc,Int.sub_sub]))
  have out:∀d,¬d=q→addK c.K q (rangeIt (a+(i+1:Nat)) ((b - a).toNat - (i+1:Nat):Int)) d=c.K d:=fun d hd=>aKn hd
  exact .mk _ rfl (letGo_none hi rfl rfl (by decide+kernel) (.mk g' _ (.refl _) ⟨_,rfl⟩ aKs out
   (X.stepK (s':={s with heap:=h',toks:=s.toks+1}) (ok out) ⟨rfl,rfl⟩ e (fun w z=>Data.noConfusion z) (fun d hd=>aKn hd) (fun d ob hd z=>(hs.2 d hd).trans z) fun o2 z=>sIj aKs z▸.of hi)))
 stop:=fun {c g' st s} ok _ (e:c.K q=some _) le X=>by
  have hget:=((X.at_ q).kp _ e).fields rfl
  have out:∀d,¬d=q→delK c.K q d=c.K d:=fun d hd=>delK_ne hd
  refine wpAny_pyNext_range_end X.ok.handled hget (by rw[range_length];lia) fun h' he=>?_
  exact .mk rfl _ out (X.stepK (s':={s with heap:=h'}) (ok out) ⟨rfl,rfl⟩ e (fun w z=>Data.noConfusion z) (fun d hd=>delK_ne hd) (fun d ob hd z=>he d ob hd z) fun o2 z=>aBn delK_self z)
 iter:=fun e X hQ=>wpAny_pyIter_rangeiter (((X.at_ q).kp _ e).fields rfl) hQ
end
section
variable{c c':Cx}{g g':Gh}{st st':St}{s s':Shared}{h h':Heap}{a q la it:Addr}{B K K':BH}{v u ov:Value}{x y r:V}{l xs:List V}{target:Expr}
@[reducible] noncomputable def enumObj(it:Addr)(i:Int)(old:Value):Obj:={cls:=.type "enumerate",dict:=none,data:=.fields #[.none,.bool false,.ref it,rawInt i,.none,old],slots:=#[]}
inductive EnumIt(q it la:Addr)(i:Nat)(K:BH):Prop
 |mk (old:Value) (e:K q=some (enumObj it (i:Int) old)) (o:Obj) (e2:K it=some o) (cls:o.cls=.type "list_iterator") (dat:o.data=.fields #[.ref la,.int i 0])
theorem enumFrom_get{xs:List V}:∀{k i:Nat} {x:V},(enumFrom k xs)[i]?=some x→∃y,xs[i]?=some y∧x=.tup [.int ((k+i:Nat):Int),y]:=
 List.rec (motive:=fun xs=>∀{k i:Nat} {x:V},(enumFrom k xs)[i]?=some x→∃y,xs[i]?=some y∧x=.tup [.int ((k+i:Nat):Int),y]) (fun {o0 o0 o0} h=>nomatch h) (fun y l ih {k i x} h=>match i,h with
  |0,h=>⟨y,rfl,(Option.some.inj h).symm⟩
  |i+1,h=>let ⟨z,h1,h2⟩:=ih h;⟨z,h1,h2.trans (by rw[Nat.add_right_comm];rfl)⟩) xs
theorem enumFrom_length{xs:List V}:∀{k:Nat},(enumFrom k xs).length=xs.length:=List.rec (motive:=fun xs=>∀{k:Nat},(enumFrom k xs).length=xs.length) rfl (fun o0 o0 ih {o0}=>congrArg Nat.succ ih) xs
noncomputable def EnumOwn(q it b:Addr):Prop:=b=q∨b=it
theorem EnumIt.cell{i:Nat}:EnumIt q it la i K→∀b,EnumOwn q it b→∃o,K b=some o∧∀v,o.data≠.cell v
 |⟨old,e,o,e2,_,d⟩,b,.inl z=>⟨_,z▸e,fun o0 z=>Data.noConfusion z⟩
 |⟨old,e,o,e2,_,d⟩,b,.inr z=>⟨_,z▸e2,fun o0 z=>Data.noConfusion (d.symm.trans z)⟩
theorem enum_walk{L:BH}{elts:List Expr}{x1}{tpos:Pos}{vs:Array Value}(hne:q≠it)(hr:Reps g.B xs vs.toList)(hl:∀{c g' st s},Gh.Le g g'→BH.Le L c.K→Sim c g' st s→s.heap.IsList la vs):
  Walk g L (.Tuple elts x1 tpos) q (enumFrom 0 xs) (EnumOwn q it) (EnumIt q it la) where
 up:=fun⟨old,e,o,e2,c1,d⟩ k=>⟨old,k _ _ (.inl rfl) e,o,k _ _ (.inr rfl) e2,c1,d⟩
 has:=fun I a h=>let ⟨o,e,_⟩:=I.cell a h;⟨o,e⟩
 turn:=fun {i x} hx {c g' st s} ok hL I le X=>by
  have own:=I.cell
  obtain⟨old,e,o,e2,c1,d⟩:=I
  obtain⟨y,hy,rfl⟩:=enumFrom_get hx
  obtain⟨v,hv1,hv2⟩:=hr.get hy
  have he:=((X.at_ q).kp _ e).fields rfl
  have hi:=((X.at_ it).kp _ e2).fields d
  refine wpAny_pyNext_enum_item (x:=v) he ⟨o,hi,c1,d⟩ (hl le hL X) (Array.getElem?_toList.symm.trans hv1) hne fun h1 he1 hit1 ht1 hz1 hk1=>?_
  refine .mk _ rfl (wpAny_letOwnedTupleGo_enum he1 fun h2 he2 hs2=>?_)
  obtain⟨o2,ho,c2,d2⟩:=hit1
  obtain⟨g2,l2,X1,rep⟩:=X.newTuple (s':={s with heap:=s.heap.push {cls:=.type "tuple",data:=.seq #[.int i s.toks,v]}}) ⟨rfl,rfl⟩ rfl (l:=[.int ((0+i:Nat):Int),y]) (vs:=#[.int i s.toks,v]) (Reps.cons (x:=.int _) ⟨_,congrArg (Value.int · _) (congrArg Int.ofNat (Nat.zero_add i).symm)⟩ (.one (Rep.mono le.1 hv2))) (bTl rfl)
  have out:∀d,¬EnumOwn q it d→addK (addK c.K q (enumObj it ((i:Int)+1) v)) it o2 d=c.K d:=fun d hd=>(aKn fun z=>hd (.inr z)).trans (aKn fun z=>hd (.inl z))
  refine .mk g2 _ l2 rep ⟨v,(aKn hne).trans aKs,o2,aKs,c2,d2⟩ out
   (X1.stepKs (s':={s with heap:=h2,toks:=s.toks+1}) (ok out) ⟨rfl,rfl⟩ own out (fun b ob hb z=>(hs2.2 b fun w=>hb (.inl w)).trans ?_) fun b hb o' z=>.of ?_)
  ·by_cases hz:b=s.heap.objs.size
   ·subst hz;exact ht1.trans ((Heap.get?_push_size _ rfl).symm.trans z)
   ·exact hk1 b ob (fun w=>hb (.inl w)) (fun w=>hb (.inr w)) ((Heap.get?_push_ne _ _ _ hz).symm.trans z)
  ·rcases hb with rfl | rfl
   ·exact sIj ((aKn hne).trans aKs) z▸he2
   ·exact sIj aKs z▸(hs2.2 b (Ne.symm hne)).trans ho
 stop:=fun {c g' st s} ok hL I le X=>by
  obtain⟨old,e,o,e2,c1,d⟩:=I
  have out:∀d,¬EnumOwn q it d→delK c.K it d=c.K d:=fun d hd=>delK_ne fun z=>hd (.inr z)
  refine wpAny_pyNext_enum_end X.ok.handled (((X.at_ q).kp _ e).fields rfl) ⟨o,((X.at_ it).kp _ e2).fields d,c1,d⟩ (hl le hL X) (Array.getElem?_eq_none (by rw[enumFrom_length];exact Nat.le_of_eq hr.size)) fun h' he=>?_
  exact .mk rfl _ out (X.stepK (s':={s with heap:=h'}) (ok out) ⟨rfl,rfl⟩ e2 (fun w z=>Data.noConfusion (d.symm.trans z)) (fun b hb=>delK_ne hb) (fun b ob hb z=>he b ob hb z) fun o2 z=>aBn delK_self z)
 iter:=fun⟨old,e,_,_,_,_⟩ X hQ=>wpAny_pyIter_enum (((X.at_ q).kp _ e).fields rfl) hQ
end
section
variable{v₀:V}{c c':Cx}{g g':Gh}{st st':St}{s s':Shared}{h h':Heap}{ad q la:Addr}{B K K' L:BH}{v u ov:Value}{x y r:V}{l xs:List V}{target:Expr}
theorem BH.Le.of_none{a:Addr}{o:Obj}(h:K a=none)(le:BH.Le K L):BH.Le K (addK L a o):=fun b ob e=>(aKn fun q=>aBn h (q▸e)).trans (le b ob e)
inductive ShutP(c:Cx)(g:Gh)(w:W)(xs:List V)(st:St)(s:Shared):Prop
 |mk (st':St) (e:shutIt w xs st=some (.ok (),st')) (loc:st'.loc=st.loc) (sim:Sim c g st' s)
noncomputable def ShutOk(c:Cx)(g:Gh)(L:BH)(w:W)(xs:List V):Prop:=∀{K₀ K g' st s},CxOk (c.withK K₀)→BH.Le K₀ K→BH.Le L K→(∀a o,L a=some o→c.K a=none→K₀ a=none)→Gh.Le g g'→Sim (c.withK K) g' st s→ShutP (c.withK K₀) g' w xs st s
theorem shut_none:ShutOk c g L (.v v₀) xs:=fun {K₀ K g' st s} ok le o0 o0 o0 X=>⟨_,rfl,rfl,Sim.dropK (c:=c.withK K₀) ok le X⟩
inductive GoesP(c:Cx)(g:Gh)(target:Expr){γ:Type}(k:W→List V→St→R γ)(r:Ex γ)(it:Value)(s:Shared):Prop
 |mk (w:W) (xs:List V) (st:St) (e:k w xs st=some r) (g':Gh) (le:Gh.Le g g') (q:Addr) (eq:it=.ref q) (L K:BH) (Own:Addr→Prop) (IP:Nat→BH→Prop) (walk:Walk g' L target q xs Own IP)
  (cL:BH.Le c.K L) (LK:BH.Le L K) (out:∀a o,L a=some o→¬Own a) (ip:IP 0 K) (sim:Sim (c.withK K) g' st s) (len:xs.length≤sizeLine)
  (shut:ShutOk c g' L w xs)
theorem GoesP.up{γ:Type}{k:W→List V→St→R γ}{r:Ex γ}{it:Value}(l:Gh.Le g g'):GoesP c g' target k r it s→GoesP c g target k r it s
 |.mk w xs st e g'' le q eq L K Own IP walk cL LK out ip sim len shut=>.mk w xs st e g'' (l.trans le) q eq L K Own IP walk cL LK out ip sim len shut
structure IT(c:Cx)(g:Gh)(target iter:Expr)(it:It):Prop where
 h:∀{g₁},Gh.Le g g₁→∀{st s},Sim c g₁ st s→∀{γ:Type} {k:W→List V→St→R γ} {r},cit c.C it k st=some r→
  wpAny c.M c.A (eval iter c.env) (fun xv s₁=>wpAny c.M c.A (pyIter xv) (GoesP c g₁ target k r) (Bad c g₁ false r) s₁) (Bad c g₁ false r) s
section
variable{γ:Type}{k:W→List V→St→R γ}{rr:Ex γ}{E:Value→Shared→Prop}
theorem seq_goes{w:W}{vs:Array Value}(hr:Reps g.B xs vs.toList)(hl:∀{c' g' st s},Gh.Le g g'→BH.Le L c'.K→Sim c' g' st s→s.heap.IsList la vs)(cL:BH.Le c.K L)(XL:Sim (c.withK L) g st s)(len:xs.length≤sizeLine)
  (shut:ShutOk c g L w xs) (e:k w xs st=some rr):wpAny c.M c.A (pyIter (.ref la)) (GoesP c g target k rr) E s:=
 have f:=XL.free (Nat.le_refl _)
 wpAny_pyIter_list (hl (.refl _) (fun o0 o0 e=>e) XL) (.mk w xs st e g (.refl _) _ rfl L _ _ _ (seq_walk hr hl) cL (addK_le f.K) (fun a o e z=>aBn f.K (z▸e)) ⟨_,aKs,rfl,rfl⟩
  (XL.newK (s':={s with heap:=s.heap.push {cls:=.type "list_iterator",data:=.fields #[.ref la,.int 0 0]}}) ⟨rfl,rfl⟩ (Nat.le_refl _) (fun o0 o0 e=>Heap.get?_push_of_some _ e) (Heap.get?_push_size _ rfl)) len shut)
theorem frozen_list{vs:Array Value}{o:Obj}{n:Nat}(hb:g.B la=some o)(cls:o.cls=.type "list")(dat:o.data=.seq vs n)(le:Gh.Le g g')(X:Sim c g' st s):s.heap.IsList la vs:=
 match((X.at_ la).frz o (le.1 _ _ hb)).keep.data fun o0 q=>Data.noConfusion (dat.symm.trans q)with | .mk o' e c1 _ d _=>⟨o',e,c1.trans cls,n,d.symm.trans dat⟩
theorem vL_eq{z:V}(e:vL z=some l):z=.list l:=by
 cases z with
 |list l'=>exact congrArg V.list (Option.some.inj e)
 |_=>exact nomatch e
theorem dead_of(X:Sim c g st s){i:Nat}{a:Addr}{o:Obj}(hφ:g.φ[i]?=some a)(hK:c.K a=some o):st.mem[i]?=some .dead:=by
 have hi:i < st.mem.length:=X.len▸(List.getElem?_eq_some_iff.mp hφ).1
 have e:=gqe hi
 have h:¬st.mem[i].live:=fun l=>aBn ((X.at_ a).mem i _ hφ e l).K hK
 generalize st.mem[i]=o at h e
 cases o with
 |dead=>exact e
 |_=>exact absurd trivial h
theorem open_goes(X:Sim c g st s){w:W}(hv:RepW g w v)(e:bR (openIt w st) (k w)=some rr):wpAny c.M c.A (pyIter v) (GoesP c g target k rr) E s:=by
 cases w with
 |v z=>
  obtain⟨r',e1,e2⟩:=bindR_get e
  obtain⟨l,e3,rfl⟩:=map_get e1
  cases vL_eq e3
  obtain⟨a,o,vs,n,rfl,hb,cls,dat,reps,len,_⟩:=hv
  exact seq_goes (L:=c.K) reps (fun le o0 X=>frozen_list hb cls dat le X) (fun o0 o0 e=>e) X len shut_none e2
 |l i=>
  obtain⟨r',e1,e2⟩:=bindR_get e
  obtain⟨l,e3,rfl⟩:=map_get e1
  obtain⟨a,hφ,rfl⟩:=hv
  have hm:=aoL_some e3
  have z:=(X.at_ a).mem i _ hφ hm trivial
  obtain⟨ob,vs,n,h1,h2,h3,h4,h5,h6⟩:=z.rep
  have nc:∀u,ob.data≠.cell u:=fun u q=>Data.noConfusion (h3.symm.trans q)
  have X':=X.lockK hφ hm trivial h1
  refine seq_goes (L:=addK c.K a ob) h4 (fun le hL Y=>?_) (addK_le z.K) X' (tSz h5) (fun {K₀ K g'' st'' s''} ok lk lL hn le Y=>?_) e2
  ·exact match((Y.at_ a).kp ob (hL _ _ aKs)).keep with | .mk o' e c1 _ d _=>⟨o',e,c1.trans h2,n,d.symm.trans h3⟩
  ·have hφ':=le.2 _ _ hφ
   have hK:=lL _ _ aKs
   have hd:st''.mem[i]?=some .dead:=dead_of Y hφ' hK
   exact match((Y.at_ a).kp ob hK).keep with | .mk o' e c1 c2 d _=>⟨_,rfl,rfl,Sim.unlockK (c:=c.withK K₀) Y ok hK (hn _ _ aKs z.K) nc lk hφ' hd (.mk o' vs n e (c1.trans h2) (d.symm.trans h3) (h4.mono le.1) h5 (c2.trans h6))⟩
 |o cl i=>cases e
theorem x_it{iter:Expr}{a:X}(h:SX c g iter a):IT c g target iter (.x a):=⟨fun {g₁} l {st s} X {γ k r} e=>
 wpAny_mono (h.h l X e) (fun v s' z=>match z with | .mk w g' st' le sim q e=>wpAny_mono (open_goes sim q e) (fun o0 o0=>GoesP.up le) fun o0 o0 z=>z) fun o0 o0 z=>z⟩
theorem range_goes{a b:Int}{t u v:Tok}{ra:Addr}(X:Sim c g st s)(ha:0≤a)(ha':a≤top)(hb:0≤b)(hb':b≤top)(hr:IsRange s.heap ra a b 1 t u v)(e:k (.v .none) (range a b) st=some rr):wpAny c.M c.A (pyIter (.ref ra)) (GoesP c g target k rr) E s:=by
 have f:=X.free (Nat.le_refl _)
 rw[top_eq]at ha' hb'
 refine wpAny_pyIter_range hr (small_one (by lia) (by lia) (by lia) (by lia)) (.mk (.v .none) _ st e g (.refl _) _ rfl c.K _ _ _ (range_walk (a:=a) (b:=b)) (fun o0 o0 e=>e) (addK_le f.K) (fun a o e z=>aBn f.K (z▸e)) (aKs.trans (congrArg some ?_))
  (X.newK (s':={s with heap:=s.heap.push {cls:=.type "range_iterator",data:=.fields #[rawInt a,rawInt (Builtin.Range.rangeSize a b 1),rawInt 1]}}) ⟨rfl,rfl⟩ (Nat.le_refl _) (fun o0 o0 e=>Heap.get?_push_of_some _ e) (Heap.get?_push_size _ rfl)) (by rw[range_length,sizeLine_eq'];lia) shut_none)
 show rangeIt a (Builtin.Range.rangeSize a b 1)=rangeIt (a+(0:Nat)) ((b - a).toNat - (0:Nat):Int)
 rw[rangeSize_nat,Int.natCast_zero,Int.add_zero,Int.sub_zero]
theorem rng_it{npos pos:Pos}{es:List Expr}{as:List X}(b:BltOk c "range" (.type "range"))(hs:SXs c g es as):IT c g target (.Call (.Name "range" npos) es [] pos) (.rng as):=⟨fun {g₁} l {st s} X {γ k r} e=>
 wpAny_bind (b.named X (callWith_any (first:=[]) hs.plain (spliced_sx hs (.refl _)) (keeps_machine nofun) l X e fun g' ws vs st' s' le sim hws q=>by
  obtain⟨xs,q1,q2⟩:=optK_get q
  obtain⟨hr,_⟩:=hws
  cases hr with
  |nil=>cases q1
  |cons h1 hr=>
   cases hr with
   |nil=>
    obtain⟨n,e1,e2⟩:=bGt q1
    obtain⟨⟨h0,h2⟩,e3⟩:=ite_get e2
    cases e3
    obtain⟨t,rfl⟩:=asInt_rep e1 h1
    exact call_range_1 (wpAny_mono (range_goes (sim.grow (s':={s' with heap:=s'.heap.push {cls:=.type "range",data:=.fields #[.int 0 s'.toks,.int n t,.int 1 (s'.toks+1)]},toks:=s'.toks+1+1}) ⟨rfl,rfl⟩ fun o0 o0 e=>Heap.get?_push_of_some _ e) (Int.le_refl _) (Int.natCast_nonneg _) h0 h2 (Heap.get?_push_size _ rfl) q2) (fun o0 o0=>GoesP.up le) fun o0 o0 z=>z)
   |cons h2 hr=>
    cases hr with
    |nil=>
     obtain⟨m,e1,e2⟩:=bGt q1
     obtain⟨n,e3,e2⟩:=bGt e2
     obtain⟨⟨h3,h4,h5,h6⟩,e5⟩:=ite_get e2
     cases e5
     obtain⟨t,rfl⟩:=asInt_rep e1 h1
     obtain⟨t',rfl⟩:=asInt_rep e3 h2
     exact call_range_2 (wpAny_mono (range_goes (sim.grow (s':={s' with heap:=s'.heap.push {cls:=.type "range",data:=.fields #[.int m t,.int n t',.int 1 s'.toks]},toks:=s'.toks+1}) ⟨rfl,rfl⟩ fun o0 o0 e=>Heap.get?_push_of_some _ e) h3 h4 h5 h6 (Heap.get?_push_size _ rfl) q2) (fun o0 o0=>GoesP.up le) fun o0 o0 z=>z)
    |cons h3 hr=>cases q1))⟩
theorem push_one{h':Heap}{oi:Obj}{b:Addr}{ob:Obj}(hf:oi.isFreed=false)(hi:h'.get? h.objs.size=some oi)(hk:∀b o,h.get? b=some o→h'.get? b=some o)(e:(h.push oi).get? b=some ob):h'.get? b=some ob:=by
 by_cases hb:b=h.objs.size
 ·subst hb;exact hi.trans ((Heap.get?_push_size _ hf).symm.trans e)
 ·exact hk _ _ ((Heap.get?_push_ne _ _ _ hb).symm.trans e)
theorem enum_it{npos pos tpos:Pos}{es:List Expr}{x1}{e:Expr}{a:X}(b:BltOk c "enumerate" (.type "enumerate"))(hs:isStar e=false)(hx:SX c g e a):IT c g (.Tuple es x1 tpos) (.Call (.Name "enumerate" npos) [e] [] pos) (.enum a):=⟨fun {g₁} l {st s} X {γ k r} q=>
 wpAny_bind (b.named X (callWith_any (first:=[]) (es:=[e]) (fun e' he=>List.mem_singleton.mp he▸hs) (spliced_one hs hx) (keeps_machine nofun) l X q fun g' w vs st' s' le sim hws q=>by
  obtain⟨v,rfl,hv⟩:=hws
  obtain⟨xs,q1,q2⟩:=optK_get q
  obtain⟨z,q3,q4⟩:=bGt q1
  cases vL_eq q4
  obtain⟨la,o,vs,n,rfl,hb,cls,dat,reps,len,_⟩:=asV_rep q3 hv
  refine call_enumerate_list (frozen_list hb cls dat (.refl _) sim) fun hh he hi hz hkeep=>?_
  obtain⟨oi,hoi,hi1,hi2⟩:=hi
  have hf:oi.isFreed=false:=Obj.isFreed_of_fields hi2
  have f:=sim.free (Nat.le_refl _)
  have f1:=sim.free (Nat.le_succ s'.heap.objs.size)
  have X1:=sim.newK (s':={s' with heap:=s'.heap.push oi}) ⟨rfl,rfl⟩ (Nat.le_refl _) (fun o0 o0 e=>Heap.get?_push_of_some _ e) (Heap.get?_push_size _ hf)
  have X2:=X1.newK (s':={s' with heap:=hh}) (a:=s'.heap.objs.size+1) (o:=enumObj s'.heap.objs.size 0 .none) ⟨rfl,rfl⟩ (Nat.le_of_eq (Heap.size_push ..)) (fun b ob q=>push_one hf hoi hkeep q) he
  have hne:s'.heap.objs.size+1≠s'.heap.objs.size:=Nat.succ_ne_self _
  refine wpAny_pyIter_enum he (.mk (.v .none) _ st' q2 g' le _ rfl c.K _ _ _ (enum_walk (la:=la) hne reps fun le o0 X=>frozen_list hb cls dat le X) (fun o0 o0 e=>e) (BH.Le.of_none f1.K (addK_le f.K)) (fun a o e z=>z.elim (fun z=>aBn f1.K (z▸e)) fun z=>aBn f.K (z▸e))
   ⟨.none,aKs,oi,(aKn (Ne.symm hne)).trans aKs,hi1,hi2⟩ X2 (by rw[enumFrom_length];exact len) shut_none)))⟩
end
end
section
variable{c c':Cx}{g g':Gh}{st st':St}{s s':Shared}{h h':Heap}{ad q la:Addr}{B K K' L:BH}{v u ov:Value}{x y r:V}{l xs:List V}{target iter:Expr}{pat:List Nat}{one:Bool}{b:List S}{it:It}{body:List Stmt}{pos:Pos}
inductive TargetOk(c:Cx)(t:Expr)(is:List Nat)(one:Bool):Prop
 |name (id:Str) (p:Pos) (i:Nat) (e:t=.Name id p) (e2:is=[i]) (e3:one=true) (b:Bindable c i id)
 |tup (es:List Expr) (x1:_) (pos:Pos) (e:t=.Tuple es x1 pos) (e3:one=false) (b:Names c es is)
theorem Bindable.withK{i:Nat}{id:Str}(b:Bindable c i id):Bindable (c.withK K) i id:=⟨b.slot,b.own⟩
theorem TargetOk.withK:TargetOk c target pat one→TargetOk (c.withK K) target pat one
 |.name id p i e e2 e3 b=>.name id p i e e2 e3 b.withK
 |.tup es x1 pos e e3 b=>.tup es x1 pos e e3 (b.mono fun o0 o0=>fun | .mk id p e b=>.mk id p e b.withK)
theorem target_assign(h:TargetOk c target pat one)(r:Rep g.B y v):Snd c g (assign target c.env v) (fun κ st=>bR (bindPat pat one y st) κ) TrueP:=by
 cases h with
 |name id p i e e2 e3 b=>subst e e2 e3;exact name_assign b (w:=.v y) r
 |tup es x1 pos e e3 b=>subst e e3;exact tuple_assign b r
theorem fo_step{C:CallT}{γ:Type}{kk:Kt Flow γ}:bR (Fo C pat one b (x::l) st) kk=bR (bindPat pat one x st) fun o0=>Mine.B C b fun fl st=>bR (kFoN C pat one b l fl st) kk:=
 (congrArg (bR · kk) (Fo_cons ..)).trans ((bindR_assoc ..).trans (congrArg (bR _) (funext fun o0=>funext fun st=>nat_B C)))
theorem bindR_run{α γ:Type}{m:R α}{a:α}{f:Kt α γ}{r:Ex γ}(e:m=some (.ok a,st))(h:bR m f=some r):f a st=some r:=by subst e;exact h
theorem for_exec(hset:∀x,foldedSetIterable iter c.env x=pure x)(hi:IT c g target iter it)(hp:TargetOk c target pat one)(hb:∀K,BH.Le c.K K→SEs (c.withK K) g body b):SE c g (.For target iter body [] pos) (.for_ pat one it b):=⟨fun {g₁} l {st s} X {γ k r} e=>by
 refine wpAny_eq (arm_exec_For ..) (wpAny_bind (wpAny_standAt (wpAny_bind (wpAny_mono (hi.h l X e) (fun xv s₁ z=>wpAny_bind (wpAny_eq (hset xv) (wpAny_pure (wpAny_bind (wpAny_standAt (wpAny_bind (wpAny_holding (wpAny_mono z (fun itv s₂ G=>?_) fun o0 o0 z=>z)))))))) fun o0 o0 z=>z))))
 obtain⟨w,xs,st₁,e₁,g₂,le,q,rfl,L,K,Own,IP,walk,cL,LK,out,ip,sim,len,shut⟩:=G
 have okL:=X.ok.withK cL
 refine wpAny_runOwn (codeAny_mono (loop_any (c:=c.withK L) (r:=r) (Inv:=fun i o0 o0 st=>bR (Fo c.C pat one b (xs.drop i) st) (fun fl st=>bR (shutIt w xs st) fun o0=>k fl)=some r)
  (Dn:=fun v g' o0 st=>∃y,RepW g' y v∧bR (shutIt w xs st) (fun o0=>k (.ret y))=some r) for_turns walk okL (fun o0 o0 e=>e) out (fun o0 o0 e=>e) (fun {i x K g₃ v st s} hx le3 l3 inv rep X3=>?_) LK ip sim e₁) fun res s' z=>?_)
 ·rw[List.drop_eq_getElem_cons (List.getElem?_eq_some_iff.mp hx).1,(List.getElem?_eq_some_iff.mp hx).2]at inv
  have S:Snd (c.withK K) g₃ (assign target c.env v >>=fun o0=>PySem.execs body c.env) (fun κ st=>bR (bindPat pat one x st) fun o0=>Mine.B c.C b κ) FlowRep:=Snd.bind (target_assign hp.withK rep) (fun o0=>rfl) fun o0 o0 o0 le4 o0=>(hb K (cL.trans le3)).weaken (l.trans (le.trans (l3.trans le4)))
  refine wpAny_mono (S.h (.refl _) X3 (fo_step.symm.trans inv)) (fun f s' z=>?_) fun o0 o0 z=>z
  obtain⟨fl,g',st',le',sim,q,e'⟩:=z
  cases fl with
  |next=>exact .next q g' K st' le' le3 (fun o0 o0 o0 e=>e) sim e'
  |ret y=>obtain⟨v,q,hv⟩:=q;exact .ret v q g' K st' le' le3 (fun o0 o0 o0 e=>e) sim ⟨y,hv,e'⟩
 ·rcases z with⟨rfl,g',K',st',le',up,sim,inv⟩ | ⟨v,rfl,g',K',st',le',up,sim,y,hv,dn⟩ | ⟨v,rfl,x,hr,g',le',sim,fly⟩
  ·rw[List.drop_length]at inv
   obtain⟨st'',e',_,sim'⟩:=shut (K₀:=c.K) X.ok cL (fun o0 o0 e=>e) (fun o0 o0 o0 h=>h) le' (sim.dropK okL up)
   exact .mk .next g' st'' (le.trans le') sim' rfl (bindR_run (f:=fun o0=>k .next) e' inv)
  ·obtain⟨st'',e',_,sim'⟩:=shut (K₀:=c.K) X.ok cL (fun o0 o0 e=>e) (fun o0 o0 o0 h=>h) le' (sim.dropK okL up)
   exact .mk (.ret y) g' st'' (le.trans le') sim' ⟨v,rfl,hv⟩ (bindR_run (f:=fun o0=>k (.ret y)) e' dn)
  ·exact wpAny_cameBack (sim.dropK X.ok cL) fly fun s'' w=>((Bad.flown hr w).up (le.trans le')).any⟩
end
section
variable{c c' cb:Cx}{g g':Gh}{st st':St}{s s':Shared}{h h':Heap}{a ad q la Ca D:Addr}{B K K' L:BH}{v u ov:Value}{x y r:V}{l xs:List V}{scope:Scope}{slots:List (Option Nat)}
noncomputable def closOf(env:Env)(l:List (Str×NameKind)):List (Str×Addr):=((l.filter (·.2==.free)).map fun p=>(p.1,(env.cells.lookup p.1).getD 0)).reverse
theorem closureFor_eq{env:Env}(h:∀n,(n,NameKind.free)∈scope.names→∃ce,env.cells.lookup n=some ce):closureFor scope env=pure (closOf env scope.names):=by
 have key:∀(l:List (Str×NameKind)) (acc:List (Str×Addr)),(∀n,(n,NameKind.free)∈l→∃ce,env.cells.lookup n=some ce)→
   (forIn l acc fun(x:Str×NameKind) (r:List (Str×Addr))=>(if x.2==.free then do
     let ce←cellOf env x.1
     pure (ForInStep.yield ((x.1,ce)::r))
    else pure (ForInStep.yield r):Sem (ForInStep (List (Str×Addr)))))=pure (closOf env l++acc):=fun l=>by
  induction l with
  |nil=>exact fun o0 o0=>rfl
  |cons p l ih=>
   intro acc h
   have ih:=fun acc=>ih acc fun n hn=>h n (.tail _ hn)
   obtain⟨n,k⟩:=p
   rw[List.forIn_cons]
   cases hk:k==NameKind.free with
   |true=>
    cases beq_iff_eq.mp hk
    obtain⟨ce,hc⟩:=h n (.head _)
    have h1:cellOf env n=pure ce:=by unfold cellOf;rw[hc]
    refine(congrArg (· >>=_) ((if_pos rfl).trans (congrArg (· >>=_) h1))).trans ((ih _).trans (congrArg pure ?_))
    refine(asc _ [(n,ce)] acc).symm.trans (congrArg (· ++acc) ?_)
    show _=(((n,(env.cells.lookup n).getD 0)::(l.filter (·.2==.free)).map fun p=>(p.1,(env.cells.lookup p.1).getD 0))).reverse
    rw[List.reverse_cons,hc];rfl
   |false=>
    refine Eq.trans (ih acc) (congrArg pure (congrArg (· ++acc) ?_))
    exact congrArg (fun l=>(l.map fun p:Str×NameKind=>(p.1,(env.cells.lookup p.1).getD 0)).reverse) (List.filter_cons_of_neg (p:=fun x:Str×NameKind=>x.2==.free) (a:=(n,k)) (l:=l) (fun z=>Bool.noConfusion (hk.symm.trans z))).symm
 exact((congrArg (· >>=pure) (key scope.names [] h)).trans (congrArg pure (apn _)):)
structure InnerOk(c:Cx)(scope:Scope):Prop where
 kind:scope.kind=.function
 nod:(scope.names.map (·.1)).Nodup
 nocell:∀n,(n,NameKind.cell)∉scope.names
 free:∀n,(n,NameKind.free)∈scope.names→n∈c.slots∧c.env.kindOf n=some .cell
 cell:∀n,n∈c.slots→c.env.kindOf n=some .cell→∃ce,c.env.cells.lookup n=some ce
theorem InnerOk.freeCell(io:InnerOk c scope)(n:Str)(h:(n,NameKind.free)∈scope.names):∃ce,c.env.cells.lookup n=some ce:=let ⟨a,b⟩:=io.free n h;io.cell n a b
theorem clos_mem{env:Env}{n:Str}{ce:Addr}(h:(closOf env scope.names).lookup n=some ce):(n,NameKind.free)∈scope.names∧ce=(env.cells.lookup n).getD 0:=by
 obtain⟨⟨m,k⟩,h1,h2⟩:=List.mem_map.mp (List.mem_reverse.mp (mem_of_lookup h))
 obtain⟨h3,h4⟩:=List.mem_filter.mp h1
 cases h2;cases beq_iff_eq.mp h4
 exact⟨h3,rfl⟩
theorem clos_get(io:InnerOk c scope){n:Str}{ce:Addr}(h:(n,NameKind.free)∈scope.names)(hc:c.env.cells.lookup n=some ce):(closOf c.env scope.names).lookup n=some ce:=by
 refine lk_mem ?_ (List.mem_reverse.mpr (List.mem_map.mpr ⟨_,List.mem_filter.mpr ⟨h,rfl⟩,by rw[hc];rfl⟩))
 rw[closOf,List.map_reverse,List.map_map]
 exact(List.reverse_perm _).nodup_iff.mpr (io.nod.sublist (List.filter_sublist.map _))
noncomputable def relF(env:Env)(p:Str×NameKind):Str×NameKind:=if(p.2==.free&&env.scope.kind==.function&&env.kindOf p.1==some .cell)=true then(p.1,.cell)else p
theorem relF_fst{env:Env}(p:Str×NameKind):(relF env p).1=p.1:=by unfold relF;split<;>rfl
theorem relabel_nod(io:InnerOk c scope):((relabel scope c.env).names.map (·.1)).Nodup:=by
 refine Eq.mpr (congrArg List.Nodup ?_) io.nod
 show(scope.names.map (relF c.env)).map (·.1)=_
 rw[List.map_map];exact congrArg (List.map · _) (funext relF_fst)
theorem rel_loc(io:InnerOk c scope){n:Str}(h:scope.names.lookup n=some .local):(relabel scope c.env).names.lookup n=some .local:=lk_mem (relabel_nod io) (List.mem_map.mpr ⟨(n,.local),mem_of_lookup h,if_neg nofun⟩)
theorem rel_free(io:InnerOk c scope)(ok:CxOk c){n:Str}(h:(n,NameKind.free)∈scope.names):(relabel scope c.env).names.lookup n=some .cell:=
 lk_mem (relabel_nod io) (List.mem_map.mpr ⟨(n,.free),h,if_pos (by rw[ok.kind,(io.free n h).2];rfl)⟩)
theorem rel_cell(io:InnerOk c scope){n:Str}(h:(relabel scope c.env).names.lookup n=some .cell):(n,NameKind.free)∈scope.names:=by
 obtain⟨⟨m,k⟩,h1,h2⟩:=List.mem_map.mp (mem_of_lookup h)
 replace h2:relF c.env (m,k)=_:=h2
 unfold relF at h2
 split at h2
 ·rename_i q
  cases h2
  cases beq_iff_eq.mp (Bool.and_eq_true_iff.mp (Bool.and_eq_true_iff.mp q).1).1
  exact h1
 ·cases h2;exact absurd h1 (io.nocell _)
@[reducible] noncomputable def innerCx(c:Cx)(scope:Scope)(C:Addr)(h:Heap):Cx:=
 {c with env:=compEnvC scope (closOf c.env scope.names) C c.env,slots:=slotsOf (relabel scope c.env).names,own:=[C],K:=pushK c h}
theorem innerOk(io:InnerOk c scope)(x:Sim c g st s)(hC:s.heap.objs.size≤Ca):CxOk (innerCx c scope Ca s.heap) where
 kind:=io.kind
 nod:=slotsOf_nodup (relabel_nod io)
 ownL:=.head _
 cells n ce hn hk hl:=by
  obtain⟨h1,h2⟩:=clos_mem hl
  obtain⟨ce',h3⟩:=io.freeCell n h1
  rw[h3]at h2
  obtain rfl:ce=ce':=h2
  obtain⟨h4,h5⟩:=io.free n h1
  have z:=x.ok.cells n ce h4 h5 h3
  have f:=x.free hC
  rcases z.at_ with h6 | ⟨o,v,h6,h7⟩
  ·match x.env with
   |.mk m len ns slot=>
    obtain⟨i,hi,ei⟩:=List.getElem_of_mem h4
    have hj:i < st.loc.length:=len▸hi
    match slot i n _ (List.getElem?_eq_some_iff.mpr ⟨hi,ei⟩) (gqe hj)with
    |.loc k _=>exact nomatch k.symm.trans h5
    |.cell _ ce2 l v ⟨o,e1,e2⟩ _=>
     cases sIj l h3
     exact⟨fun q=>f.own ((show ce=Ca from q)▸h6),.inr ⟨o,_,(if_pos h6).trans e1,e2⟩⟩
  ·exact⟨fun q=>aBn f.K ((show ce=Ca from q)▸h6),.inr ⟨o,v,(if_neg ((x.at_ ce).kp o h6).own).trans h6,h7⟩⟩
 apart n m ce hn hm hk hk' hl hl':=by
  obtain⟨h1,h2⟩:=clos_mem hl
  obtain⟨h3,h4⟩:=clos_mem hl'
  obtain⟨c1,q1⟩:=io.freeCell n h1
  obtain⟨c2,q2⟩:=io.freeCell m h3
  rw[q1]at h2;rw[q2]at h4
  obtain rfl:ce=c1:=h2
  obtain rfl:ce=c2:=h4
  exact x.ok.apart n m ce (io.free n h1).1 (io.free m h3).1 (io.free n h1).2 (io.free m h3).2 q1 q2
 handled:=x.ok.handled
 frames:=x.ok.frames
 globals:=x.ok.globals
 builtins:=x.ok.builtins
 stand e he:=match x.ok.stand e he with
  |.mk k L e1 e2 (.inl e3)=>match x.env with | .mk _ _ ⟨o,_,_,q1,q2,_⟩ _=>.mk k L e1 e2 (.inr ⟨o,(if_pos (e3▸x.ok.ownL)).trans (e3▸q1),fun vs z=>Data.noConfusion (q2.symm.trans z)⟩)
  |.mk k L e1 e2 (.inr ⟨o,e3,e4⟩)=>.mk k L e1 e2 (.inr ⟨o,(if_neg ((x.at_ L).kp o e3).own).trans e3,e4⟩)
 frame:=x.ok.frame
 bas:=x.ok.bas
 slack:=x.ok.slack
 depth:=x.ok.depth
 units:=x.ok.units
end
section
variable{c c' cb:Cx}{g g' g₁:Gh}{st st':St}{s s' s₁:Shared}{h h':Heap}{a ad q la Ca D:Addr}{B K K' L:BH}{v u ov:Value}{x y r:V}{l xs:List V}{scope:Scope}{slots:List (Option Nat)}
inductive SlotP'(c:Cx)(scope:Scope)(y:Str)(o:Option Nat):Prop
 |own (e:o=none) (k:scope.names.lookup y=some .local)
 |free (i:Nat) (e:o=some i) (at_:c.slots[i]?=some y) (k:scope.names.lookup y=some .free)
structure SlotsOk(c:Cx)(scope:Scope)(slots:List (Option Nat)):Prop where
 len:slots.length=(slotsOf (relabel scope c.env).names).length
 at_:∀(j:Nat) (y:Str) (o:Option Nat),(slotsOf (relabel scope c.env).names)[j]?=some y→slots[j]?=some o→SlotP' c scope y o
theorem innerSim(io:InnerOk c scope)(so:SlotsOk c scope slots)(x:Sim c g st s)(hs:Same s s₁)(k:∀a o,s.heap.get? a=some o→s₁.heap.get? a=some o)(hC:s.heap.objs.size≤Ca)(hns:s₁.heap.Ns Ca fun o0=>none):
  Sim (innerCx c scope Ca s.heap) g ⟨subLoc slots st.loc,st.mem⟩ s₁:=
 have hN:∀{b o},s.heap.get? b=some o→b∉[Ca]:=fun e q=>absurd (Heap.lt_size e) (Nat.not_lt.mpr (List.mem_singleton.mp q▸hC))
 {ok:=innerOk io x hC
  at_:=fun b=>(x.at_ b).keepG rfl (fun o o0=>k b o) (fun o e=>.of (k b o e)) (.refl _) rfl (fun o e=>(Classical.em (b∈c.own)).elim
    (fun q=>have e:s.heap.get? b=some o:=(if_pos q).symm.trans e;⟨.of (k b o e),((x.at_ b).own q).1,hN e⟩)
    fun q=>have z:=(x.at_ b).kp o ((if_neg q).symm.trans e);⟨z.keep.keep fun o e=>.of (k b o e),z.B,match z.keep with | .mk _ e _ _ _ _=>hN e⟩)
   (fun e=>have e':b=Ca:=List.mem_singleton.mp e;⟨(x.free (e'▸hC)).B,let ⟨o,_,_,q,_⟩:=hns;⟨o,e'▸q⟩⟩)
   fun i o e e' l=>have z:=(x.at_ b).mem i o e e' l;⟨e,e',ORep.keep (fun o e=>.of (k b o e)) (.refl g),(if_neg z.own).trans z.K,match o,l,z.rep with
    |.list _,_,.mk _ _ _ f _ _ _ _ _=>hN f
    |.obj _ _,_,.mk _ ⟨_,_,_,f,_⟩ _ _ _=>hN f⟩
  len:=x.len
  env:=.mk _ ((lmp ..).trans so.len) hns fun j y w h1 h2=>by
   obtain⟨o,h3,rfl⟩:=Option.map_eq_some_iff.mp (List.getElem?_map.symm.trans h2)
   rcases so.at_ j y o h1 h3 with⟨rfl,k1⟩ | ⟨i,rfl,h4,k1⟩
   ·exact .loc (rel_loc io k1) trivial
   ·have hf:=mem_of_lookup k1
    obtain⟨h5,h6⟩:=io.free y hf
    obtain⟨ce,hc⟩:=io.cell y h5 h6
    match x.env with
    |.mk m len ns slot=>
     have hi:=gqe (len▸(List.getElem?_eq_some_iff.mp h4).1:i < st.loc.length)
     match slot i y _ h4 hi with
     |.loc k _=>exact nomatch k.symm.trans h6
     |.cell _ ce2 l v e r=>exact .cell (rel_free io x.ok hf) ce2 (clos_get io hf l) v (IsCell_slots (fun o q=>.of (k _ o q)) e) (Eq.mpr (congrArg (fun w=>RepO g (Option.join w) v) hi) r)
  gens:=hs.gens.trans x.gens
  os:=hs.os.trans x.os}
inductive LeftP(c:Cx)(g:Gh)(st:St)(s:Shared)(Ca:Addr):Prop
 |mk (oC:Obj) (es:Array DictEntry) (n:Nat) (dat:oC.data=.dict es n) (sk:StrKeys es) (hn:c.K Ca=none) (sim:Sim (c.withK (addK c.K Ca oC)) g st s)
theorem Sim.popK(x:Sim c g st s)(hC:s.heap.objs.size≤Ca)(y:Sim (innerCx c scope Ca s.heap) g' st' s')(le:Gh.Le g g'):LeftP c g' ⟨st.loc,st'.mem⟩ s' Ca:=
 have f:=x.free hC
 have z:=x.pop (c':=innerCx c scope Ca s.heap) rfl rfl y le
 have w:=y.at_ Ca
 have hB:=(w.own (.head _)).1
 match y.env with
 |.mk m len ⟨oC,es,n,e1,e2,e3,e5⟩ slot=>.mk oC es n e2 e3 f.K (z.at1K (z.ok.withK (addK_le f.K)) ⟨rfl,rfl⟩ (fun o0 o0 e=>e) (fun o0 o0=>rfl) f.own (fun o0 o0 q=>aBn f.K q) (fun o0 o0 o0 e=>e) (fun b hb=>aKn hb) (fun o0 o0 o0 o0 o0 e o0=>e) rfl rfl
  ⟨fun o0 q=>aBn f.base q,fun o0 q=>aBn hB q,fun o' q=>sIj (aKs (K:=c.K) (o:=oC)) q▸⟨.of e1,hB,f.own⟩,fun q=>absurd q f.own,fun i o q q' l=>absurd (.head _) (w.mem i o q q' l).own⟩)
theorem LeftP.ns{oC:Obj}{es:Array DictEntry}{n:Nat}(dat:oC.data=.dict es n)(sk:StrKeys es)(X:Sim (c.withK (addK c.K Ca oC)) g st s):s.heap.Ns Ca (nsFind es):=
 match((X.at_ Ca).kp oC aKs).keep with | .mk o' e _ _ d _=>⟨o',es,n,e,d.symm.trans dat,sk,fun o0=>rfl⟩
theorem LeftP.drop{oC:Obj}{es:Array DictEntry}{n:Nat}(ok:CxOk c)(hn:c.K Ca=none)(dat:oC.data=.dict es n)(X:Sim (c.withK (addK c.K Ca oC)) g st s)(hs:Heap.SameBut Ca s.heap h'):Sim c g st {s with heap:=h'}:=
 X.stepK (K':=c.K) ok ⟨rfl,rfl⟩ aKs (fun v q=>Data.noConfusion (dat.symm.trans q)) (fun b hb=>(aKn hb).symm) (fun b ob hb q=>(hs.2 b hb).trans q) fun o' q=>aBn hn q
theorem Fly.at_{m:Str→Option Value}{tb:Bool}{e:Value}(hN:h.Ns Ca m)(hs:Heap.SameBut Ca h h'):Fly g h tb x e→Fly g h' tb x e
 |.mk y hx a he rep t=>
  have key:∀{o:Obj} {vs:Array Value},h.get? a=some o→o.data=.fields vs→h'.get? a=some o:=fun {o vs} get d=>(hs.2 a fun q=>let ⟨_,_,_,e1,e2,_⟩:=hN;Data.noConfusion (((congrArg Obj.data (sIj e1 (q▸get))).symm.trans e2).symm.trans d)).trans get
  .mk y hx a he rep (match t with
  |.no ht o vs get d size e=>.no ht o vs (key get d) d size e
  |.yes o vs get d size t' ot ts e ne hb cls dt st old=>.yes o vs (key get d) d size t' ot ts e ne hb cls dt st old)
inductive AccP(B:BH)(ob:Obj)(l:List V):Prop | mk (vs:Array Value) (k:Nat) (cls:ob.cls=.type "list") (dict:ob.dict=none) (dat:ob.data=.seq vs k) (reps:Reps B l vs.toList)
inductive AccEnd(c:Cx)(g:Gh)(D:Addr)(r:Ex (List V))(res:Result)(s:Shared):Prop
 |next (f:PySem.Flow) (e:res=.ok f) (l:List V) (hr:r.1=.ok l) (g':Gh) (K':BH) (st':St) (ob:Obj) (le:Gh.Le g g') (up:BH.Le c.K K') (hD:K' D=some ob) (acc:AccP g'.B ob l) (sim:Sim (c.withK K') g' st' s) (mem:st'.mem=r.2.mem)
 |bad (v:Value) (e:res=.error v) (b:Bad c g true r v s)
structure InnerOf(c:Cx)(scope:Scope)(c':Cx):Prop where
 scp:c'.env.scope=relabel scope c.env
 slots:c'.slots=slotsOf (relabel scope c.env).names
 w:c'.w=c.w
 n:c'.n=c.n
 k:c'.k=c.k
 own:c'.own=[c'.env.locals]
 cell:∀x,c'.env.kindOf x=some .cell→∃ce,c'.env.cells.lookup x=some ce
noncomputable def LoopOk(c:Cx)(g:Gh)(scope:Scope)(whole target:Expr)(m:List V→St→R (List V)):Prop:=∀{cb:Cx},CxOk cb→(∀K,InnerOf c scope (cb.withK K))→∀{g₂ q D L xs Own IP K st s ob r},Gh.Le g g₂→Walk g₂ L target q xs Own IP→BH.Le L cb.K→(∀a o,cb.K a=some o→¬Own a)→
 BH.Le cb.K K→IP 0 K→xs.length≤sizeLine→¬Own D→cb.K D=none→K D=some ob→AccP g₂.B ob []→Sim (cb.withK K) g₂ st s→m xs st=some r→(∀z,r.1=.ok z→z.length≤sizeLine)→
 codeAny cb.M cb.A (.compLoop whole 0 (.ref q) (.ref D) cb.env) (AccEnd cb g₂ D r) s
theorem wpAny_passOn{α:Type}{cenv:Env}{e:Value}{what:String}{E:Value→Shared→Prop}{Q:α→Shared→Prop}(X:Sim c g st s)(f:Fly g s.heap true x e)(hQ:∀s',Flown c g st x e s'→E e s'):wpAny c.M c.A (PySem.passOn what e cenv:Sem α) Q E s:=by
 unfold PySem.passOn
 have f0:=f
 obtain⟨y,rfl,a,rfl,r,tb⟩:=f
 rcases tb with⟨z,_⟩ | ⟨o,vs,ho,hd,hsz,t,ot,ts,h1,ne,hb,cls,dt,h3,old⟩
 ·cases z
 ·refine wpAny_bind (wpAny_field ho hd h1 ?_)
  rw[if_neg (by simp)]
  exact wpAny_bind (wSF X f0 fun s' w=>wpAny_throw (hQ s' w))
theorem pushK_mono(le:BH.Le K K'):BH.Le (pushK (c.withK K) h) (pushK (c.withK K') h):=fun a o e=>(Classical.em (a∈c.own)).elim (fun q=>(if_pos q).trans ((if_pos q).symm.trans e)) fun q=>(if_neg q).trans (le a o ((if_neg q).symm.trans e))
theorem wiK_get{α γ:Type}{m:R α}{loc:List (Option W)}{k:Kt α γ}{r:Ex γ}(e:wiK m loc k=some r):∃r₀,m=some r₀∧wiK (some r₀) loc k=some r:=match m,e with | none,e=>nomatch e | some r₀,e=>⟨r₀,rfl,e⟩
theorem wiK_err{α γ:Type}{r₀:Ex α}{loc:List (Option W)}{k:Kt α γ}{r:Ex γ}{y:V}(hr:r₀.1=.error y)(e:wiK (some r₀) loc k=some r):r.1=.error y∧⟨loc,r₀.2.mem⟩=r.2:=by
 obtain⟨a,st⟩:=r₀;cases (hr:a=_);cases e;exact⟨rfl,rfl⟩
theorem wiK_get_ok{α γ:Type}{r₀:Ex α}{loc:List (Option W)}{k:Kt α γ}{r:Ex γ}{z:α}(hr:r₀.1=.ok z)(e:wiK (some r₀) loc k=some r):k z ⟨loc,r₀.2.mem⟩=some r:=by
 obtain⟨a,st⟩:=r₀;cases (hr:a=_);exact e
@[reducible] noncomputable def compEnd{γ:Type}(w:W)(xs:List V)(k:Kt W γ)(z:List V)(st:St):R γ:=bR (shutIt w xs st) fun o0=>oK (compO z) k
end
section
variable{c c' cb:Cx}{g g' g₁:Gh}{st st':St}{s s' s₁:Shared}{h h':Heap}{a ad q la Ca D:Addr}{B K K' L:BH}{v u ov:Value}{x y r:V}{l xs:List V}{scope:Scope}{slots:List (Option Nat)}{target iter elt:Expr}{ifs:List Expr}{rest:List Comprehension}{pos pos2:Pos}{it:It}{m:List V→St→R (List V)}
@[reducible] noncomputable def listO:Obj:={cls:=.type "list",dict:=none,data:=.seq ([]:List Value).toArray}
inductive CompP(c:Cx)(g:Gh){γ:Type}(k:Kt W γ)(r:Ex γ)(D Ca:Addr)(s:Shared):Prop
 |mk (z:List V) (g':Gh) (st:St) (le:Gh.Le g g') (left:LeftP c g' st s Ca) (rep:Rep g'.B (.list z) (.ref D)) (e:k (.v (.list z)) st=some r)
theorem shutIt_get{γ:Type}{w:W}{f:Kt Unit γ}{r:Ex γ}(e:bR (shutIt w xs st) f=some r):∃st',f () st'=some r:=match w,e with | .v _,e=>⟨_,e⟩ | .l _,e=>⟨_,e⟩ | .o _ _,e=>⟨_,e⟩
theorem comp_core(io:InnerOk c scope)(so:SlotsOk c scope slots)(hset:∀x,foldedSetIterable iter c.env x=pure x)(hi:IT c g target iter it)(hlp:LoopOk c g scope (.ListComp elt (⟨target,iter,ifs,0⟩::rest) scope pos) target m)
  {use:Option (Value→Sem Unit)} {Q:Value→Shared→Prop} {E:Value→Shared→Prop} (l:Gh.Le g g₁) (X:Sim c g₁ st s) {γ:Type} {k:Kt W γ} {r:Ex γ}
  (e:cit c.C it (fun w xs st=>wiK (m xs ⟨subLoc slots st.loc,st.mem⟩) st.loc (compEnd w xs k)) st=some r) (hE:∀ev s',Bad c g₁ false r ev s'→E ev s')
  (hok:∀D Ca s',CompP c g₁ k r D Ca s'→∀f,compPost c.M c.A E use Q (.ref D) Ca (.ok f) s'):
  wpAny c.M c.A (comprehension (.ListComp elt (⟨target,iter,ifs,0⟩::rest) scope pos) scope c.env pos2 (newList []) false (eval iter c.env) use) Q E s:=by
 refine wpAny_comprehension_free rfl hset (closureFor_eq io.freeCell) io.kind (fun x hx hl=>lk_mem io.nod (hl▸hx)) (wpAny_mono (hi.h l X e) (fun xv s1 z=>wpAny_mono z (fun itv s2 G=>?_) hE) hE)
 obtain⟨w,xs,st₁,e₁,g₂,le,q,rfl,L,K,Own,IP,walk,cL,LK,out,ip,sim,len,shut⟩:=G
 obtain⟨r₀,e₂,e₃⟩:=wiK_get e₁
 refine wpAny_newObj_type ?_
 have f:=sim.free (Nat.le_refl _)
 have X3:=sim.newK (s':={s2 with heap:=s2.heap.push listO}) (o:=listO) ⟨rfl,rfl⟩ (Nat.le_refl _) (fun o0 o0 e=>Heap.get?_push_of_some _ e) (Heap.get?_push_size _ rfl)
 generalize s2.heap.objs.size=D at f X3
 generalize s2.heap.push listO=H3 at X3
 have hLD:L D=none:=Option.eq_none_iff_forall_ne_some.mpr fun o q=>aBn f.K (LK _ _ q)
 have up3:BH.Le L (addK K D listO):=BH.Le.of_none hLD LK
 have okL:=X.ok.withK cL
 have XL:Sim (c.withK L) g₂ st₁ {s2 with heap:=H3}:=Sim.dropK (c:=c.withK L) okL up3 X3
 refine wpAny_newFunctionEnv (fun y hy hc=>io.nocell y.1 (hc▸hy)) (fun y hy=>nomatch hy) (fun h4 hns4 hsb4=>?_) io.kind
 have ioL:InnerOk (c.withK L) scope:=⟨io.kind,io.nod,io.nocell,io.free,io.cell⟩
 have io3:InnerOk (c.withK (addK K D listO)) scope:=⟨io.kind,io.nod,io.nocell,io.free,io.cell⟩
 have so3:SlotsOk (c.withK (addK K D listO)) scope slots:=⟨so.len,fun j y o e1 e2=>match so.at_ j y o e1 e2 with | .own a b=>.own a b | .free i a b d=>.free i a b d⟩
 have hC:H3.objs.size≤H3.objs.size:=Nat.le_refl _
 have Xin:=innerSim io3 so3 X3 (s₁:={s2 with heap:=h4,toks:=s2.toks+0}) ⟨rfl,rfl⟩ (fun b ob e=>(hsb4.2 b (Nat.ne_of_lt (Heap.lt_size e))).trans (Heap.get?_push_of_some _ e)) hC hns4
 have okb:=innerOk ioL XL hC
 have hz:∀z,r₀.1=.ok z→bR (shutIt w xs ⟨st₁.loc,r₀.2.mem⟩) (fun o0=>oK (compO z) k)=some r:=fun z q=>wiK_get_ok q e₃
 have KD:∀{a o},K a=some o→addK K D listO a=some o:=fun {a o} e=>BH.Le.of_none f.K (fun o0 o0 e=>e) a o e
 have loop:=hlp (cb:=innerCx (c.withK L) scope H3.objs.size H3) okb (fun K=>⟨rfl,rfl,rfl,rfl,rfl,rfl,fun x q=>have hf:=rel_cell ioL q;let ⟨ce,hc⟩:=io.freeCell x hf;⟨ce,clos_get ioL hf hc⟩⟩) (K:=pushK (c.withK (addK K D listO)) H3) (ob:=listO) (D:=D) (l.trans le) walk (fun a o e=>push_K XL (c':=innerCx (c.withK L) scope H3.objs.size H3) rfl e)
  (fun a o e ho=>(Classical.em (a∈c.own)).elim (fun q=>let ⟨o',e'⟩:=walk.has ip a ho;((X3.at_ a).kp o' (KD e')).own q) fun q=>out a o ((if_neg q).symm.trans e) ho) (pushK_mono up3)
  (walk.up ip fun a o ha e=>push_K X3 (c':=innerCx (c.withK (addK K D listO)) scope H3.objs.size H3) rfl (KD e)) len (fun q=>let ⟨o',e'⟩:=walk.has ip D q;aBn f.K e') ((if_neg f.own).trans hLD) (push_K X3 (c':=innerCx (c.withK (addK K D listO)) scope H3.objs.size H3) rfl (aKs (K:=K))) ⟨_,_,rfl,rfl,rfl,.nil⟩ Xin e₂ fun z q=>by
   obtain⟨st',e⟩:=shutIt_get (hz z q)
   obtain⟨_,e,_⟩:=optK_get e
   exact tSz (ite_get e).1
 have main:codeAny c.M c.A (.compLoop (.ListComp elt (⟨target,iter,ifs,0⟩::rest) scope pos) 0 (.ref q) (.ref D) (innerCx (c.withK L) scope H3.objs.size H3).env) (compPost c.M c.A E use Q (.ref D) H3.objs.size) {s2 with heap:=h4,toks:=s2.toks+0}:=by
  refine codeAny_mono loop fun res s4 z=>?_
  rcases z with⟨fl,rfl,zs,hr,g4,K',st4,ob,le4,up4,hD,acc,X4,hmem⟩ | ⟨ev,rfl,y,hr,g4,le4,X4,fly⟩
  ·obtain⟨vs,n,a1,a2,a3,a4⟩:=acc
   have hcD:(innerCx (c.withK L) scope H3.objs.size H3).K D=none:=(if_neg f.own).trans hLD
   have okd:=okb.withK (delK_le hcD up4)
   have X5:=Sim.dropK (c:=innerCx (c.withK L) scope H3.objs.size H3) okb (delK_le hcD up4) (X4.adoptK hD (fun o0 q=>Data.noConfusion (a3.symm.trans q)) (fun o0 q=>Data.noConfusion (a3.symm.trans q)) okd)
   have le5:=addK_le (o:=ob) ((X4.at_ D).kp ob hD).B
   obtain⟨oC,es,n',dat,sk,hn,X6⟩:=XL.popK hC X5 ⟨le4.1.trans le5,le4.2⟩
   have e4:=hz zs hr
   rw[←hmem]at e4
   have hcn:c.K H3.objs.size=none:=Option.eq_none_iff_forall_ne_some.mpr fun o q=>aBn hn (cL _ _ q)
   have le6:Gh.Le g₂ ⟨addK g4.B D ob,g4.φ⟩:=⟨le4.1.trans le5,le4.2⟩
   obtain⟨st5,e5,_,X7⟩:=shut (K₀:=addK c.K H3.objs.size oC) (K:=addK L H3.objs.size oC) (X.ok.withK (addK_le hcn)) (fun a o q=>(Classical.em (a=H3.objs.size)).elim (fun z=>z▸(aKs.trans (aKs.symm.trans (z▸q)))) fun z=>(aKn z).trans (cL a o ((aKn z).symm.trans q)))
    (addK_le hn) (fun a o q1 q2=>(aKn fun z=>aBn hn (z▸q1)).trans q2) le6 X6
   obtain⟨b,e6,e7⟩:=optK_get (bindR_run (f:=fun o0=>oK (compO zs) k) e5 e4)
   obtain⟨hl,e8⟩:=ite_get e6
   cases Option.some.inj e8
   exact hok D _ s4 (.mk zs _ st5 (le.trans le6) ⟨oC,es,n',dat,sk,hcn,X7⟩ (.mk D ob vs n rfl aKs a1 a3 (a4.mono le5) (tSz hl) a2) e7) fl
  ·obtain⟨hr',hst⟩:=wiK_err hr e₃
   obtain⟨oC,es,n',dat,sk,hn,X6⟩:=XL.popK hC X4 le4
   have hN:=LeftP.ns dat sk X6
   exact⟨_,hN,fun h' hs cenv hc=>wpAny_passOn (hst▸Sim.dropK X.ok cL (LeftP.drop okL hn dat X6 hs):Sim c g4 r.2 _) (fly.at_ hN hs) fun s' w=>hE _ _ (Bad.up (le.trans le4) (Bad.flown hr' w).any)⟩
 exact codeAny_compStart_list main (walk.iter (c:=innerCx (c.withK (addK K D listO)) scope H3.objs.size H3) (walk.up ip fun a o ha e=>push_K X3 (c':=innerCx (c.withK (addK K D listO)) scope H3.objs.size H3) rfl (KD e)) Xin main)
end
section
variable{c c' cb:Cx}{g g' g₁:Gh}{st st':St}{s s' s₁:Shared}{h h':Heap}{a ad q la Ca D:Addr}{B K K' L:BH}{v u ov:Value}{x y r:V}{l xs:List V}{scope:Scope}{slots:List (Option Nat)}{target iter elt e:Expr}{ifs:List Expr}{rest:List Comprehension}{pos pos2:Pos}{it:It}{m:List V→St→R (List V)}{X₀:X}
inductive CompOk(c:Cx)(g:Gh)(e:Expr)(x:X):Prop
 |mk (target iter elt:Expr) (ifs:List Expr) (rest:List Comprehension) (scope:Scope) (pos:Pos) (it:It) (slots:List (Option Nat)) (m:List V→St→R (List V)) (eq:e=.ListComp elt (⟨target,iter,ifs,0⟩::rest) scope pos)
  (io:InnerOk c scope) (so:SlotsOk c scope slots) (hset:∀x,foldedSetIterable iter c.env x=pure x) (hi:IT c g target iter it) (hlp:LoopOk c g scope (.ListComp elt (⟨target,iter,ifs,0⟩::rest) scope pos) target m)
  (run:∀{γ:Type} (k:Kt W γ),(ck c.C x).1 k=cit c.C it fun w xs st=>wiK (m xs ⟨subLoc slots st.loc,st.mem⟩) st.loc (compEnd w xs k))
theorem comp_sx:CompOk c g e X₀→SX c g e X₀
 |.mk target iter elt ifs rest scope pos it slots m eq io so hset hi hlp run=>eq▸⟨fun {g₁} l {st s} X {γ k r} q=>wpAny_eq (eval_ListComp ..) (comp_core io so hset hi hlp (use:=none) l X (run k▸q) (fun o0 o0 z=>z) fun D Ca s' z f=>match z with
  |.mk z g' st' le (.mk oC es n dat sk hn sim) rep e=>⟨_,LeftP.ns dat sk sim,fun h' hs=>.mk (.v (.list z)) g' st' le (LeftP.drop X.ok hn dat sim hs) rep e⟩)⟩
theorem comp_assign{i:Nat}{id:Str}{npos spos:Pos}(bd:Bindable c i id)(co:CompOk c g e X₀):SE c g (.Assign [.Name id npos] e spos) (.assign i X₀):=by
 have sx:=comp_sx co
 obtain⟨target,iter,elt,ifs,rest,scope,pos,it,slots,m,rfl,io,so,hset,hi,hlp,run⟩:=co
 obtain⟨w,hw⟩:∃w,swapsWithSole [.Name id npos] (.ListComp elt (⟨target,iter,ifs,0⟩::rest) scope pos) spos.line c.env=pure w:=⟨_,rfl⟩
 show Snd c g (PySem.exec (.Assign [.Name id npos] (.ListComp elt (⟨target,iter,ifs,0⟩::rest) scope pos) spos) c.env) _ _
 rw[arm_exec_Assign,hw]
 refine Snd.standAt (Snd.pureL ?_)
 cases w with
 |false=>exact Snd.bind sx (fun o0=>rfl) fun g1 w v le hv=>Snd.pureL (a:=none) (Snd.next (name_assign bd hv) fun o0=>rfl)
 |true=>
  refine Snd.next (t:=evalThenUse _ _ _) (m:=fun κ=>(ck c.C X₀).1 fun w st=>κ () ⟨st.loc.set i (some w),st.mem⟩) ?_ fun o0=>rfl
  refine⟨fun {g₁} l {st s} X {γ k r} q=>wpAny_bind (comp_core io so hset hi hlp (use:=some (assign (.Name id npos) c.env)) (Q:=fun o0 s'=>wpAny c.M c.A (pure ()) (Post c g₁ k r TrueP) (Bad c g₁ false r) s') l X (run _▸q) (fun o0 o0 z=>z) fun D Ca s' z f=>?_)⟩
  obtain⟨z,g',st',le,⟨oC,es,n,dat,sk,hn,sim⟩,rep,e⟩:=z
  refine wpAny_mono ((name_assign (c:=c.withK (addK c.K Ca oC)) (p:=npos) bd.withK (w:=.v (.list z)) rep).h (.refl _) sim e) (fun o0 s'' z=>?_) fun o0 o0 z=>Bad.up le (Bad.drop X.ok (addK_le hn) z)
  obtain⟨_,g'',st'',le'',sim'',_,e''⟩:=z
  exact⟨_,LeftP.ns dat sk sim'',fun h' hs=>wpAny_pure (.mk () g'' st'' (le.trans le'') (LeftP.drop X.ok hn dat sim'' hs) trivial e'')⟩
theorem AccP.mono{ob:Obj}(h:BH.Le B K):AccP B ob l→AccP K ob l | .mk vs k a b d r=>.mk vs k a b d (r.mono h)
inductive GrowP(c:Cx)(g:Gh)(K:BH)(D:Addr)(l:List V)(st:St)(s:Shared):Prop | mk (ob:Obj) (acc:AccP g.B ob l) (sim:Sim (c.withK (addK K D ob)) g st s)
theorem acc_append{ob:Obj}(ok:CxOk c)(up:BH.Le c.K K)(hn:c.K D=none)(X:Sim (c.withK K) g st s)(hK:K D=some ob)(acc:AccP g.B ob l)(hv:Rep g.B y v)(hl:l.length≤sizeLine){E:Value→Shared→Prop}:
  wpAny c.M c.A (call (.builtin "list.append") [.ref D,v]) (fun o0 s'=>GrowP c g K D (l++[y]) st s') E s:=by
 obtain⟨vs,k,cls,dict,dat,r⟩:=acc
 obtain⟨⟨co,di,da,sl⟩,e,c1,d1,t1,_⟩:=((X.at_ D).kp ob hK).keep
 cases c1.trans cls;cases d1.trans dict;cases t1.symm.trans dat
 exact list_push (c:=c) e (r.size▸hl) fun h' o2 k' h1 h2 h3 h4 h5=>.mk o2 ⟨_,k',h2,h3,h4,by rw[Array.toList_push];exact r.append (.one hv)⟩
  (X.stepK (s':={s with heap:=h'}) (K':=addK K D o2) (ok.withK (BH.Le.of_none hn up)) ⟨rfl,rfl⟩ hK (fun v q=>Data.noConfusion (dat.symm.trans q)) (fun b hb=>aKn hb) h5 fun o3 q=>sIj (aKs (K:=K) (o:=o2)) q▸.of h1)
noncomputable def TestOk(c:Cx)(ifs:List Expr)(cond:X):Prop:=(ifs=[]∧cond=.bool true)∨∃e,ifs=[e]∧∀g,ST c g e cond
theorem tests_snd{cond:X}(h:TestOk c ifs cond):Snd c g (forIn ifs true fun e r=>if r=true then do let ok←isTrue e c.env (eval e c.env);pure (ForInStep.yield ok)else pure (ForInStep.yield r)) (fun {γ}=>(ck c.C (γ:=γ) cond).2) (fun o0 y v=>v=y):=by
 rcases h with⟨rfl,rfl⟩ | ⟨e,rfl,h⟩
 ·exact Snd.pure fun o0 o0=>rfl
 ·exact Snd.of_eq (h g) (by rw[List.forIn_cons];simp)
theorem co_step{C:CallT}{pat:List Nat}{one:Bool}{cond elt:X}{γ:Type}{k:Kt (List V) γ}:bR (Co C pat one cond elt (x::l) st) k=bR (bindPat pat one x st) fun o0=>tk C cond fun b=>ifK b (ek C elt fun w=>oK (asV w) fun y st=>bR (Co C pat one cond elt l st) fun z=>k (y::z)) fun st=>bR (Co C pat one cond elt l st) k:=by
 refine(congrArg (bR · k) (Co_cons ..)).trans ((bindR_assoc ..).trans (congrArg (bR _) (funext fun o0=>funext fun st=>(nat_t C).trans (congrArg (fun f=>tk C cond f st) (funext fun b=>funext fun st=>?_)))))
 cases b with
 |false=>rfl
 |true=>
  refine(nat_e C).trans (congrArg (fun f=>ek C elt f st) (funext fun w=>funext fun st=>?_))
  show bR (oK (asV w) _ st) k=oK (asV w) _ st
  cases asV w with
  |none=>rfl
  |some y=>exact bindR_assoc ..
inductive CoInv(C:CallT)(pat:List Nat)(one:Bool)(cond elt:X)(xs:List V)(D:Addr)(r:Ex (List V))(i:Nat)(g:Gh)(K:BH)(st:St):Prop
 |mk (done:List V) (ob:Obj) (hD:K D=some ob) (acc:AccP g.B ob done) (len:done.length≤i) (run:bR (Co C pat one cond elt (xs.drop i) st) (fun z=>retK (done++z))=some r)
theorem loop_one{pat:List Nat}{one:Bool}{cond me:X}(hp:∀c',InnerOf c scope c'→TargetOk c' target pat one)(ht:∀c',InnerOf c scope c'→TestOk c' ifs cond)(he:∀c',InnerOf c scope c'→∀g,SX c' g elt me):
  LoopOk c g scope (.ListComp elt [⟨target,iter,ifs,0⟩] scope pos) target (Co c.C pat one cond me):=fun {cb} okb I {g₂ q D L xs Own IP K st s ob r} le walk hL hO up ip len hOD hn hD acc X e o0=>by
 have hC:cb.C=c.C:=congrArg (cN prog) (I cb.K).n
 rw[←hC]at e
 refine codeAny_mono (loop_any (c:=cb) (r:=r) (em:=compEm target elt ifs (.ref D) cb.env) (out:=fun o0=>.next) (Inv:=CoInv cb.C pat one cond me xs D r) (Dn:=fun o0 o0 o0 o0=>False) comp_turns walk okb hL hO (fun {i g₁ g₂ K K' st} le hK z=>?_) (fun {i x K g₁ v st s} hx up' l' inv rep X'=>?_) up ip X ⟨[],ob,hD,acc,Nat.zero_le _,?_⟩) fun res s' z=>?_
 ·obtain⟨done,ob,hD,acc,hl,run⟩:=z
  exact⟨done,ob,(hK D hOD).trans hD,acc.mono le.1,hl,run⟩
 ·obtain⟨done,ob,hD,acc,hl,run⟩:=inv
  obtain⟨hi,rfl⟩:=List.getElem?_eq_some_iff.mp hx
  rw[List.drop_eq_getElem_cons hi]at run
  have S:Snd (cb.withK K) g₁ (assign target cb.env v >>=fun o0=>forIn ifs true fun e r=>if r=true then do let ok←isTrue e cb.env (eval e cb.env);pure (ForInStep.yield ok)else pure (ForInStep.yield r)) (fun κ st=>bR (bindPat pat one xs[i] st) fun o0=>tk cb.C cond κ) (fun o0 b v=>v=b):=
   Snd.bind (target_assign (hp _ (I K)) rep) (fun o0=>rfl) fun o0 o0 o0 o0 o0=>tests_snd (ht _ (I K))
  refine wpAny_eq (bind_assoc ..).symm (wpAny_bind (wpAny_mono (S.h (.refl _) X' (co_step.symm.trans run)) (fun ok s' z=>?_) fun o0 o0 z=>z))
  obtain⟨b,g₃,st₃,l₃,X₃,rfl,e₃⟩:=z
  cases ok with
  |false=>exact wpAny_pure (.next rfl g₃ K st₃ l₃ up' (fun o0 o0 o0 e=>e) X₃ ⟨done,ob,hD,acc.mono l₃.1,Nat.le_succ_of_le hl,e₃⟩)
  |true=>
   refine wpAny_bind (wpAny_mono ((he _ (I K) g₁).h l₃ X₃ e₃) (fun v s'' z=>?_) fun o0 o0 z=>Bad.up l₃ z)
   obtain⟨w,g₄,st₄,l₄,X₄,rep,e₄⟩:=z
   obtain⟨y,hy,e₅⟩:=optK_get e₄
   refine wpAny_bind (wpAny_mono (acc_append (c:=cb) okb up' hn X₄ hD (acc.mono (l₃.trans l₄).1) (asV_rep hy rep) (ltr hl (ltr (Nat.le_of_lt hi) len))) (fun o0 s' z=>?_) fun o0 o0 z=>z)
   obtain⟨ob',acc',X₅⟩:=z
   exact wpAny_pure (.next rfl g₄ (addK K D ob') st₄ (l₃.trans l₄) (BH.Le.of_none hn up') (fun a o h e=>(aKn fun(q:a=D)=>hOD (q▸h)).trans e) X₅ ⟨done++[y],ob',aKs,acc',by rw[lap];exact Nat.succ_le_succ hl,(congrArg (bR _) (funext fun z=>congrArg retK (asc done [y] z))).trans e₅⟩)
 ·show bR (Co cb.C pat one cond me xs st) retK=some r
  rw[e];rcases r with⟨_ | _,_⟩<;>rfl
 ·rcases z with⟨rfl,g',K',st',le',up,sim,done,ob,hD,acc,_,run⟩ | ⟨v,_,_,_,_,_,_,_,dn⟩ | ⟨v,rfl,b⟩
  ·rw[List.drop_length]at run
   cases run
   exact .next _ rfl _ rfl g' K' st' ob le' up hD (by rw[apn];exact acc) sim rfl
  ·exact dn.elim
  ·exact .bad v rfl b
end
section
variable{c c' cb:Cx}{g g' g₁:Gh}{st st':St}{s s' s₁:Shared}{h h':Heap}{a ad q la Ca D:Addr}{B K K' L:BH}{v u ov acc it:Value}{x y r:V}{l xs:List V}{scope:Scope}{target iter i2 elt e:Expr}{pos p p' p1 p2:Pos}{id id1 id2:Str}{env:Env}{w:World}{A:Around}
inductive BackP(c:Cx)(g:Gh)(x:V)(mem:List AO)(v:Value)(s:Shared):Prop | mk (g':Gh) (st':St) (le:Gh.Le g g') (sim:Sim c g' st' s) (rep:Rep g'.B x v) (mem:st'.mem=mem)
theorem name_back{i:Nat}(bd:Bindable c i id)(hd:(id==("__debug__" :Str))=false)(X:Sim c g st s)(rep:Rep g.B x v):wpAny c.M c.A (assign (.Name id p) c.env v >>=fun o0=>eval (.Name id p') c.env) (BackP c g x st.mem) (fun o0 o0=>False) s:=by
 have hi:i < st.loc.length:=match X.env with | .mk m len _ _=>len▸(List.getElem?_eq_some_iff.mp bd.slot).1
 have S:Snd c g (assign (.Name id p) c.env v >>=fun o0=>eval (.Name id p') c.env) (fun κ st=>(ck c.C (.loc i)).1 κ ⟨st.loc.set i (some (.v x)),st.mem⟩) RepW:=Snd.bind (name_assign bd (w:=.v x) rep) (fun o0=>rfl) fun o0 o0 o0 o0 o0=>loc_sx bd.slot hd
 have e:(ck c.C (.loc i)).1 retK ⟨st.loc.set i (some (.v x)),st.mem⟩=some (.ok (.v x),⟨st.loc.set i (some (.v x)),st.mem⟩):=by
  show oK ((st.loc.set i (some (W.v x)))[i]?).join retK _=_
  rw[List.getElem?_set_self hi];rfl
 refine wpAny_mono (S.h (.refl _) X e) (fun o0 o0 z=>?_) fun o0 o0 z=>match z with | .mk _ hr _ _ _ _=>nomatch hr
 obtain⟨w,g',st',le,sim,q,e'⟩:=z
 cases e'
 exact⟨g',_,le,sim,q,rfl⟩
@[reducible] noncomputable def flatE(id1 id2:Str)(iter:Expr)(p p' p1 p2:Pos)(scope:Scope)(pos:Pos):Expr:=.ListComp (.Name id2 p2) [⟨.Name id1 p,iter,[],0⟩,⟨.Name id2 p',.Name id1 p1,[],0⟩] scope pos
@[reducible] noncomputable def flatEm(id1 id2:Str)(iter:Expr)(p p' p1 p2:Pos)(scope:Scope)(pos:Pos)(acc:Value)(env:Env)(v:Value):Sem Unit:=assign (.Name id1 p) env v >>=fun o0=>eval (.Name id1 p1) env >>=fun x=>standAt p1 >>=fun o0=>holding [x] (pyIter x) >>=fun it'=>
 runOwn (.compStart (flatE id1 id2 iter p p' p1 p2 scope pos) 1 it' acc env) env >>=fun o0=>pure ()
theorem flat_turns0:Turns w A (.compLoop (flatE id1 id2 iter p p' p1 p2 scope pos) 0 it acc env) env (.Name id1 p) it (flatEm id1 id2 iter p p' p1 p2 scope pos acc env) (fun o0=>.next):=by
 refine comp_turns_of (p:=iter.pos) ?_
 refine(show _=(standAt iter.pos >>=fun o0=>pyNext it >>=fun r=>match r with
   |none=>pure (.done .next)
   |some v=>letOwnedTupleGo (.Name id1 p) it v >>=fun o0=>assign (.Name id1 p) env v >>=fun o0=>eval (.Name id1 p1) env >>=fun x=>standAt p1 >>=fun o0=>holding [x] (pyIter x) >>=fun it'=>
     runOwn (.compStart (flatE id1 id2 iter p p' p1 p2 scope pos) 1 it' acc env) env >>=fun o0=>again (.compLoop (flatE id1 id2 iter p p' p1 p2 scope pos) 0 it acc env))from rfl).trans (turn_eq fun v=>?_)
 simp only[bind_assoc,pure_bind]
@[reducible] noncomputable def flatEm1(id2:Str)(p' p2:Pos)(acc:Value)(env:Env)(v:Value):Sem Unit:=assign (.Name id2 p') env v >>=fun o0=>eval (.Name id2 p2) env >>=fun x=>call (.builtin "list.append") [acc,x] >>=fun o0=>pure ()
theorem flat_turns1:Turns w A (.compLoop (flatE id1 id2 iter p p' p1 p2 scope pos) 1 it acc env) env (.Name id2 p') it (flatEm1 id2 p' p2 acc env) (fun o0=>.next):=by
 refine comp_turns_of (p:=p1) ?_
 refine(show _=(standAt p1 >>=fun o0=>pyNext it >>=fun r=>match r with
   |none=>pure (.done .next)
   |some v=>letOwnedTupleGo (.Name id2 p') it v >>=fun o0=>assign (.Name id2 p') env v >>=fun o0=>(eval (.Name id2 p2) env >>=fun x=>call (.builtin "list.append") [acc,x] >>=fun o0=>pure ()) >>=fun o0=>again (.compLoop (flatE id1 id2 iter p p' p1 p2 scope pos) 1 it acc env))from rfl).trans (turn_eq fun v=>?_)
 simp only[bind_assoc,pure_bind]
theorem flat_start{R:Result→Shared→Prop}(h0:codeAny (model TT.prog w) A (.compLoop (flatE id1 id2 iter p p' p1 p2 scope pos) 1 it acc env) R s)
  (h:wpAny (model TT.prog w) A (pyIter it) (fun it' s'=>codeAny (model TT.prog w) A (.compLoop (flatE id1 id2 iter p p' p1 p2 scope pos) 1 it' acc env) R s') (notedBy (model TT.prog w) A env fun x s'=>R (.error x) s') s):
  codeAny (model TT.prog w) A (.compStart (flatE id1 id2 iter p p' p1 p2 scope pos) 1 it acc env) R s:=by
 refine codeAny_of_tree ?_
 show wpAny _ _ ((compStart (flatE id1 id2 iter p p' p1 p2 scope pos) 1 it acc env).onRaise (fun x=>do noteFrame x env;standAt theWindowsPlace)) _ _ s
 refine wpAny_notedAt ?_
 unfold compStart
 show wpAny _ _ (ask >>=_) _ _ s
 refine wpAny_bind (wpAny_askSetting (wpAny_ite ?_))
 split
 ·exact wpAny_pure (And.intro rfl h0)
 ·refine wpAny_bind (wpAny_rule ?_)
  show wpAny _ _ (standAt p1 >>=_) _ _ s
  exact wpAny_bind (wpAny_standAt (wpAny_bind (wpAny_mono h (fun it' s' h'=>wpAny_pure (And.intro rfl h')) fun o0 o0 x=>x)))
theorem listsOf_map:∀{l:List V} {ls:List (List V)},listsOf l=some ls→l=ls.map .list:=fun {l}=>List.rec (motive:=fun l=>∀{ls},listsOf l=some ls→l=ls.map .list) (fun {o0} e=>Option.some.inj e▸rfl) (fun x l ih {ls} e=>by
 obtain⟨k,e1,e2⟩:=bGt e
 obtain⟨ls',e3,rfl⟩:=map_get e2
 cases vL_eq e1
 exact congrArg _ (ih e3)) l
theorem take_flat{ls:List (List V)}{i:Nat}{l2:List V}(h:ls[i]?=some l2):(ls.take (i+1)).flatten=(ls.take i).flatten++l2:=by rw[List.take_add_one,h,List.flatten_append];exact congrArg (_++ ·) (apn _)
theorem flat_len{ls:List (List V)}{i:Nat}:(ls.take i).flatten.length≤ls.flatten.length:=by
 have:=congrArg (fun l:List (List V)=>l.flatten.length) (List.take_append_drop i ls)
 rw[List.flatten_append,lap]at this
 exact this▸Nat.le_add_right _ _
inductive FlInv(D:Addr)(mem:List AO)(f:Nat→List V)(i:Nat)(g:Gh)(K:BH)(st:St):Prop
 |mk (ob:Obj) (hD:K D=some ob) (acc:AccP g.B ob (f i)) (hm:st.mem=mem)
theorem AccP.of_eq{ob:Obj}{l':List V}(e:l=l')(h:AccP B ob l):AccP B ob l':=e▸h
theorem FlInv.move{D:Addr}{mem:List AO}{f:Nat→List V}{i:Nat}(le:Gh.Le g g')(hD:K' D=K D):FlInv D mem f i g K st→FlInv D mem f i g' K' st | .mk ob h acc hm=>.mk ob (hD.trans h) (acc.mono le.1) hm
theorem flat_inner{j:Nat}{ob:Obj}{vs:Array Value}{o:Obj}{n:Nat}(okb:CxOk cb)(b2:Bindable cb j id2)(d2:(id2==("__debug__" :Str))=false)(up:BH.Le cb.K K)(hn:cb.K D=none)(hD:K D=some ob)(acc:AccP g.B ob xs)(X:Sim (cb.withK K) g st s)
  (hb:g.B la=some o) (cls:o.cls=.type "list") (dat:o.data=.seq vs n) (reps:Reps g.B l vs.toList) (hl:(xs++l).length≤sizeLine) {Q:Shared→Prop} {E:Value→Shared→Prop}
  (hQ:∀s' g' K' st',Gh.Le g g'→BH.Le (delK K D) K'→FlInv D st.mem (fun j=>xs++l.take j) l.length g' K' st'→Sim (cb.withK K') g' st' s'→Q s'):
  wpAny cb.M cb.A (holding [.ref la] (pyIter (.ref la)) >>=fun it'=>runOwn (.compStart (flatE id1 id2 iter p p' p1 p2 scope pos) 1 it' (.ref D) cb.env) cb.env >>=fun o0=>pure ()) (fun o0 s'=>Q s') E s:=by
 have f:=X.free (Nat.le_refl _)
 refine wpAny_bind (wpAny_holding (wpAny_pyIter_list (frozen_list hb cls dat (.refl _) X) ?_))
 have XN:=X.newK (s':={s with heap:=s.heap.push {cls:=.type "list_iterator",data:=.fields #[.ref la,.int 0 0]}}) ⟨rfl,rfl⟩ (Nat.le_refl _) (fun o0 o0 e=>Heap.get?_push_of_some _ e) (Heap.get?_push_size _ rfl)
 generalize s.heap.objs.size=q at f XN
 generalize s.heap.push {cls:=.type "list_iterator",data:=.fields #[.ref la,.int 0 0]}=H1 at XN
 have hne:D≠q:=fun z=>aBn f.K (z▸hD)
 have okc:CxOk (cb.withK (delK K D)):=okb.withK (delK_le hn up)
 have ip:SeqIt q la 0 (addK K q {cls:=.type "list_iterator",data:=.fields #[.ref la,.int 0 0]}):=⟨_,aKs,rfl,rfl⟩
 have W:Walk g (fun o0=>none) (.Name id2 p') q l (· =q) (SeqIt q la):=seq_walk reps fun le o0 X=>frozen_list hb cls dat le X
 have lk:BH.Le (delK K D) (addK K q {cls:=.type "list_iterator",data:=.fields #[.ref la,.int 0 0]}):=fun a o e=>(Classical.em (a=D)).elim (fun z=>aBn delK_self (z▸e)) fun z=>addK_le f.K a o ((delK_ne z).symm.trans e)
 have main:codeAny cb.M cb.A (.compLoop (flatE id1 id2 iter p p' p1 p2 scope pos) 1 (.ref q) (.ref D) cb.env) (LoopEnd (cb.withK (delK K D)) g (FlInv D st.mem (fun j=>xs++l.take j) l.length) (fun o0 o0 o0 o0=>False) ((.ok (),st):Ex Unit)) {s with heap:=H1}:=by
  refine loop_any (c:=cb.withK (delK K D)) (em:=flatEm1 id2 p' p2 (.ref D) cb.env) (out:=fun o0=>.next) (Inv:=FlInv D st.mem (fun j=>xs++l.take j)) flat_turns1 W okc (fun o0 o0 e=>nomatch e) (fun a o e z=>aBn ((delK_ne fun w=>hne (w.symm.trans z)).trans (z▸f.K)) e)
   (fun le hK=>FlInv.move le (hK D hne)) (fun {i x K g₁ v st' s'} hx up' l' inv rep X'=>?_) lk ip XN ⟨ob,(aKn hne).trans hD,.of_eq (apn _).symm acc,rfl⟩
  obtain⟨ob',hD',acc',hm⟩:=inv
  refine wpAny_eq (bind_assoc ..).symm (wpAny_bind (wpAny_mono (name_back (c:=cb.withK K) b2.withK d2 X' rep) (fun v s2 z=>?_) fun o0 o0 z=>z.elim))
  obtain⟨g2,st2,l2,X2,rep2,hm2⟩:=z
  have hi:=(List.getElem?_eq_some_iff.mp hx).1
  refine wpAny_bind (wpAny_mono (acc_append (c:=cb.withK (delK _ D)) okc up' delK_self X2 hD' (acc'.mono l2.1) rep2 ?_) (fun o0 s3 z=>?_) fun o0 o0 z=>z)
  ·exact ltr (by rw[lap,lap];exact Nat.add_le_add_left (List.length_take_le' _ _) _) hl
  ·obtain⟨ob3,acc3,X3⟩:=z
   exact wpAny_pure (.next rfl g2 (addK K D ob3) st2 l2 (BH.Le.of_none delK_self up') (fun a o (h:a=q) e=>(aKn fun z=>hne (z.symm.trans h)).trans e) X3 ⟨ob3,aKs,.of_eq (by rw[List.take_add_one,hx,asc];rfl) acc3,hm2.trans hm⟩)
 refine wpAny_bind (wpAny_runOwn (codeAny_mono (flat_start main (W.iter (c:=cb.withK (addK K q _)) ip XN main)) fun res s' z=>?_))
 rcases z with⟨rfl,g',K',st',le',up,sim,inv⟩ | ⟨v,_,_,_,_,_,_,_,dn⟩ | ⟨v,_,x,hr,_⟩
 ·exact wpAny_pure (hQ _ g' K' st' le' up inv sim)
 ·exact dn.elim
 ·exact nomatch hr
theorem flat_loop{i j:Nat}(h1:∀c',InnerOf c scope c'→Bindable c' i id1)(h2:∀c',InnerOf c scope c'→Bindable c' j id2)(d1:(id1==("__debug__" :Str))=false)(d2:(id2==("__debug__" :Str))=false):
  LoopOk c g scope (flatE id1 id2 iter p p' p1 p2 scope pos) (.Name id1 p) (fun xs st=>oK (flatO xs) retK st):=fun {cb} okb I {g₂ q D L xs Own IP K st s ob r} le walk hL hO up ip len hOD hn hD acc X e hlen=>by
 obtain⟨z,e1,e2⟩:=optK_get e
 obtain⟨ls,e3,rfl⟩:=map_get e1
 have hl:=hlen _ (congrArg Prod.fst (Option.some.inj e2)).symm
 cases listsOf_map e3
 refine codeAny_mono (loop_any (c:=cb) (r:=r) (em:=flatEm id1 id2 iter p p' p1 p2 scope pos (.ref D) cb.env) (out:=fun o0=>.next) (Inv:=FlInv D st.mem fun i=>(ls.take i).flatten) (Dn:=fun o0 o0 o0 o0=>False) flat_turns0 walk okb hL hO
  (fun le hK=>FlInv.move le (hK D hOD)) (fun {i x K g₁ v st' s'} hx up' l' inv rep X'=>?_) up ip X ⟨ob,hD,acc,rfl⟩) fun res s' z=>?_
 ·obtain⟨ob',hD',acc',hm⟩:=inv
  obtain⟨l2,hls,rfl⟩:=map_get (List.getElem?_map.symm.trans hx)
  refine wpAny_eq (bind_assoc ..).symm (wpAny_bind (wpAny_mono (name_back (c:=cb.withK K) (h1 _ (I K)) d1 X' rep) (fun v s2 z=>?_) fun o0 o0 z=>z.elim))
  obtain⟨g2,st2,le2,X2,rep2,hm2⟩:=z
  obtain⟨la,o,vs,n,rfl,hb,cls,dat,reps,_,_⟩:=rep2
  have ht:=take_flat hls
  refine wpAny_bind (wpAny_standAt (flat_inner (cb:=cb) okb (h2 _ (I cb.K)) d2 up' hn hD' (acc'.mono le2.1) X2 hb cls dat reps (ht▸ltr flat_len hl) fun s' g' K' st' le' up2 inv sim=>?_))
  obtain⟨ob2,hD2,acc2,hm3⟩:=inv
  exact .next rfl g' K' st' (le2.trans le') ((delK_le hn up').trans up2) (fun a o h e=>up2 a o ((delK_ne fun(z:a=D)=>hOD (z▸h)).trans e)) sim ⟨ob2,hD2,.of_eq ((congrArg (_++ ·) List.take_length).trans ht.symm) acc2,hm3.trans (hm2.trans hm)⟩
 ·rcases z with⟨rfl,g',K',st',le',up,sim,ob,hD,acc,hm⟩ | ⟨v,_,_,_,_,_,_,_,dn⟩ | ⟨v,rfl,b⟩
  ·cases Option.some.inj e2
   exact .next _ rfl _ rfl g' K' st' ob le' up hD (.of_eq (by rw[lmp,List.take_length]) acc) sim hm
  ·exact dn.elim
  ·exact .bad v rfl b
end
section
variable{c c' cb:Cx}{g g' g₁:Gh}{st st':St}{s s' s₁:Shared}{v v' u:Value}{w w':W}{x y:Expr}{pos pa pb tpos vpos:Pos}{ida idb:Str}{env:Env}{i j:Nat}{a b:X}{x1 x2:Nat}
theorem ite_or{α:Type}{p:Prop}{_:Decidable p}{a b A B:α}(h1:a=A∨a=B)(h2:b=A∨b=B):(if p then a else b)=A∨(if p then a else b)=B:=by
 by_cases h:p
 ·rw[if_pos h];exact h1
 ·rw[if_neg h];exact h2
theorem two_names{f:Expr→Option Str}{A B:Expr}(h1:f A=none∨f A=some ida)(h2:f B=none∨f B=some idb):[A,B].filterMap f=[ida,idb]∨(([A,B].filterMap f).length !=2)=true:=by
 rw[List.filterMap_cons,List.filterMap_cons]
 rcases h1 with h1 | h1<;>rcases h2 with h2 | h2<;>rw[h1,h2]<;>first | exact .inl rfl | exact .inr rfl
theorem swapped_two(hca:(constantsAlone 8 x&&constantsAlone 8 y)=false):swappedStores [.Tuple [.Name ida pa,.Name idb pb] x1 tpos] (.Tuple [x,y] x2 vpos) env=pure none∨swappedStores [.Tuple [.Name ida pa,.Name idb pb] x1 tpos] (.Tuple [x,y] x2 vpos) env=pure (some [ida,idb]):=by
 unfold swappedStores
 refine ite_or (.inl rfl) (ite_or (.inl rfl) ?_)
 dsimp only
 have key:=two_names (ida:=ida) (idb:=idb) (f:=fun | .Name id pos=>if(env.kindOf id==some .local&&pos.line==((([Expr.Name ida pa,.Name idb pb].head?).map (·.pos.line)).getD 0))=true then some id else none | _=>none) (A:=.Name ida pa) (B:=.Name idb pb)
  (ite_or (.inr rfl) (.inl rfl)) (ite_or (.inr rfl) (.inl rfl))
 generalize List.filterMap _ _=L at key ⊢
 rcases key with rfl | key
 ·refine ite_or (.inl rfl) (ite_or (.inl rfl) (.inr (if_neg ?_)))
  rw[show [x,y].all (constantsAlone 8)=false from(congrArg (constantsAlone 8 x&& ·) (Bool.and_true _)).trans hca]
  nofun
 ·exact .inl (if_pos (Bool.or_eq_true_iff.mpr (.inl key)))
theorem assign2_run{C:CallT}{γ:Type}(κ:Kt Flow γ):sk C (.assign2 i j a b) κ st=foldVsK (cks C [a,b]) (fun ws st=>κ .next ⟨(st.loc.set i ws[0]?).set j ws[1]?,st.mem⟩) st:=rfl
inductive TwoP(g:Gh)(ws:List W)(vs:List Value):Prop | mk (w w':W) (v v':Value) (e:ws=[w,w']) (e2:vs=[v,v']) (h:RepW g w v) (h':RepW g w' v')
theorem two_of{ws:List W}{vs:List Value}(h:WsRep 2 g ws vs):TwoP g ws vs:=by
 obtain⟨hr,hl⟩:=h
 cases hr with
 |nil=>cases hl
 |cons h hr=>cases hr with
  |nil=>cases hl
  |cons h' hr=>cases hr with
   |nil=>exact .mk _ _ _ _ rfl rfl h h'
   |cons _ _=>exact nomatch Nat.succ.inj (Nat.succ.inj hl)
theorem assign2_exec(ba:Bindable c i ida)(bb:Bindable c j idb)(hij:i≠j)(hx:isStar x=false)(hy:isStar y=false)(hca:(constantsAlone 8 x&&constantsAlone 8 y)=false)(h1:SX c g x a)(h2:SX c g y b):
  SE c g (.Assign [.Tuple [.Name ida pa,.Name idb pb] x1 tpos] (.Tuple [x,y] x2 vpos) pos) (.assign2 i j a b):=by
 show Snd c g (PySem.exec (.Assign [.Tuple [.Name ida pa,.Name idb pb] x1 tpos] (.Tuple [x,y] x2 vpos) pos) c.env) _ _
 have hs:=swapped_two (ida:=ida) (idb:=idb) (pa:=pa) (pb:=pb) (tpos:=tpos) (vpos:=vpos) (x1:=x1) (x2:=x2) (env:=c.env) hca
 rw[arm_exec_Assign]
 have e1:swapsWithSole [.Tuple [.Name ida pa,.Name idb pb] x1 tpos] (.Tuple [x,y] x2 vpos) pos.line c.env=pure false:=rfl
 rw[e1]
 refine Snd.standAt (Snd.pureL ⟨fun {g₁} l {st s} X {γ κ r} e=>wpAny_bind (wpAny_bind (wpAny_standAt (wpAny_bind (wpAny_mono ((spliced_sx (pos:=vpos) (.cons ⟨hx,h1⟩ (.cons ⟨hy,h2⟩ .nil)) (.refl _)).h l X (assign2_run κ▸e)) (fun vs s' z=>?_) fun o0 o0 z=>z))))⟩)
 obtain⟨ws,g',st',le,X',hw,e'⟩:=z
 obtain⟨w,w',v,v',rfl,rfl,hv,hv'⟩:=two_of hw
 have ht:(s'.heap.push {cls:=.type "tuple",data:=.seq #[v,v']}).IsTuple s'.heap.objs.size #[v,v']:=⟨_,Heap.get?_push_size _ rfl,rfl,0,rfl⟩
 refine wpAny_newTuple ?_ (show 2≤sizeLine by decide+kernel)
 have X4:=X'.grow (s':={s' with heap:=s'.heap.push {cls:=.type "tuple",data:=.seq #[v,v']}}) ⟨rfl,rfl⟩ fun o0 o0 e=>Heap.get?_push_of_some _ e
 have fin:∀{t:Sem Unit} {s₂:Shared},Sim c g' st' s₂→Snd c g' t (fun κ st=>κ () ⟨(st.loc.set i (some w)).set j (some w'),st.mem⟩) TrueP→wpAny c.M c.A t (fun o0 s=>wpAny c.M c.A (pure PySem.Flow.next) (Post c g₁ κ r FlowRep) (Bad c g₁ false r) s) (Bad c g₁ false r) s₂:=fun {t s₂} Y S=>
  wpAny_mono (S.h (.refl _) Y (k:=fun o0=>κ .next) e') (fun o0 o0 z=>match z with | .mk _ g'' st'' le'' sim'' _ e''=>wpAny_pure (.mk .next g'' st'' (le.trans le'') sim'' rfl e'')) fun o0 o0 z=>Bad.up le z
 rcases hs with hs | hs
 ·refine wpAny_eq (congrArg (· >>=_) hs) (wpAny_bind (wpAny_pure (wpAny_bind (wpAny_assign_Tuple (x1:=x1) X.ok.handled ht rfl rfl fun h' he=>?_))))
  exact fin (X4.grow (s':={s' with heap:=h'}) ⟨rfl,rfl⟩ fun b o q=>he b o (Nat.ne_of_lt (Heap.lt_size q)) q) (Snd.bind (Snd.holding (name_assign (p:=pa) ba hv)) (fun o0=>rfl) fun g1 o0 o0 le o0=>Snd.bind (Snd.holding (name_assign (p:=pb) bb (hv'.mono le))) (fun o0=>rfl) fun o0 o0 o0 o0 o0=>Snd.pure (x:=()) fun o0 o0=>trivial)
 ·refine wpAny_eq (congrArg (· >>=_) hs) (wpAny_bind (wpAny_pure (wpAny_bind (wpAny_rule (wpAny_bind (wpAny_unpackItems_tuple (items:=#[v,v']) X.ok.handled ht fun h' he=>?_))))))
  refine wpAny_bind (fin (X4.grow (s':={s' with heap:=h'}) ⟨rfl,rfl⟩ fun b o q=>he b o (Nat.ne_of_lt (Heap.lt_size q)) q) (Snd.bind (Snd.holding (store_snd bb hv')) (fun κ=>?_) fun g1 o0 o0 le o0=>Snd.bind (Snd.holding (store_snd ba (hv.mono le))) (fun o0=>rfl) fun o0 o0 o0 o0 o0=>Snd.pure (x:=()) fun o0 o0=>trivial))
  exact funext fun st=>congrArg (fun l=>κ () ⟨l,st.mem⟩) (List.set_comm _ _ hij)
end
section
set_option maxRecDepth 100000
section
variable{prog:Program}{w:World}{A:Around}{E:Value→Shared→Prop}{h:Heap}{g:Array GenState}{d:Drawn}{t:Nat}{os:OsState}
variable{nm q:Str}{C N D:Addr}{bs bmB:List Value}{hdct:Bool}{sn:List Str}{sub:List Value}{ab:Bool}{col:Option Bool}{dd:Option Addr}{k0 k1 k2 k3 k5:Option Value}{B newId initId:String}
theorem tail_has{X:String}:(Value.ref C::Value.ref D::bmB).contains (.type X)=bmB.contains (.type X):=by
 rw[List.contains_cons,List.contains_cons];rfl
theorem own_new(F:ExcBaseFacts B newId initId bmB){R:Result→Shared→Prop}{rest:List Value}(hC:h.get? C=some (excClassObj nm q C N bs (.ref D::bmB) hdct sn sub ab col dd k0 k1 k2 k3 k5 newId))
  (hq:R (.ok (.ret (.ref (h.objs.size+1)))) ⟨(h.push {cls:=.type "tuple",data:=.seq rest.toArray}).push
   {cls:=.ref C,data:=.fields #[.ref h.objs.size,.none,.none,.none,.bool false,.none]},g,d,t,os⟩) (hrest:rest.length≤sizeLine):
  codeAny (model prog w) A (.builtin newId ⟨.ref C::rest,[]⟩) R ⟨h,g,d,t,os⟩:=by
 have hends:=F.ends
 have hcB:(Value.ref C::Value.ref D::bmB).contains (.type B)=true:=tail_has.trans F.hasB
 have hcA:(Value.ref C::Value.ref D::bmB).contains (.type "AttributeError")=false:=tail_has.trans F.noAttr
 have hcN:(Value.ref C::Value.ref D::bmB).contains (.type "NameError")=false:=tail_has.trans F.noName
 refine codeAny_builtinAt F.entry ?_
 unfold Builtin.«BaseException.__new__»
 refine PySem.wpAt_bind ?_
 show PySem.wpAt _ _ _ (stack >>=_) _ _ _
 refine PySem.wpAt_bind (PySem.wpAt_stack fun p below=>PySem.wpAt_of_wpAny ?_)
 wp_walk
 refine PySem.wpAt_of_wpAny ?_
 rw[F.owner]
 repeat (first | with_reducible refine wpAny_madeHere_exc F.canon hC ?_ | with_reducible refine wpAny_loadPart_at hC ?_ | (with_reducible refine wpAny_isSubtype_exc hC ?_;first | rw[hcB] | rw[hcA] | rw[hcN]) | wp_step)
 show R _ _
 rw[Heap.size_push]
 exact hq
theorem own_type_call(F:ExcBaseFacts B newId initId bmB){K:Frag}{rest:List Value}{fI:Addr}{Q:PySem.Fin→Shared→Prop}
  (hC:h.get? C=some (excClassObj nm q C N bs (.ref D::bmB) hdct sn sub ab col dd k0 k1 k2 k3 k5 newId)) (X:K.In h) (hi:findIn K (.ref C) "__init__" =some (some (.ref fI))) (hf:typeIn K (.ref fI)=some (.type "function"))
  (hq:∀h' e,h.objs.size≤e→Heap.MadeExcOf h h' e (.ref C) rest→wpAny (model prog w) A (call (.ref fI) (.ref e::rest)) (fun r s'=>r=.none∧Q (.done (.ret (.ref e))) s') E ⟨h',g,d,t,os⟩) (hrest:rest.length≤sizeLine):
  wpAny (model prog w) A (Builtin.«type.__call__» ⟨.ref C::rest,[]⟩) Q E ⟨h,g,d,t,os⟩:=by
 repeat (first | with_reducible refine wpAny_loadPart_at hC ?_ | with_reducible refine wpAny_madeBy_exc hC ?_ | wp_step)
 refine codeAny_call_builtin_code (Code.quiet_builtin _ F.quiet) (wpAny_check_new_subU (bmB:=.ref D::bmB) F ((List.contains_cons ..).trans F.hasB) .base hC ?_)
 refine own_new F hC ?_ hrest
 show wpAny _ _ _ _ _ _
 generalize hH:(h.push {cls:=.type "tuple",data:=.seq rest.toArray}).push {cls:=.ref C,data:=.fields #[.ref h.objs.size,.none,.none,.none,.bool false,.none]}=h1
 have up:∀b o,h.get? b=some o→h1.get? b=some o:=fun b o e=>by rw[←hH];exact Heap.get?_push_of_some _ (Heap.get?_push_of_some _ e)
 have hC₁:=up _ _ hC
 have X₁:=X.keeps up
 have hget:h1.get? (h.objs.size+1)=some {cls:=.ref C,data:=.fields #[.ref h.objs.size,.none,.none,.none,.bool false,.none]}:=by rw[←hH];heap_get
 have hmade:Heap.MadeExcOf h h1 (h.objs.size+1) (.ref C) rest:=⟨up,Heap.get?_none_of_le (Nat.le_succ _),h.objs.size,hget,Heap.get?_none_of_le (Nat.le_refl _),by rw[←hH];exact Heap.get?_push_of_some _ (Heap.get?_push_at rfl rfl)⟩
 have hcC:(Value.ref C::Value.ref D::bmB).contains (.ref C)=true:=by simp
 unfold isInstance
 repeat (first | with_reducible refine wpAny_loadPart_at hget ?_ | (with_reducible refine wpAny_isSubtype_exc hC₁ ?_;rw[hcC]) | wp_step)
 show wpAny _ _ (typeLookup (.ref C) _) _ _ _
 refine(looks_findIn X₁ hi).here (s:=⟨h1,g,d,t,os⟩) (wpAny_holding (wpAny_bind ?_))
 refine(bind_fn X₁ _ hf).here (s:=⟨h1,g,d,t,os⟩) ?_
 refine(wpAny_bind (wpAny_mono (hq _ (h.objs.size+1) (Nat.le_succ _) hmade) (fun r s' hr=>?_) fun o0 o0 x=>x))
 obtain⟨rfl,hQ⟩:=hr
 wp_walk
 exact hQ
theorem own_call(F:ExcBaseFacts B newId initId bmB){K:Frag}{rest:List Value}{fI:Addr}{Q:Value→Shared→Prop}
  (hC:h.get? C=some (excClassObj nm q C N bs (.ref D::bmB) hdct sn sub ab col dd k0 k1 k2 k3 k5 newId)) (X:K.In h) (hi:findIn K (.ref C) "__init__" =some (some (.ref fI))) (hf:typeIn K (.ref fI)=some (.type "function"))
  (hq:∀h' e,h.objs.size≤e→Heap.MadeExcOf h h' e (.ref C) rest→wpAny (model prog w) (A.under (.builtin "type.__call__" ⟨.ref C::rest,[]⟩)) (call (.ref fI) (.ref e::rest)) (fun r s'=>r=.none∧Q (.ref e) s') E ⟨h',g,d,t,os⟩) (hrest:rest.length≤sizeLine):
  wpAny (model prog w) A (call (.ref C) rest) Q E ⟨h,g,d,t,os⟩:=by
 have f1:=tc_lookup
 have f2:=tc_bind (.ref C)
 have hT:(⟨h,g,d,t,os⟩:Shared).TypeIs (.ref C) "type" :=⟨_,hC,rfl⟩
 refine wpAny_call (codeAny_of_tree ?_)
 show wpAny _ _ (callAny (.ref C) _) _ _ _
 repeat (any_goals (first | assumption | with_reducible refine wpAny_loadPart_at hC ?_ | wp_step))
 refine⟨rfl,?_⟩
 refine codeAny_call_builtin_at (Code.quiet_builtin _ (by decide+kernel)) entry_typeCall (wpAny_check_type_call_sub hC (own_type_call (hrest:=hrest) F hC X hi hf fun h' e hle hm=>?_))
 exact hq h' e hle hm
end
theorem exc_init_get:typeOf (.builtin "Exception.__init__")=pure (.type "wrapper_descriptor"):=by kernel_rfl
theorem wd_get:Slot "wrapper_descriptor" "__get__" "wrapper_descriptor.__get__" :=.of (owner:= "wrapper_descriptor") (n:= "__get__") (by rw[typeLookup_type,builtinLookup_eq_fast];kernel_rfl) (by decide+kernel) (by decide+kernel) (by decide+kernel)
 (by first | exact .inl (by decide+kernel) | exact .inr (by decide+kernel)) (by rw[isSubtype_type];kernel_rfl)
theorem entry_wd_get:entryFor table "wrapper_descriptor.__get__" =some Builtin.«wrapper_descriptor.__get__»:=entryFor_of_tree (by kernel_rfl)
theorem wd_getArgs(a b c:Value):argsOk "wrapper_descriptor.__get__" ⟨[a,b,c],[]⟩:=by unfold argsOk;kernel_rfl
abbrev wrapObj(x:Addr):Obj:={cls:=.type "method-wrapper",dict:=none,data:=.fields #[.builtin "Exception.__init__",.ref x],slots:=#[]}
section
variable{prog:Program}{w:World}{A:Around}{E:Value→Shared→Prop}{h:Heap}{g:Array GenState}{d:Drawn}{t:Nat}{os:OsState}
theorem exc_init_sig:Manifest.signature? "Exception.__init__" =some ⟨.positional, "*", "Exception",.self,[⟨"args",.varPos,false⟩]⟩:=by kernel_rfl
theorem exc_init_kind:builtinKind "Exception.__init__" =some .slot:=by decide+kernel
theorem entry_exc_init:entryFor table "Exception.__init__" =some Builtin.«BaseException.__init__»:=F.excBase_Exception.initEntry
theorem super_init_ga{K:Frag}{so D x C:Addr}{ox:Obj}{l₀ tl:List Value}{tk:Tok}{Q:PySem.Fin→Shared→Prop}
  (hso:h.get? so=some {cls:=.type "super",dict:=none,data:=.fields #[.ref D,.ref x,.ref C],slots:=#[]}) (hno:Looks (model prog w) h (opaqueClassAbove (.ref C)) none)
  (hC:Looks (model prog w) h (mroOf (.ref C)) l₀) (hl:(l₀.dropWhile (· !=.ref D)).drop 1=tl) (X:K.In h) (hf:alongIn K "__init__" tl=some (some (.builtin "Exception.__init__"))) (hx:h.get? x=some ox) (hxc:ox.cls=.ref C) (hsub:Looks (model prog w) h (isSubtype (.ref C) (.type "Exception")) true) (hxC:x≠C)
  (hq:Q (.done (.ret (.ref h.objs.size))) ⟨h.push (wrapObj x),g,d,t,os⟩):
  wpAny (model prog w) A (Builtin.«super.__getattribute__» ⟨[.ref so,.str "__init__" tk],[]⟩) Q E ⟨h,g,d,t,os⟩:=by
 have hlk:=wd_get.lookup
 have hne:(Value.ref x==Value.ref C)=false:=by simp[hxC]
 have hTf:(⟨h,g,d,t,os⟩:Shared).TypeIs (.builtin "Exception.__init__") "wrapper_descriptor" :=exc_init_get
 have hdt:({cls:=.type "super",dict:=none,data:=.fields #[.ref D,.ref x,.ref C],slots:=#[]}:Obj).data=.fields #[.ref D,.ref x,.ref C]:=rfl
 have f0:(#[.ref D,.ref x,.ref C]:Array Value)[0]?=some (.ref D):=rfl
 have f1:(#[.ref D,.ref x,.ref C]:Array Value)[1]?=some (.ref x):=rfl
 have f2:(#[.ref D,.ref x,.ref C]:Array Value)[2]?=some (.ref C):=rfl
 unfold Builtin.«super.__getattribute__»
 repeat (first
  |(with_reducible refine wpAny_field hso hdt f0 ?_) | (with_reducible refine wpAny_field hso hdt f1 ?_) | (with_reducible refine wpAny_field hso hdt f2 ?_)
  |(with_reducible refine ks_wpAny_notOpaque hno ?_)
  |(with_reducible refine Looks.at hC ?_;rw[hl])
  |(refine ks_forIn_along X (fun o0 o0=>rfl) rfl ?_ hf)
  |(with_reducible refine wpAny_typeOf hTf ?_)
  |(with_reducible refine wpAny_call_entry wd_get hTf entry_wd_get ?_ (wd_getArgs _ _ _))
  |(simp only[hne,Bool.or_false,Bool.false_eq_true,if_false])
  |(with_reducible refine⟨_,rfl,?_⟩)
  |wp_step
  |dsimp only)
 have hid: ".".intercalate ("Exception.__init__".cutAt '.').dropLast= "Exception" :=by decide+kernel
 rw[hid,hxc]
 refine Looks.at hsub ?_
 simp only[Bool.not_true,Bool.false_eq_true,if_false]
 refine wpAny_pure ?_
 unfold newFields
 refine wpAny_bind (wpAny_newObj_type ?_ (by size_fits))
 exact wpAny_pure ⟨_,rfl,wpAny_bind (wpAny_pure (wpAny_pure (wpAny_pure hq)))⟩
theorem super_init_method{K:Frag}{so D x C:Addr}{ox:Obj}{l₀ tl:List Value}{pl:Sem Bool}{Q:Value×List Value→Shared→Prop}
  (hso:h.get? so=some {cls:=.type "super",dict:=none,data:=.fields #[.ref D,.ref x,.ref C],slots:=#[]}) (hno:Looks (model prog w) h (opaqueClassAbove (.ref C)) none)
  (hC:Looks (model prog w) h (mroOf (.ref C)) l₀) (hl:(l₀.dropWhile (· !=.ref D)).drop 1=tl) (X:K.In h) (hf:alongIn K "__init__" tl=some (some (.builtin "Exception.__init__"))) (hx:h.get? x=some ox) (hxc:ox.cls=.ref C) (hsub:Looks (model prog w) h (isSubtype (.ref C) (.type "Exception")) true) (hxC:x≠C)
  (hq:Q (.ref h.objs.size,[]) ⟨h.push (wrapObj x),g,d,t+1,os⟩):
  wpAny (model prog w) A (getMethod (.ref so) "__init__" pl) Q E ⟨h,g,d,t,os⟩:=by
 have hlk:=F.ks_slot_super_ga.lookup
 have hcan:=F.ks_canon_super_ga
 have hT:∀t',(⟨h,g,d,t',os⟩:Shared).TypeIs (.ref so) "super" :=fun o0=>⟨_,hso,rfl⟩
 unfold getMethod
 refine wpAny_bind (wpAny_specialOf (hT _) hlk ?_)
 show wpAny _ _ (if(Manifest.canonical "super.__getattribute__" != "object.__getattribute__")=true then _ else _) _ _ _
 rw[if_pos hcan]
 unfold getAttr getAttrBy
 refine wpAny_bind (wpAny_bind (wpAny_mkText (wpAny_holding (wpAny_bind (wpAny_typeOf (hT _) (wpAny_bind (wpAny_of_eq hlk ?_)))))))
 show wpAny _ _ (getAttrByItsOwn (.ref so) (.str "__init__" t) (.type "super") (.builtin "super.__getattribute__") true false) _ _ _
 unfold getAttrByItsOwn hookBefore callGetattribute boundAndCalled
 refine wpAny_bind (wpAny_of_eq (show(if onTheHeap (.type "super")then typeLookup (.type "super") "__getattr__" else pure none)=pure none from rfl) ?_)
 refine wpAny_bind (wpAny_attempt (wpAny_holding ?_))
 show wpAny _ _ (bindSpecial (.builtin "super.__getattribute__") (.ref so) >>=_) _ _ _
 refine wpAny_bind (wpAny_of_eq (F.ks_slot_super_ga.bind _) ?_)
 refine wpAny_mono (Q:=fun v s'=>v=.ref h.objs.size∧s'=⟨h.push (wrapObj x),g,d,t+1,os⟩) (E:=fun o0 o0=>False)
  (wpAny_call_entry F.ks_slot_super_ga (hT _) F.ks_entry_super_ga (super_init_ga hso hno hC hl X hf hx hxc hsub hxC ⟨_,rfl,rfl,rfl⟩) (F.ks_gaArgs_super _ _)) (fun v s' hv=>?_) fun o0 o0 z=>z.elim
 obtain⟨rfl,rfl⟩:=hv
 exact wpAny_pure (wpAny_pure hq)
variable{nm q:Str}{C N D:Addr}{bs bm:List Value}{hdct:Bool}{sn:List Str}{sub:List Value}{ab:Bool}{col:Option Bool}{dd:Option Addr}{k0 k1 k2 k3 k5:Option Value}{newId:String}
theorem wrap_check{e:Addr}{oe:Obj}{rest:List Value}{Q:Unit→Shared→Prop}{M:Model}(hC:h.get? C=some (excClassObj nm q C N bs bm hdct sn sub ab col dd k0 k1 k2 k3 k5 newId))(he:h.get? e=some oe)(hcls:oe.cls=.ref C)
  (hq:Q () ⟨h,g,d,t,os⟩):wpAny M A (checkBoundCall "Exception.__init__" ⟨.ref e::rest,[]⟩) Q E ⟨h,g,d,t,os⟩:=by
 simp only[checkBoundCall,exc_init_kind,exc_init_sig,Bind.checkArgs]
 repeat (first | (with_reducible refine wpAny_loadPart_at he ?_;rw[hcls]) | with_reducible refine wpAny_loadPart_at hC ?_ | wp_step)
 refine wpAny_onRaise ?_
 rw[show∀(a b:String) (n:Nat),Bind.check ⟨.positional, "*", "Exception",.self,[⟨"args",.varPos,false⟩]⟩ a b n (List.map (fun x=>x.fst) ({pos:=Value.ref e::rest}:Args).kw)=pure ()from
  fun a b n=>check_star_args _ _ _ _ _ _]
 exact wpAny_pure hq
theorem wrap_call{mw e:Addr}{oe:Obj}{vs:Array Value}{v:Value}{Q:Value→Shared→Prop}(hC:h.get? C=some (excClassObj nm q C N bs bm hdct sn sub ab col dd k0 k1 k2 k3 k5 newId))(hcls:oe.cls=.ref C)
  (hmw:h.get? mw=some (wrapObj e)) (he:h.get? e=some oe) (hd:oe.data=.fields vs) (hsz:vs.size=6) {t0:Addr} (h0:vs[0]?=some (.ref t0))
  (hq:∀h' tu,h.get? tu=none→h'.get? e=some (Obj.mapFields (·.setIfInBounds 0 (.ref tu)) oe)→(∀b o,b≠e→h.get? b=some o→h'.get? b=some o)→Q .none ⟨h',g,d,t,os⟩):
  wpAny (model prog w) A (call (.ref mw) [v]) Q E ⟨h,g,d,t,os⟩:=by
 refine wpAny_call (codeAny_of_tree ?_)
 show wpAny _ _ (callAny (.ref mw) _) _ _ _
 unfold callAny
 refine wpAny_bind (wpAny_load hmw ?_)
 show wpAny _ _ (checkBoundCall "Exception.__init__" ⟨[.ref e,v],[]⟩ >>=fun o0=>again (.builtin "Exception.__init__" ⟨[.ref e,v],[]⟩)) _ _ _
 refine wpAny_bind (wrap_check hC he hcls ?_)
 refine wpAny_pure ⟨?_,codeAny_builtin entry_exc_init ?_⟩
 ·exact Code.quiet_builtin _ (by decide+kernel)
 unfold Builtin.«BaseException.__init__»
 show wpAny _ _ (newTuple [v] >>=fun tu=>Builtin.BaseException.bexcPut (.ref e) 0 tu >>=fun o0=>ret .none) _ _ _
 refine wpAny_bind (wpAny_newTuple ?_)
 have he':=Heap.get?_push_of_some {cls:=.type "tuple",data:=.seq #[v]} he
 unfold Builtin.BaseException.bexcPut
 refine wpAny_bind (wpAny_bind (wpAny_field he' hd h0 (wpAny_bind (wpAny_setField he' hd (by lia) (wpAny_letGo (wpAny_pure ?_))))))
 have hne:∀b o,b≠e→h.get? b=some o→((h.push {cls:=.type "tuple",data:=.seq #[v]}).update e (Obj.mapFields (·.setIfInBounds 0 (.ref h.objs.size)))).get? b=some o:=fun b o hb q=>by
  rw[Heap.get?_update_other _ _ (Ne.symm hb)];exact Heap.get?_push_of_some _ q
 exact hq _ h.objs.size (Heap.get?_none_of_le (Nat.le_refl _)) (Heap.get?_update_self _ he' (Obj.isFreed_of_fields (Obj.data_mapFields hd _))) hne
end
open PySem.Builtin PySem.Builtin.ObjectAttr in
section
variable{prog:Program}{w:World}{A:Around}{K:Frag}{C D x:Addr}{s:Shared}{R:Result→Shared→Prop}
theorem osa_exc{ox:Obj}{od:Option Obj}{name:Str}{tk:Tok}{v:Value}{cd:ClassData}(X:K.In s.heap)(I:InstAt s.heap x ox C od)(hc:clsIn K C=some cd)
  (hm:cd.mro=[.ref C,.ref D,.type "Exception",.type "BaseException",.type "object"]) (ht:takerIn K C name=some none)
  (h:∀b,wpAny (model prog w) A.in1 (storeInOwnDict (.ref x) (.ref C) (.str name tk) name v b)
   (fun fin s'=>match fin with | .done f=>R (.ok f) s' | .again c'=>c'.quiet=true∧codeAny (model prog w) A c' R s') (fun e s'=>R (.error e) s') s):
  codeAny (model prog w) A (.call (.builtin "object.__setattr__") ⟨[.ref x,.str name tk,v],[]⟩) R s:=by
 have SF:=PySem.F.store_object
 have sub:Looks (model prog w) s.heap (isInstance (.ref x) (.type "object")) true:=I.type.andThen (looks_mroIn X (by unfold mroIn;rw[hc,Option.bind_some,hm];rfl))
 refine codeAny_call_builtin SF.slot.plain SF.entry (@check_slot (model prog w) _ _ s "object.__setattr__" "object" "__setattr__" (.ref x) [.str name tk,v] [] _ SF.kind SF.split sub (SF.args (.ref x) (.str name tk) v) ?_)
 obtain⟨attr,ha,hr⟩:=Option.bind_eq_some_iff.mp ht
 have hml:Looks (model prog w) s.heap (mroOf (.ref C)) cd.mro:=(looks_clsIn X hc).andThen .now
 have L3:Looks (model prog w) s.heap (storeTaker? attr) none:=by
  cases attr with
  |none=>exact .now
  |some a=>
   obtain⟨b,hb,hb'⟩:=Option.map_eq_some_iff.mp hr
   refine(looks_takesIn X hb).andThen ?_
   cases b
   ·exact .now
   ·cases hb'
 rw[osa_eq,refuse_eq]
 refine wpAny_bind (wpAny_bind (I.type.here (wpAny_bind (hml.here ?_))))
 rw[hm,refuseLoop_ref,refuseLoop_ref,PySem.F.store_Exception.passes]
 refine wpAny_pure (wpAny_bind (I.type.here (wpAny_bind ((looks_findIn X ha).here (wpAny_bind (L3.here ?_))))))
 exact h _
theorem exc_set{E:Value→Shared→Prop}{ox:Obj}{od:Option Obj}{name:Str}{v:Value}{cd:ClassData}{Q:Unit→Shared→Prop}(X:K.In s.heap)(I:InstAt s.heap x ox C od)(hc:clsIn K C=some cd)
  (hm:cd.mro=[.ref C,.ref D,.type "Exception",.type "BaseException",.type "object"]) (ht:takerIn K C name=some none) (hs:findIn K (.ref C) "__setattr__" =some (some (.builtin "object.__setattr__"))) (hdict:cd.hasDict=true)
  (hq:∀h' tk' dx m,h'.get? x=some {ox with dict:=some dx}→dx≠x→(ox.dict=none→s.heap.get? dx=none∧m=fun o0=>none)→(∀d',ox.dict=some d'→dx=d'∧s.heap.Ns1 dx m)→h'.Ns1 dx (fun y=>if y=name then some v else m y)→
   (∀b o,b≠x→b≠dx→s.heap.get? b=some o→h'.get? b=some o)→Q () {s with heap:=h',toks:=tk'})
  (hd:ox.dict=none∨∃dx m ns,ox.dict=some dx∧dx≠x∧s.heap.Ns1 dx m∧Within m ns∧ns.length≤100):
  wpAny (model prog w) A (setAttr (.ref x) name v) Q E s:=by
 refine set_plain X I hs (osa_exc (s:={s with toks:=s.toks+1}) X I hc hm ht fun b=>?_)
 obtain⟨hx,hxc,hno,_⟩:=I
 obtain⟨oc,odi,oda,osl⟩:=ox
 have hcl:oc=.ref C:=hxc
 subst hcl
 refine wpAny_bind (wpAny_pure (wpAny_bind (wpAny_bind (wpAny_loadPart (s:={s with toks:=s.toks+1}) hx (wpAny_bind (Looks.here (s:={s with toks:=s.toks+1}) (looks_clsIn X hc) ?_))))))
 rw[hdict]
 rcases hd with hd | ⟨dx,m,ns,hd,hne,hns,hw,hl⟩
 ·have hd:odi=none:=hd
  subst hd
  have hnc:∀c,oda≠.cls c:=fun c e=>by subst e;exact Bool.noConfusion hno
  have hx₁:(s.heap.push {cls:=.type "dict",data:=.dict #[]}).get? x=some ⟨.ref C,none,oda,osl⟩:=Heap.get?_push_of_some _ hx
  have hxs:x≠s.heap.objs.size:=Nat.ne_of_lt (Heap.lt_size hx)
  refine Eq.mpr (congrArg (fun t=>wpAny (model prog w) A.in1 t _ _ _) (?e:_=(alloc {cls:=.type "dict",data:=.dict #[]} >>=fun d=>update x (fun o=>{o with dict:=some d}) >>=fun o0=>pure (some d)))) ?_
  case e=>
   revert hnc
   generalize oda=d
   intro hnc
   cases d<;>first | exact absurd rfl (hnc _) | rfl
  have hfr:=(Heap.get?_some_iff.mp hx).2
  have hx₂:((s.heap.push {cls:=.type "dict",data:=.dict #[]}).update x fun o=>{o with dict:=some s.heap.objs.size}).get? x=some ⟨.ref C,some s.heap.objs.size,oda,osl⟩:=by
   refine(Heap.get?_update_self _ hx₁ ?_)
   revert hfr
   generalize oda=d
   intro hfr
   cases d<;>first | rfl | exact hfr
  have hgd:((s.heap.push {cls:=.type "dict",data:=.dict #[]}).update x fun o=>{o with dict:=some s.heap.objs.size}).get? s.heap.objs.size=some {cls:=.type "dict",data:=.dict #[]}:=
   (Heap.get?_update_ne _ _ _ _ hxs.symm).trans (Heap.get?_push_at rfl rfl)
  refine wpAny_bind (wpAny_alloc' (wpAny_bind (wpAny_update' hx₁ (wpAny_pure ?_))))
  generalize hH:(s.heap.push {cls:=.type "dict",data:=.dict #[]}).update x (fun o=>{o with dict:=some s.heap.objs.size})=H at hx₂ hgd
  have hk:∀b o,b≠x→s.heap.get? b=some o→H.get? b=some o:=fun b o hb q=>by
   rw[←hH,Heap.get?_update_ne _ _ _ _ hb];exact Heap.get?_push_of_some _ q
  have hnd:H.Ns s.heap.objs.size (fun o0=>none):=⟨_,#[],_,hgd,rfl,fun e he=>absurd he (by simp),fun o0=>rfl⟩
  show wpAny _ _ (storeInDict s.heap.objs.size (.str name s.toks) name v) _ _ _
  unfold storeInDict newKeyGuard
  refine wpAny_bind (wpAny_pure (wpAny_bind (wpAny_nsSet1 (Heap.Ns1.of_empty hnd) fun h' hn' hsb=>?_)))
  obtain⟨oD,esD,epD,hoD,hdD,hcD⟩:=hn'.count (Within.cons name v Within.nil)
  refine wpAny_bind (wpAny_lookBehind hoD (by rw[hdD];exact pastItsLine_dict (ltr hcD (by rw[lcn,List.length_nil,sizeLine_eq];lia))) ?_)
  refine wpAny_pure ?_
  refine hq h' _ s.heap.objs.size (fun o0=>none) ((hsb.2 x hxs).trans hx₂) hxs.symm (fun o0=>⟨Heap.get?_none_of_le (Nat.le_refl _),rfl⟩) (fun d' z=>by cases z) hn' fun b o hb hb' q=>(hsb.2 b hb').trans (hk b o hb q)
 ·have hd:odi=some dx:=hd
  subst hd
  refine wpAny_pure (a:=some dx) (wpAny_bind (wpAny_pure (wpAny_bind ?_)))
  refine wpAny_nsSet1 (s:={s with toks:=s.toks+1}) hns fun h' hn' hsb=>?_
  obtain⟨oD,esD,epD,hoD,hdD,hcD⟩:=hn'.count (Within.cons name v hw)
  refine wpAny_bind (wpAny_lookBehind hoD (by rw[hdD];exact pastItsLine_dict (ltr hcD (by rw[lcn,sizeLine_eq'];lia))) ?_)
  refine wpAny_pure ?_
  exact hq h' _ dx m ((hsb.2 x (Ne.symm hne)).trans hx) hne (fun z=>by cases z) (fun d' z=>by cases z;exact⟨rfl,hns⟩) hn' fun b o o0 hb q=>(hsb.2 b hb).trans q
end
end
section
set_option tactic.hygienic true
set_option maxRecDepth 100000
section
variable{prog:Program}{w:World}{A:Around}{E:Value→Shared→Prop}{s:Shared}{K:Frag}{C D e f cda:Addr}{env:Env}
abbrev initBody(p0 p1 p3 p5 p6 p7 p8 p9 p10 p11 p12 p13:Pos):List Stmt:=
 [.Expr (.Call (.Attribute (.Call (.Name "super" p0) [] [] p1) "__init__" ⟨8,8,8,24⟩) [.Name "what" p3] [] ⟨8,8,8,30⟩) p5,
  .Assign [.Attribute (.Name "self" p6) "what" p7] (.Name "what" p8) p9,.Assign [.Attribute (.Name "self" p10) "at" p11] (.Name "at" p12) p13]
structure InitIn(prog:Program)(K:Frag)(C D f cda:Addr)(env:Env)(cd:ClassData):Prop where
 kind:env.scope.kind=.function
 self:env.kindOf "self" =some .local
 what:env.kindOf "what" =some .local
 at_:env.kindOf "at" =some .local
 cls:env.kindOf "__class__" =some .free
 sup:env.kindOf "super" =some .globalImplicit
 cell:∃cc ccl cdd csl,env.cells.lookup ("__class__" :Str)=some cc∧K.lookup cc=some ⟨ccl,cdd,.cell (some (.ref D)),csl⟩
 globals:env.globals=mainGlobals
 builtins:env.builtins=builtinsNs
 func:env.func=some f
 fn:∃oc od fd osl ar,K.lookup f=some ⟨oc,od,.func fd,osl⟩∧(fd.params.posonlyargs++fd.params.args).head?=some ar∧ar.arg= "self"
 code:env.code=.ref cda
 codeo:∃ccl cdd vs ccs file tf,K.lookup cda=some ⟨ccl,cdd,.fields vs,ccs⟩∧vs[2]?=some (.str file tf)∧((prog.main.file:Str)==file)=true
 top:(prog.main.scope.names.lookup ("super" :Str)).isSome=false
 ne:C≠D
 clsC:clsIn K C=some cd
 mro:cd.mro=[.ref C,.ref D,.type "Exception",.type "BaseException",.type "object"]
 dict:cd.hasDict=true
 clsD:∃cdD,clsIn K D=some cdD
 setat:findIn K (.ref C) "__setattr__" =some (some (.builtin "object.__setattr__"))
 takeWhat:takerIn K C "what" =some none
 takeAt:takerIn K C "at" =some none
 opq:nsIn K cStatics "thirdparty.any" =some none
 super_:nsIn K mainGlobals "super" =some none
 objC:∃nm q N bs bm hdct sn sub ab col dd k0 k1 k2 k3 k5 newId,K.lookup C=some (excClassObj nm q C N bs bm hdct sn sub ab col dd k0 k1 k2 k3 k5 newId)
theorem alongExc:alongIn K "__init__" [.type "Exception",.type "BaseException",.type "object"]=some (some (.builtin "Exception.__init__")):=by kernel_rfl
theorem init_run{cd:ClassData}(I:InitIn prog K C D f cda env cd)(X:K.In s.heap){mg mb m:Str→Option Value}(hg:s.heap.Ns mainGlobals mg)(hb:s.heap.Ns builtinsNs mb)(hbs:mb "super" =some (.type "super"))(hm:s.heap.Ns env.locals m)
  {v v2:Value} (h1:m "self" =some (.ref e)) (h2:m "what" =some v) (h3':m "at" =some v2) {oe:Obj} {t0:Addr} {vs:Array Value} (he:s.heap.get? e=some oe) (hec:oe.cls=.ref C) (hed:oe.dict=none) (hev:oe.data=.fields vs) (hsz:vs.size=6) (hv0:vs[0]?=some (.ref t0)) (hv1:vs[1]?=some .none)
  (hKe:K.lookup e=none) (hgl:e≠mainGlobals) (hbl:e≠builtinsNs) (hel:e≠env.locals) {p0 p1 p3 p5 p6 p7 p8 p9 p10 p11 p12 p13:Pos} {Q:PySem.Flow→Shared→Prop}
  (hQ:∀h' tk' dx vs' sl m',h'.get? e=some {cls:=.ref C,dict:=some dx,data:=.fields vs',slots:=sl}→vs'.size=6→vs'[1]?=some .none→dx≠e→s.heap.get? dx=none→h'.Ns1 dx m'→m' "at" =some v2→
   (∀b o,b≠e→s.heap.get? b=some o→h'.get? b=some o)→Q .next {s with heap:=h',toks:=tk'}):
  PySem.wpAt (model prog w) A (.func (initBody p0 p1 p3 p5 p6 p7 p8 p9 p10 p11 p12 p13) env) (PySem.execs (initBody p0 p1 p3 p5 p6 p7 p8 p9 p10 p11 p12 p13) env) Q E s:=by
 refine hide fun P9 r9=>?_
 obtain⟨cc,ccl,cdd,csl,hcc1,hcc2⟩:=I.cell
 obtain⟨oc,od,fd,osl,ar,hf1,hf2,hf3⟩:=I.fn
 obtain⟨ccl',cdd',vsC,ccs,file,tf,hco1,hco2,hco3⟩:=I.codeo
 obtain⟨cdD,hcD⟩:=I.clsD
 obtain⟨nm,q,N,bs,bm,hdct,sn,sub,ab,col,dd,k0,k1,k2,k3,k5,newId,hC⟩:=I.objC
 refine r9 ?_
 obtain⟨oD,hD1,hD2⟩:∃oD,s.heap.get? D=some oD∧oD.data=.cls cdD:=by
  unfold clsIn at hcD
  split at hcD
  ·rename_i c d cd' sl ho
   cases hcD
   exact⟨_,X _ _ ho,rfl⟩
  ·cases hcD
 have heC:e≠C:=fun z=>by rw[z,hC]at hKe;cases hKe
 have hi:interactive env=false:=by unfold interactive;rw[I.kind];rfl
 refine ks_wpAt_execs_cons ?_
 refine ks_wpAt_Expr_any ?_ hi rfl
 refine ks_wpAt_MethodCall ?_
 refine ks_wpAt_super_base I.sup I.cls (by decide) I.func (X _ _ hf1) rfl hf2 I.code (X _ _ hco1) rfl hco2 hco3 I.top ?_
 refine ks_loadName_global I.kind I.sup (Calls.loadGlobal_builtin (mg:=mg) (mb:=mb) (by rw[I.globals];exact hg) (mg_none_of X hg I.super_) (by rw[I.builtins];exact hb) hbs ⟨rfl,?_⟩)
 refine wpAny_loadName_free I.kind I.cls hcc1 ⟨_,X _ _ hcc2,rfl⟩ ?_
 rw[hf3]
 refine wpAny_loadName_local I.kind I.self hm h1 ?_
 refine hide fun P9 r9=>?_
 obtain⟨hh,g,d,t,os⟩:=s
 refine r9 ?_
 refine ks_wpAny_isType_cls hD1 hD2 ⟨rfl,?_⟩
 have hsubD:Looks (model prog w) hh (isSubtype (.ref C) (.ref D)) true:=looks_mroIn X (by unfold mroIn;rw[I.clsC,Option.bind_some,I.mro];simp)
 have hsubE:Looks (model prog w) hh (isSubtype (.ref C) (.type "Exception")) true:=looks_mroIn X (by unfold mroIn;rw[I.clsC,Option.bind_some,I.mro];simp)
 have hnc:∀c,oe.data≠.cls c:=fun c q=>by rw[hev]at q;cases q
 refine ks_wpAny_call_super hD1 hD2 he hec hnc hsubD fun ha hso hka=>?_
 have hneV:(Value.ref C !=Value.ref D)=true:=by simp[I.ne]
 have hmro:Looks (model prog w) hh (mroOf (.ref C)) cd.mro:=(looks_clsIn X I.clsC).andThen .now
 have Xa:K.In ha:=X.keeps hka
 have hea:=hka _ _ he
 refine super_init_method (K:=K) (D:=D) (C:=C) (x:=e) (ox:=oe) (l₀:=cd.mro) (tl:=[.type "Exception",.type "BaseException",.type "object"]) hso ((looks_opaque X I.opq).keeps hka) (hmro.keeps hka) (by rw[I.mro];simp[List.dropWhile,hneV]) Xa alongExc hea hec (hsubE.keeps hka) heC ?_
 have kb:∀b o,hh.get? b=some o→(ha.push (wrapObj e)).get? b=some o:=fun b o q=>Heap.get?_push_of_some _ (hka _ _ q)
 have hmw:(ha.push (wrapObj e)).get? ha.objs.size=some (wrapObj e):=Heap.get?_push_size _ rfl
 have heb:=kb _ _ he
 generalize ha.objs.size=mw at hmw
 generalize ha.push (wrapObj e)=hb' at hmw kb heb
 have hCb:=kb _ _ (X _ _ hC)
 refine callWith_of (P:=fun h=>h.get? mw=some (wrapObj e)) rfl (fun h hP=>⟨.machine,.inr (.inl rfl),(Looks.ld hP).andThen .now⟩) ?_
 refine evalArgs_all (fun e he=>by simp only[List.mem_singleton]at he;subst he;rfl) ?_
 rw[starEach_plain rfl]
 refine Calls.spliced_cons (wpAny_Name (wpAny_loadName_local I.kind I.what (hm.keeps kb) h2 (Calls.spliced_nil ?_)) (by decide))
 refine⟨hmw,?_⟩
 show wpAny _ _ (call (.ref mw) [v]) _ _ _
 refine wrap_call hCb hec hmw heb hev hsz hv0 fun h3 tu htu he3 hk3=>?_
 show PySem.wpAt (model prog w) A (.func (initBody p0 p1 p3 p5 p6 p7 p8 p9 p10 p11 p12 p13) env) (PySem.execs [.Assign [.Attribute (.Name "self" p6) "what" p7] (.Name "what" p8) p9,.Assign [.Attribute (.Name "self" p10) "at" p11] (.Name "at" p12) p13] env) Q E _
 have kc:∀b o,b≠e→hh.get? b=some o→h3.get? b=some o:=fun b o hb q=>hk3 b o hb (kb b o q)
 have Xc:K.In h3:=fun a o q=>kc a o (fun z=>by rw[z,hKe]at q;cases q) (X a o q)
 have hmc:h3.Ns env.locals m:=by
  refine hide fun P9 r9=>?_
  obtain⟨o,es,ep,q,r⟩:=hm
  refine r9 ?_
  exact⟨o,es,ep,kc _ _ (Ne.symm hel) q,r⟩
 refine ks_wpAt_execs_cons (ks_wpAt_Assign_Attr (PySem.wpAt_of_wpAny (wpAny_Name (wpAny_loadName_local I.kind I.what hmc h2 (wpAny_Name (wpAny_loadName_local I.kind I.self hmc h1 ?_) (by decide))) (by decide))))
 have hdm:(Obj.mapFields (·.setIfInBounds 0 (.ref tu)) oe).data=.fields (vs.setIfInBounds 0 (.ref tu)):=Obj.data_mapFields hev _
 have hInst:InstAt h3 e (Obj.mapFields (·.setIfInBounds 0 (.ref tu)) oe) C none:=⟨he3,(Obj.cls_mapFields _ _).trans hec,by unfold notCls;rw[hdm],by
  have:(Obj.mapFields (·.setIfInBounds 0 (.ref tu)) oe).dict=none:=by obtain⟨c1,d1,dt,sl⟩:=oe;simp only at hev hed;subst hev;exact hed
  rw[this];trivial⟩
 have hdn:(Obj.mapFields (·.setIfInBounds 0 (.ref tu)) oe).dict=none:=by obtain⟨c1,d1,dt,sl⟩:=oe;simp only at hev hed;subst hev;exact hed
 have hcm:(Obj.mapFields (·.setIfInBounds 0 (.ref tu)) oe).cls=.ref C:=(Obj.cls_mapFields _ _).trans hec
 generalize Obj.mapFields (·.setIfInBounds 0 (.ref tu)) oe=o3 at he3 hdm hInst hdn hcm
 refine exc_set (s:=⟨h3,g,d,t+1,os⟩) (D:=D) (od:=none) Xc hInst I.clsC I.mro I.takeWhat I.setat I.dict (fun h4 tk4 dx m0 e4 hne4 hnew o0 hns4 hk4=>?_) (.inl hdn)
 obtain⟨hnew1,rfl⟩:=hnew hdn
 have kd:∀b o,b≠e→hh.get? b=some o→h4.get? b=some o:=fun b o hb q=>hk4 b o hb (fun z=>by rw[z]at q;rw[kc _ _ (fun z'=>hne4 z') q]at hnew1;cases hnew1) (kc b o hb q)
 have Xd:K.In h4:=fun a o q=>kd a o (fun z=>by rw[z,hKe]at q;cases q) (X a o q)
 have hmd:h4.Ns env.locals m:=by
  refine hide fun P9 r9=>?_
  obtain⟨o,es,ep,q,r⟩:=hm
  refine r9 ?_
  exact⟨o,es,ep,kd _ _ (Ne.symm hel) q,r⟩
 show PySem.wpAt (model prog w) A (.func (initBody p0 p1 p3 p5 p6 p7 p8 p9 p10 p11 p12 p13) env) (PySem.execs [.Assign [.Attribute (.Name "self" p10) "at" p11] (.Name "at" p12) p13] env) Q E _
 refine ks_wpAt_execs_cons (ks_wpAt_Assign_Attr (PySem.wpAt_of_wpAny (wpAny_Name (wpAny_loadName_local I.kind I.at_ hmd h3' (wpAny_Name (wpAny_loadName_local I.kind I.self hmd h1 ?_) (by decide))) (by decide))))
 refine hide fun P9 r9=>?_
 obtain⟨oD4,esD4,epD4,hoD4,hrD4⟩:=id hns4
 refine r9 ?_
 have hInst4:InstAt h4 e {o3 with dict:=some dx} C (some oD4):=⟨e4,hcm,by unfold notCls;rw[show({o3 with dict:=some dx}:Obj).data=o3.data from rfl,hdm],hoD4⟩
 refine exc_set (s:=⟨h4,g,d,tk4,os⟩) (D:=D) (od:=some oD4) Xd hInst4 I.clsC I.mro I.takeAt I.setat I.dict (fun h5 tk5 dx5 m5 e5 hne5 o0 hold5 hns5 hk5=>?_) (.inr ⟨dx,_,["what"],rfl,hne4,hns4,Within.cons "what" v Within.nil,by simp⟩)
 obtain⟨rfl,_⟩:=hold5 dx rfl
 show PySem.wpAt (model prog w) A _ (PySem.execs [] env) Q E _
 refine PySem.wpAt_of_wpAny (wpAny_execs_nil ?_)
 have hdx:hh.get? dx5=none:=by
  cases q:hh.get? dx5 with
  |none=>rfl
  |some o=>rw[kc _ _ hne4 q]at hnew1;cases hnew1
 refine hQ h5 _ dx5 (vs.setIfInBounds 0 (.ref tu)) o3.slots _ (e5.trans ?_) ?_ ?_ hne4 hdx hns5 (by simp) fun b o hb q=>hk5 b o hb (fun z=>by rw[z,hdx]at q;cases q) (kd b o hb q)
 ·obtain⟨c1,d1,dt,sl⟩:=o3
  simp only at hcm hdm
  subst hcm hdm
  rfl
 ·simp[hsz]
 ·rw[Array.getElem?_setIfInBounds_ne (by lia)];exact hv1
structure FaultIn(prog:Program)(K:Frag)(C D f cda:Addr)(fd:FuncData)(cd:ClassData):Prop where
 objC:∃nm q N bs sn sub ab col dd k0 k1 k2 k3 k5,K.lookup C=some (excClassObj nm q C N bs (.ref D::[.type "Exception",.type "BaseException",.type "object"]) true sn sub ab col dd k0 k1 k2 k3 k5 "Exception.__new__")
 init:findIn K (.ref C) "__init__" =some (some (.ref f))
 ty:typeIn K (.ref f)=some (.type "function")
 fn:∃oc od osl,K.lookup f=some ⟨oc,od,.func fd,osl⟩
 head:∃ar,(fd.params.posonlyargs++fd.params.args).head?=some ar∧ar.arg= "self"
 body:∃p0 p1 p3 p5 p6 p7 p8 p9 p10 p11 p12 p13,fd.body=.stmts (initBody p0 p1 p3 p5 p6 p7 p8 p9 p10 p11 p12 p13)
 bind:∀(s:Shared) e v v2,K.In s.heap→BindsTo s fd ⟨[.ref e,v,v2],[]⟩ [(("self" :Str),Value.ref e),("what",v),("at",v2)]
 names:fd.scope.names=[(("self" :Str),NameKind.local),("what",.local),("at",.local),("__class__",.free),("super",.globalImplicit)]
 kind:fd.scope.kind=.function
 cor:fd.scope.isCoroutine=false
 gen:fd.scope.isGenerator=false
 clo:∃cc ccl cdd csl,fd.closure=[(("__class__" :Str),cc)]∧K.lookup cc=some ⟨ccl,cdd,.cell (some (.ref D)),csl⟩
 glob:fd.globals=mainGlobals
 blt:fd.builtins=builtinsNs
 code:fd.code=.ref cda
 codeIn:codeIn K fd.code fd.qualname=true
 codeo:∃ccl cdd vs ccs file tf,K.lookup cda=some ⟨ccl,cdd,.fields vs,ccs⟩∧vs[2]?=some (.str file tf)∧((prog.main.file:Str)==file)=true
 top:(prog.main.scope.names.lookup ("super" :Str)).isSome=false
 ne:C≠D
 clsC:clsIn K C=some cd
 mro:cd.mro=[.ref C,.ref D,.type "Exception",.type "BaseException",.type "object"]
 dict:cd.hasDict=true
 clsD:∃cdD,clsIn K D=some cdD
 setat:findIn K (.ref C) "__setattr__" =some (some (.builtin "object.__setattr__"))
 takeWhat:takerIn K C "what" =some none
 takeAt:takerIn K C "at" =some none
 opq:nsIn K cStatics "thirdparty.any" =some none
 super_:nsIn K mainGlobals "super" =some none
theorem FaultIn.inner{fd:FuncData}{cd:ClassData}(I:FaultIn prog K C D f cda fd cd)(L:Addr):InitIn prog K C D f cda (callEnv fd L f) cd where
 kind:=I.kind
 self:=by show fd.scope.names.lookup _=_;rw[I.names];rfl
 what:=by show fd.scope.names.lookup _=_;rw[I.names];rfl
 at_:=by show fd.scope.names.lookup _=_;rw[I.names];rfl
 cls:=by show fd.scope.names.lookup _=_;rw[I.names];rfl
 sup:=by show fd.scope.names.lookup _=_;rw[I.names];rfl
 cell:=by
  refine hide fun P9 r9=>?_
  obtain⟨cc,ccl,cdd,csl,h1,h2⟩:=I.clo
  refine r9 ?_
  exact⟨cc,ccl,cdd,csl,by show fd.closure.lookup _=_;rw[h1];rfl,h2⟩
 globals:=I.glob
 builtins:=I.blt
 func:=rfl
 fn:=by
  refine hide fun P9 r9=>?_
  obtain⟨oc,od,osl,h⟩:=I.fn
  obtain⟨ar,h1,h2⟩:=I.head
  refine r9 ?_
  exact⟨oc,od,fd,osl,ar,h,h1,h2⟩
 code:=I.code
 codeo:=I.codeo
 top:=I.top
 ne:=I.ne
 clsC:=I.clsC
 mro:=I.mro
 dict:=I.dict
 clsD:=I.clsD
 setat:=I.setat
 takeWhat:=I.takeWhat
 takeAt:=I.takeAt
 opq:=I.opq
 super_:=I.super_
 objC:=by
  refine hide fun P9 r9=>?_
  obtain⟨nm,q,N,bs,sn,sub,ab,col,dd,k0,k1,k2,k3,k5,h⟩:=I.objC
  refine r9 ?_
  exact⟨nm,q,N,bs,_,_,sn,sub,ab,col,dd,k0,k1,k2,k3,k5,_,h⟩
theorem fault_made{v v2:Value}{fd:FuncData}{cd:ClassData}(I:FaultIn prog K C D f cda fd cd)(X:K.In s.heap){mg mb:Str→Option Value}(hg:s.heap.Ns mainGlobals mg)(hb:s.heap.Ns builtinsNs mb)(hbs:mb "super" =some (.type "super"))
  (hlim:s.heap.NoLimit) (hroom:(A.under (.builtin "type.__call__" ⟨[.ref C,v,v2],[]⟩)).depth < recursionLimit) {Q:Value→Shared→Prop}
  (hQ:∀h' tk' e dx vs' sl m',s.heap.objs.size≤e→h'.get? e=some {cls:=.ref C,dict:=some dx,data:=.fields vs',slots:=sl}→vs'.size=6→vs'[1]?=some .none→dx≠e→s.heap.get? dx=none→h'.Ns1 dx m'→m' "at" =some v2→
   (∀b o,s.heap.get? b=some o→h'.get? b=some o)→Q (.ref e) {s with heap:=h',toks:=tk'}):
  wpAny (model prog w) A (call (.ref C) [v,v2]) Q E s:=by
 refine hide fun P9 r9=>?_
 obtain⟨hh,g,d,t,os⟩:=s
 obtain⟨nm,q,N,bs,sn,sub,ab,col,dd,k0,k1,k2,k3,k5,hC⟩:=I.objC
 obtain⟨oc,od,osl,hf⟩:=I.fn
 obtain⟨p0,p1,p3,p5,p6,p7,p8,p9,p10,p11,p12,p13,hbody⟩:=I.body
 refine r9 ?_
 refine own_call F.excBase_Exception (X _ _ hC) X I.init I.ty (fun h' e hle hm=>?_) (by rw[sizeLine_eq'];simp)
 have X':K.In h':=X.keeps hm.keeps
 refine wpAny_call (ks_codeAny_call_defAt (s:=⟨h',g,d,t,os⟩) hroom (X' _ _ hf) rfl (hlim.keeps hm.keeps) ((codeRec_of X I.codeIn).keeps hm.keeps) hbody (I.bind _ e v v2 X') (by rw[I.names];decide) (by rw[I.names];intro y hy;simp only[List.mem_cons,List.not_mem_nil,or_false]at hy;rcases hy with rfl | rfl | rfl<;>rfl) (fun h1 hns1 hk1=>?_) I.cor I.gen I.kind)
 have he0:hh.get? e=none:=hm.new
 have hKe:K.lookup e=none:=by
  cases q:K.lookup e with
  |none=>rfl
  |some o=>rw[X _ _ q]at he0;cases he0
 refine hide fun P9 r9=>?_
 obtain⟨t0,hte,htn,htt⟩:=hm.there
 refine r9 ?_
 have k01:∀b o,hh.get? b=some o→h1.get? b=some o:=fun b o q=>hk1 b o (hm.keeps b o q)
 have ns_ne:∀{a:Addr} {m:Str→Option Value},hh.Ns a m→e≠a:=fun {a m} ⟨o,_,_,q,_⟩ z=>by subst z;rw[he0]at q;cases q
 refine init_run (I.inner h'.objs.size) (X.keeps k01) (hg.keeps k01) (hb.keeps k01) hbs hns1 (e:=e) (v:=v) (v2:=v2) (by rfl) (by rfl) (by rfl) (hk1 _ _ hte) rfl rfl rfl rfl rfl rfl hKe (ns_ne hg) (ns_ne hb) (Nat.ne_of_lt (Heap.lt_size hte)) fun h5 tk5 dx vs' sl m' a1 a2 a3 a4 a5 a6 a7 a8=>?_
 refine⟨rfl,hQ h5 tk5 e dx vs' sl m' hle a1 a2 a3 a4 ?_ a6 a7 fun b o q=>a8 b o (fun z=>by rw[z,he0]at q;cases q) (k01 b o q)⟩
 cases q:hh.get? dx with
 |none=>rfl
 |some o=>rw[k01 _ _ q]at a5;cases a5
end
end
section
variable{c c' cb:Cx}{g g' g₁:Gh}{st st':St}{s s' s₁:Shared}{h h':Heap}{ad:Addr}{v v2:Value}{x y r:V}{e1 e2:Expr}{a b:X}{npos pos:Pos}
theorem Sim.freezeF(x:Sim c g st s)(hs:Same s s')(f:Free c g st ad){o:Obj}(k:∀b ob,s.heap.get? b=some ob→s'.heap.get? b=some ob)
  (e:s'.heap.get? ad=some o) (ht:∀vs,o.cls=.ref TT.exc→o.data=.fields vs→TbP ⟨addK g.B ad o,g.φ⟩ s'.heap ad false):Sim c ⟨addK g.B ad o,g.φ⟩ st s':=
 x.at1 hs ⟨addK_le f.B,fun o0 o0 e=>e⟩ f.K f.own (fun b o o0=>k b o) (fun b hb=>aKn hb) (fun o0 o0 o0 o0 e e' o0=>⟨e,e'⟩) rfl x.len
  ⟨fun o0 q=>aBn f.base q,fun o' q=>sIj (aKs (K:=g.B) (o:=o)) q▸⟨(Kp.of e).weak,fun vs q q' o0=>ht vs q q'⟩,fun o0 q=>aBn f.K q,fun q=>absurd q f.own,fun j q e1 e2 l=>absurd l (f.mem j q e1 e2)⟩
noncomputable def FaultOk(K:Frag):Prop:=∃D f cda fd cd,FaultIn TT.prog K TT.exc D f cda fd cd∧TT.fld 0= "at"
theorem exc_leaf(fo:FaultOk (TT.K c.w.params)){i:Int}(hv:IntP i v2):Snd c g (call (.ref TT.exc) [v,v2]) (fun κ=>κ (.v (.exc (.int i)))) RepW:=Snd.val fun {g₁} l {st s} X=>by
 obtain⟨D,f,cda,fd,cd,I,hat⟩:=fo
 have hb:=fun a o q=>((X.at_ a).base o q).2
 obtain⟨mg,hg⟩:=X.ok.bas.g
 obtain⟨mb,hm,hb'⟩:=X.ok.bas.b
 refine fault_made I (X.ok.bas.K.keeps hb) (hg.keeps hb) (hm.keeps hb) ((hb' "super" (by decide)).trans rfl) (X.ok.bas.nolimit.keeps hb) (by have h1:=X.ok.depth;have h2:=X.ok.slack;show c.A.depth+1 < 1000;lia) fun h' tk' e dx vs' sl m' hle he hsz h1 hne hdx hns hmat hk=>?_
 obtain⟨od,es,ep,hod,hdd,hs1,hs2,hs3⟩:=hns
 have f1:=(X.at_ dx).free hdx
 have X1:=X.freezeF (s':={s with heap:=h',toks:=tk'}) ⟨rfl,rfl⟩ f1 hk hod fun vs o0 q=>Data.noConfusion (hdd.symm.trans q)
 have f2:=X.free hle
 have X2:=X1.freezeF (ad:=e) (s':={s with heap:=h',toks:=tk'}) ⟨rfl,rfl⟩ ⟨f2.base,(aKn (Ne.symm hne)).trans f2.B,f2.K,f2.own,f2.mem⟩ (fun o0 o0 q=>q) he fun vs o0 q=>.no rfl _ vs he q (Data.fields_inj q▸hsz) (Data.fields_inj q▸h1)
 have le1:=addK_le (o:=od) f1.B
 have le2:BH.Le (addK g₁.B dx od) _:=addK_le (a:=e) (o:=⟨.ref TT.exc,some dx,.fields vs',sl⟩) ((aKn (Ne.symm hne)).trans f2.B)
 obtain⟨t,rfl⟩:=hv
 exact .mk ⟨addK (addK g₁.B dx od) e ⟨.ref TT.exc,some dx,.fields vs',sl⟩,g₁.φ⟩ ⟨le1.trans le2,fun o0 o0 e=>e⟩ X2 (.mk e dx _ es (.int i t) vs' rfl aKs rfl rfl hsz ((X.ok.bas.old e).mpr f2.base) (.mk od ep rfl hne (le2 _ _ aKs) hdd hs1 hs2) ((hs3 _).trans (hat▸hmat)) ⟨t,rfl⟩)
theorem newExc_sx(tk:TabOk c.w.params)(fo:FaultOk (TT.K c.w.params))(hk:c.env.kindOf TT.ename=some .globalImplicit)(hd:(TT.ename==("__debug__" :Str))=false)
  (kp:keepIn (TT.K c.w.params) (.ref TT.exc)=true) (hs:SXs c g [e1,e2] [a,b]):SX c g (.Call (.Name TT.ename npos) [e1,e2] [] pos) (.newExc a b):=
 call_name (fun X hq=>globalName X hk hd tk.exc hq) (cWs (first:=[]) (n:=fun ws o0 κ=>oK (excW ws) κ) hs.plain (spliced_sx hs (.refl _)) (fun o0=>rfl) (keeps_fn kp) fun g₁ ws vs le hws=>by
  obtain⟨w,w',v,v',rfl,rfl,h,h'⟩:=two_of hws
  refine Snd.opt (n:=fun b o0 κ=>κ b) fun b e=>?_
  obtain⟨_,_,e⟩:=bGt e
  obtain⟨i,e1,rfl⟩:=map_get e
  exact exc_leaf fo (asInt_rep e1 h'))
end
section
variable{c c' cb:Cx}{g g' g₁:Gh}{st st':St}{s s' s₁:Shared}{h h':Heap}{ad:Addr}{v v2 e:Value}{x y r:V}
theorem set_twice{α:Type}{l:List α}{i j:Nat}(h:i≠j){a b d:α}:(((l.set i a).set j b).set i d)=(l.set j b).set i d:=by rw[List.set_comm _ _ h,List.set_set]
section
variable{np p1 p2 p3 p4 hpos pos:Pos}{fid sid:Str}{fslot slot:Nat}{body:List Stmt}{b:List S}
variable(tk:TabOk c.w.params)(ek:ExcOk (TT.K c.w.params))(fo:FaultOk (TT.K c.w.params))(hk:c.env.kindOf TT.ename=some .globalImplicit)(hd:(TT.ename==("__debug__" :Str))=false)(hf:c.slots[fslot]?=some fid)(hfl:c.env.kindOf fid=some .local)(hfd:(fid==("__debug__" :Str))=false)
  (hs:c.slots[slot]?=some sid) (hsl:c.env.kindOf sid=some .local) (hne:sid≠fid)
include tk ek fo hk hd hf hfl hfd hs hsl hne
theorem caught(X:Sim c g st s)(f:Fly g s.heap true (.exc y) e){Q:PySem.Flow→Shared→Prop}{E:Value→Shared→Prop}(hQ:∀g' s',Gh.Le g g'→Sim c g' ⟨(st.loc.set slot (some (.v y))).set fslot none,st.mem⟩ s'→Q .next s'):
  wpAny c.M c.A (handleBy e c.env [.ExceptHandler (some (.Name TT.ename np)) (some fid) [.Assign [.Name sid p1] (.Attribute (.Name fid p2) (TT.fld 0) p3) p4] hpos]) Q E s:=by
 have hplace:(c.env.scope.kind==.class || (c.env.scope.kind==.module&&c.env.locals !=c.env.globals))=false:=by rw[X.ok.kind];rfl
 have hb:=fun a o q=>((X.at_ a).base o q).2
 have XK:=X.K
 obtain⟨mg,hg⟩:=X.ok.bas.g
 have hg:=hg.keeps hb
 have f0:=f
 obtain⟨_,hy,ea,rfl,rep,tb⟩:=f
 cases hy
 refine hide fun P9 r9=>?_
 obtain⟨D,fn,cda,fd,cd,I,_⟩:=fo
 obtain⟨nm,q,N,bs,sn,sub,ab,col,dd,k0,k1,k2,k3,k5,hC⟩:=I.objC
 refine r9 ?_
 obtain⟨oe,ho,hcl⟩:∃oe,s.heap.get? ea=some oe∧oe.cls=.ref TT.exc:=by
  refine hide fun P9 r9=>?_
  obtain⟨x,d,o,es,w,vs,hx,hb,cls,_⟩:=rep
  refine r9 ?_
  cases hx
  refine hide fun P9 r9=>?_
  obtain⟨o',e1,e2,_⟩:=X.kb ea o hb
  refine r9 ?_
  exact⟨o',e1,e2.trans cls⟩
 have loc:∀{w:Option W} {u:Option Value} {s₁:Shared} {h':Heap} {tk:Nat} {i:Nat} {id:Str} {g₁:Gh} {st₁:St},c.slots[i]?=some id→c.env.kindOf id=some .local→Sim c g₁ st₁ s₁→RepO g₁ w u→(∀m,s₁.heap.Ns c.env.locals m→h'.Ns c.env.locals fun x=>if x=id then u else m x)→Heap.SameBut c.env.locals s₁.heap h'→
   Sim c g₁ ⟨st₁.loc.set i w,st₁.mem⟩ {s₁ with heap:=h',toks:=tk}:=fun {w u s₁ h' tk i id g₁ st₁} hi hl X r hn hs=>
  X.setLocal (s':={s₁ with heap:=h',toks:=tk}) ⟨rfl,rfl⟩ hi hl r (fun b ob hb q=>(hs.2 b hb).trans q) fun m hm=>⟨_,hn m hm,if_pos rfl,fun y hy=>if_neg hy⟩
 have det:∀{h:Heap} {m:Str→Option Value} {P:(Str→Option Value)→Prop},h.Ns c.env.locals m→P m→∀m',h.Ns c.env.locals m'→P m':=fun hm hP m' hm'=>Ns_det hm hm'▸hP
 refine wpAny_handleBy_cons (codeAny_handlers_test ?_) nofun
 generalize c.A.mark (some (.ref ea))=A'
 refine Calls.Name_function_global X.ok.kind hk (Calls.loadGlobal_global (mg:=mg) (by rw[X.ok.globals];exact hg) (mg_of XK hg tk.exc) (wpAny_excMatches_sub_self (XK _ _ hC) ho hcl rfl (codeAny_handlers_suite_as (wSF X f0 fun s5 z=>?_)))) hd
 refine hide fun P9 r9=>?_
 obtain⟨g5,le5,X5,f5⟩:=z
 obtain⟨_,hy,_,ha,rep,_⟩:=f5
 refine r9 ?_
 cases hy;cases ha
 match X5.env with
 |.mk m5 _ hn5 _=>
 refine wpAny_storeName_local hfl hn5 (fun h6 hn6 hs6=>?_) hplace
 have X6:=loc (tk:=s5.toks+1) hf hfl X5 (w:=some (.v (.exc y))) (u:=some (.ref ea)) (.mk _ rfl rep) (det hn5 hn6) hs6
 refine wpAny_execs_cons (wpAny_eq (arm_exec_Assign ..) (wpAny_bind (wpAny_standAt (wpAny_bind (wpAny_pure (wpAny_bind ?_))))))
 refine wpAny_eq ((arm_eval_Attribute ..).trans (congrArg (· >>=_) (base_plain rfl))) (wpAny_bind (wpAny_Name (wpAny_loadName_local X.ok.kind hfl hn6 (if_pos rfl) (wpAny_bind (wpAny_standAt (wpAny_bind (wpAny_holding (exc_attr ek X6 rep fun u hu=>wpAny_bind (wpAny_letTemporaryGo (wpAny_pure ?_)))))))) hfd))
 refine wpAny_bind (wpAny_pure (a:=none) (wpAny_bind (wpAny_eq (arm_assign_Name ..) (wpAny_bind (wpAny_standAt (wpAny_bindName (wpAny_storeName_local hsl hn6 (fun h7 hn7 hs7=>wpAny_pure (wpAny_execs_nil ?_)) hplace)))))))
 have X7:=loc (tk:=s5.toks+1+1+1) hs hsl (X6.same (s':={s5 with heap:=h6,toks:=s5.toks+1+1}) ⟨rfl,rfl⟩ rfl) (w:=some (.v y)) (u:=some u) (.mk _ rfl hu) (det hn6 hn7) hs7
 refine wpAny_nameGoes_keeps hfl hn7 hplace fun h8 v8 hn8 hs8=>?_
 have X8:=loc (tk:=s5.toks+1+1+1+1) hf hfl X7 (w:=none) (u:=v8) trivial (det hn7 hn8) hs8
 refine hQ g5 _ le5 (set_twice (fun(z:fslot=slot)=>hne (sIj hs (z▸hf)))▸X8)
theorem try_exec(hb:SEs c g body b):SE c g (.Try body [.ExceptHandler (some (.Name TT.ename np)) (some fid) [.Assign [.Name sid p1] (.Attribute (.Name fid p2) (TT.fld 0) p3) p4] hpos] [] [] pos) (.tryAt b fslot slot):=⟨fun {g₁} l {st s} X {γ k r} e=>by
 obtain⟨r₁,e1,e2⟩:=bindR_get e
 obtain⟨r₀,h0⟩:∃r₀,bk c.C b retK st=some r₀:=by
  cases h:bk c.C b retK st with
  |none=>rw[h]at e1;cases e1
  |some r₀=>exact⟨r₀,rfl⟩
 rw[h0]at e1
 refine wpAny_Try_except (wpAny_mono (hb.h l X h0) (fun f s1 z=>?_) fun ev s1 z=>?_)
 ·obtain⟨fl,g',st',le,sim,q,e3⟩:=z
  cases e3;cases e1
  cases fl with
  |next=>cases (q:f=.next);exact wpAny_execs_nil (.mk .next g' st' le sim rfl e2)
  |ret w=>obtain⟨v,rfl,hv⟩:=q;exact .mk (.ret w) g' st' le sim ⟨v,rfl,hv⟩ e2
 ·obtain⟨x,hr,g2,le2,x2,f2⟩:=z
  obtain⟨_,st1⟩:=r₀
  cases hr
  obtain⟨y,rfl,_⟩:=id f2
  cases e1
  refine wpAny_note x2 f2 fun s3 z=>?_
  obtain⟨g3,le3,x3,f3⟩:=z
  refine wSF x3 f3 fun s4 z=>?_
  obtain⟨g4,le4,x4,f4⟩:=z
  exact caught tk ek fo hk hd hf hfl hfd hs hsl hne x4 f4 fun g5 s5 le5 x5=>.mk .next g5 _ (le2.trans (le3.trans (le4.trans le5))) x5 rfl e2⟩
end
end
section
set_option maxRecDepth 100000
structure Nm where
 names:List (Str×NameKind)
 fn:Bool
noncomputable section
@[reducible] noncomputable def Nm.sl(D:Nm):List Str:=slotsOf D.names
noncomputable def Nm.k(D:Nm)(id:Str):Option NameKind:=D.names.lookup id
noncomputable def Nm.nm(D:Nm)(i:Nat):Str:=D.sl.getD i ""
noncomputable def Nm.isGlob(D:Nm)(id:Str):Bool:=D.k id==some .globalImplicit&&!(id==("__debug__" :Str))
noncomputable def Nm.isSlot(D:Nm)(i:Nat):Bool:=decide (i < D.sl.length)&&!(D.nm i==("__debug__" :Str))
noncomputable def Nm.binds(D:Nm)(i:Nat):Bool:=decide (i < D.sl.length)&&(D.fn || D.k (D.nm i)==some .local)
noncomputable def Nm.inner(D:Nm)(scope:Scope):Nm:=⟨scope.names.map fun p=>if(p.2==.free&&D.k p.1==some .cell)=true then(p.1,.cell)else p,false⟩
noncomputable def freeB(D:Nm)(p:Str×NameKind):Bool:=(!(p.2==.free) || (D.sl.contains p.1&&D.k p.1==some .cell))&&!(p.2==.cell)
noncomputable def innerB(D:Nm)(scope:Scope):Bool:=scope.kind==.function&&(decide (scope.names.map (·.1)).Nodup&&scope.names.all (freeB D))
noncomputable def slot1(D:Nm)(scope:Scope)(y:Str)(o:Option Nat):Bool:=Option.casesOn o (scope.names.lookup y==some .local) fun i=>D.sl[i]?==some y&&scope.names.lookup y==some .free
noncomputable def slotsB(D:Nm)(scope:Scope)(slots:List (Option Nat)):Bool:=decide (slots.length=(D.inner scope).sl.length)&&((D.inner scope).sl.zip slots).all fun p=>slot1 D scope p.1 p.2
noncomputable def kids(e:Expr):List Expr:=Expr.casesOn (motive_1:=fun o0=>List Expr) e (fun o0 es o0=>es) (fun o0 o0 o0=>[]) (fun l o0 r o0=>[l,r]) (fun o0 x o0=>[x]) (fun o0 o0 o0 o0=>[]) (fun a b c o0=>[a,b,c]) (fun o0 o0 o0=>[]) (fun o0 o0 o0=>[]) (fun e gs o0 o0=>e::gs.flatMap fun g=>g.target::g.iter::g.ifs)
 (fun o0 o0 o0 o0=>[]) (fun o0 o0 o0 o0 o0=>[]) (fun o0 o0 o0 o0=>[]) (fun o0 o0=>[]) (fun o0 o0=>[]) (fun o0 o0=>[]) (fun l o0 rs o0=>l::rs) (fun f es o0 o0=>f::es) (fun o0 o0 o0 o0=>[]) (fun o0 o0=>[]) (fun o0 o0 o0=>[]) (fun o o0 o0=>[o]) (fun v s o0=>[v,s]) (fun o0 o0=>[]) (fun o0 o0=>[]) (fun es o0=>es) (fun es o0 o0=>es)
 (fun a b o0 o0=>a.toList++b.toList)
@[reducible] noncomputable def kid(e:Expr)(i:Nat):Expr:=(kids e).getD i e
noncomputable def numE(e:Expr):Nat:=Expr.casesOn (motive_1:=fun o0=>Nat) e (fun o0 o0 o0=>0) (fun o0 o0 o0=>0) (fun o0 o0 o0 o0=>0) (fun o0 o0 o0=>0) (fun o0 o0 o0 o0=>0) (fun o0 o0 o0 o0=>0) (fun o0 o0 o0=>0) (fun o0 o0 o0=>0) (fun o0 o0 o0 o0=>0)
 (fun o0 o0 o0 o0=>0) (fun o0 o0 o0 o0 o0=>0) (fun o0 o0 o0 o0=>0) (fun o0 o0=>0) (fun o0 o0=>0) (fun o0 o0=>0) (fun o0 o0 o0 o0=>0) (fun o0 o0 o0 o0=>0) (fun o0 o0 o0 o0=>0) (fun o0 o0=>0) (fun o0 k o0=>k) (fun o0 o0 o0=>0) (fun o0 o0 o0=>0) (fun o0 o0=>0) (fun o0 o0=>0) (fun o0 o0=>0) (fun o0 k o0=>k)
 (fun o0 o0 o0 o0=>0)
noncomputable def noS:Scope:=⟨.function,[],false,false,[]⟩
noncomputable def scpE(e:Expr):Scope:=Expr.casesOn (motive_1:=fun o0=>Scope) e (fun o0 o0 o0=>noS) (fun o0 o0 o0=>noS) (fun o0 o0 o0 o0=>noS) (fun o0 o0 o0=>noS) (fun o0 o0 o0 o0=>noS) (fun o0 o0 o0 o0=>noS) (fun o0 o0 o0=>noS) (fun o0 o0 o0=>noS) (fun o0 o0 s o0=>s)
 (fun o0 o0 o0 o0=>noS) (fun o0 o0 o0 o0 o0=>noS) (fun o0 o0 o0 o0=>noS) (fun o0 o0=>noS) (fun o0 o0=>noS) (fun o0 o0=>noS) (fun o0 o0 o0 o0=>noS) (fun o0 o0 o0 o0=>noS) (fun o0 o0 o0 o0=>noS) (fun o0 o0=>noS) (fun o0 o0 o0=>noS) (fun o0 o0 o0=>noS) (fun o0 o0 o0=>noS) (fun o0 o0=>noS) (fun o0 o0=>noS) (fun o0 o0=>noS) (fun o0 o0 o0=>noS)
 (fun o0 o0 o0 o0=>noS)
noncomputable def tgts(D:Nm)(e:Expr)(is:List Nat):Nat→List Expr:=List.rec (fun o0=>[]) (fun i o0 r k=>.Name (D.nm i) (kid e k).pos::r (k+1)) is
noncomputable def tgt(D:Nm)(pat:List Nat)(one:Bool)(e:Expr):Expr:=Bool.casesOn one (.Tuple (tgts D e pat 0) (numE e) e.pos) (.Name (D.nm (pat.headD 0)) e.pos)
noncomputable def tgtB(D:Nm)(pat:List Nat)(one:Bool):Bool:=(!one || decide (pat.length=1))&&pat.all D.binds
abbrev EB:=Expr×Bool
abbrev Mk:=Nm→Expr→EB
abbrev MkL:=Nm→Expr→Nat→List Expr×Bool
noncomputable def callE(id:Str)(es:List Expr)(e:Expr):Expr:=.Call (.Name id (kid e 0).pos) es [] e.pos
noncomputable def call1(id:Str)(ma:Mk)(D:Nm)(e:Expr):EB:=(callE id [(ma D (kid e 1)).1] e,D.isGlob id&&(!isStar (ma D (kid e 1)).1&&(ma D (kid e 1)).2))
noncomputable def callL(id:Str)(b:Bool)(ml:MkL)(D:Nm)(e:Expr):EB:=(callE id (ml D e 1).1 e,D.isGlob id&&(b&&(ml D e 1).2))
noncomputable def methB(o e:Expr):Bool:=noSuper o&&((kid e 0).pos.endLine==e.pos.line)
noncomputable def methE(o:Expr)(id:Str)(es:List Expr)(e:Expr):Expr:=.Call (.Attribute o id (kid e 0).pos) es [] e.pos
@[reducible] noncomputable def kkid(e:Expr)(i j:Nat):Expr:=kid (kid e i) j
noncomputable def meth1(id:Str)(mo mx:Mk)(D:Nm)(e:Expr):EB:=(methE (mo D (kkid e 0 0)).1 id [(mx D (kid e 1)).1] e,methB (mo D (kkid e 0 0)).1 e&&(!isStar (mx D (kid e 1)).1&&((mo D (kkid e 0 0)).2&&(mx D (kid e 1)).2)))
noncomputable def methL(id:Str)(mo:Mk)(ml:MkL)(D:Nm)(e:Expr):EB:=(methE (mo D (kkid e 0 0)).1 id (ml D e 1).1 e,methB (mo D (kkid e 0 0)).1 e&&(decide ((ml D e 1).1.length < 29)&&((mo D (kkid e 0 0)).2&&(ml D e 1).2)))
noncomputable def isYes(x:X):Bool:=X.rec (motive_1:=fun o0=>Bool) (motive_2:=fun o0=>Unit) (motive_3:=fun o0=>Unit) false (fun b=>b) (fun o0=>false) (fun o0=>false) (fun o0=>false) (fun o0=>false) (fun o0 o0=>false) (fun o0 o0=>false) (fun o0 o0=>false) (fun o0 o0 o0 o0 o0 o0=>false) (fun o0 o0 o0 o0 o0=>false) (fun o0 o0=>false) (fun o0 o0 o0 o0 o0=>false) (fun o0 o0 o0 o0 o0 o0 o0 o0=>false)
 (fun o0 o0 o0=>false) (fun o0 o0 o0=>false) (fun o0 o0 o0 o0=>false) (fun o0 o0 o0 o0 o0=>false) (fun o0 o0 o0 o0=>false) (fun o0 o0 o0 o0=>false) (fun o0 o0 o0 o0=>false) (fun o0 o0 o0=>false) (fun o0 o0 o0 o0=>false) (fun o0 o0 o0 o0=>false) (fun o0 o0 o0 o0=>false) (fun o0 o0 o0 o0 o0 o0=>false) (fun o0 o0=>false) (fun o0 o0 o0=>false) (fun o0 o0=>false) (fun o0 o0=>false) (fun o0 o0=>false) (fun o0 o0=>false) (fun o0 o0=>false) (fun o0 o0=>false) (fun o0 o0=>false)
 (fun o0 o0 o0 o0 o0 o0 o0 o0 o0=>false) (fun o0 o0=>false) (fun o0 o0=>()) (fun o0 o0=>()) (fun o0 o0=>()) () (fun o0 o0 o0 o0=>()) x
noncomputable def enB(it:It)(one:Bool):Bool:=It.casesOn it (fun o0=>true) (fun o0=>true) fun o0=>!one
noncomputable def mkComp(slots:List (Option Nat))(pat:List Nat)(one yes en:Bool)(mi mc me:Mk)(D:Nm)(e:Expr):EB:=
 (.ListComp (me (D.inner (scpE e)) (kid e 0)).1 [⟨tgt (D.inner (scpE e)) pat one (kid e 1),(mi D (kid e 2)).1,bif yes then []else [(mc (D.inner (scpE e)) (kid e 3)).1],0⟩] (scpE e) e.pos,
  en&&(innerB D (scpE e)&&(slotsB D (scpE e) slots&&(tgtB (D.inner (scpE e)) pat one&&((mi D (kid e 2)).2&&((mc (D.inner (scpE e)) (kid e 3)).2&&(me (D.inner (scpE e)) (kid e 0)).2))))))
noncomputable def mkFlat(en:Bool)(mi:Mk)(D:Nm)(e:Expr):EB:=
 (flatE ((D.inner (scpE e)).nm 1) ((D.inner (scpE e)).nm 2) (mi D (kid e 2)).1 (kid e 1).pos (kid e 3).pos (kid e 4).pos (kid e 0).pos (scpE e) e.pos,
  en&&(innerB D (scpE e)&&(slotsB D (scpE e) [none,none,none]&&((D.inner (scpE e)).binds 1&&((D.inner (scpE e)).binds 2&&((D.inner (scpE e)).isSlot 1&&((D.inner (scpE e)).isSlot 2&&(mi D (kid e 2)).2)))))))
noncomputable def mkx(x:X):Mk:=X.rec (motive_1:=fun o0=>Mk) (motive_2:=fun o0=>Mk) (motive_3:=fun o0=>MkL)
 (fun o0 e=>(.Constant .none (numE e) e.pos,true)) (fun b o0 e=>(.Constant (.bool b) (numE e) e.pos,true)) (fun i o0 e=>(.Constant (.int i) (numE e) e.pos,true)) (fun l o0 e=>(.Constant (.str ⟨l.toArray⟩) (numE e) e.pos,decide ((⟨l.toArray⟩:Str).length≤sizeLine)&&PyData.strOk ⟨l.toArray⟩))
 (fun i D e=>(.Name (D.nm i) e.pos,D.isSlot i)) (fun k D e=>(.Name (TT.gname k) e.pos,D.isGlob (TT.gname k))) (fun o0 ml D e=>(.BoolOp .And (ml D e 0).1 e.pos,(ml D e 0).2)) (fun o0 ml D e=>(.BoolOp .Or (ml D e 0).1 e.pos,(ml D e 0).2))
 (fun o0 ma D e=>(.UnaryOp .Not (ma D (kid e 0)).1 e.pos,(ma D (kid e 0)).2)) (fun o0 o0 o0 mc ma mb D e=>(.IfExp (mc D (kid e 0)).1 (ma D (kid e 1)).1 (mb D (kid e 2)).1 e.pos,(mc D (kid e 0)).2&&((ma D (kid e 1)).2&&(mb D (kid e 2)).2)))
 (fun o o0 o0 ma mb D e=>(.BinOp (ma D (kid e 0)).1 (opB o) (mb D (kid e 1)).1 e.pos,(ma D (kid e 0)).2&&(mb D (kid e 1)).2)) (fun o0 ma D e=>(.UnaryOp .USub (ma D (kid e 0)).1 e.pos,(ma D (kid e 0)).2))
 (fun o o0 o0 ma mb D e=>(.Compare (ma D (kid e 0)).1 [opC o] [(mb D (kid e 1)).1] e.pos,!behindInMarks (opC o) (mb D (kid e 1)).1&&((ma D (kid e 0)).2&&(mb D (kid e 1)).2)))
 (fun o0 o o0 o' o0 ma mb md D e=>(.Compare (ma D (kid e 0)).1 [opC o,opC o'] [(mb D (kid e 1)).1,(md D (kid e 2)).1] e.pos,!behindInMarks (opC o') (md D (kid e 2)).1&&((ma D (kid e 0)).2&&((mb D (kid e 1)).2&&(md D (kid e 2)).2))))
 (fun f o0 ml=>callL (TT.fname f) (!(TT.fname f==("" :Str))&&decide (f < fns.length)) ml) (fun k o0 ml=>callL (TT.cname k) (decide (k < clss.length)) ml)
 (fun o0 o0 ma mb D e=>(callE TT.ename [(ma D (kid e 1)).1,(mb D (kid e 2)).1] e,D.isGlob TT.ename&&(!isStar (ma D (kid e 1)).1&&(!isStar (mb D (kid e 2)).1&&((ma D (kid e 1)).2&&(mb D (kid e 2)).2)))))
 (fun m o0 o0 mo ml=>methL (TT.mth m) mo ml) (fun o0 o0 mo mx=>meth1 "append" mo mx) (fun o0 o0 mo mx=>meth1 "join" mo mx) (fun o0 o0 mo ml=>methL "index" mo ml)
 (fun o0 f mo D e=>(.Attribute (mo D (kid e 0)).1 (TT.fld f) e.pos,noSuper (mo D (kid e 0)).1&&(mo D (kid e 0)).2)) (fun o0 o0 mo mi D e=>(.Subscript (mo D (kid e 0)).1 (mi D (kid e 1)).1 e.pos,(mo D (kid e 0)).2&&(mi D (kid e 1)).2))
 (fun o0 o0 mo my D e=>(.Subscript (mo D (kid e 0)).1 (.Slice none (some (my D (kkid e 1 0)).1) none (kid e 1).pos) e.pos,(mo D (kid e 0)).2&&(my D (kkid e 1 0)).2))
 (fun o0 o0 mo mx D e=>(.Subscript (mo D (kid e 0)).1 (.Slice (some (mx D (kkid e 1 0)).1) none none (kid e 1).pos) e.pos,(mo D (kid e 0)).2&&(mx D (kkid e 1 0)).2))
 (fun o0 o0 o0 mo mx my D e=>(.Subscript (mo D (kid e 0)).1 (.Slice (some (mx D (kkid e 1 0)).1) (some (my D (kkid e 1 1)).1) none (kid e 1).pos) e.pos,(mo D (kid e 0)).2&&((mx D (kkid e 1 0)).2&&(my D (kkid e 1 1)).2)))
 (fun l ml D e=>(.Tuple (ml D e 0).1 (numE e) e.pos,decide (l.length≤1000)&&(ml D e 0).2)) (fun o0 l ml D e=>(.List (ml D e 0).1 e.pos,decide (l.length≤1000)&&(ml D e 0).2))
 (fun o0=>call1 "len") (fun o0=>call1 "int") (fun o0=>call1 "str") (fun o0=>call1 "abs") (fun o0=>call1 "sum") (fun o0=>call1 "tuple")
 (fun o0 ma D e=>(callE "isinstance" [(ma D (kid e 1)).1,.Name "int" (kid e 2).pos] e,D.isGlob "isinstance" &&(!isStar (ma D (kid e 1)).1&&(D.isGlob "int" &&(ma D (kid e 1)).2))))
 (fun slots pat one it cond o0 mi mc me=>mkComp slots pat one (isYes cond) (enB it one) mi mc me) (fun it mi=>mkFlat (enB it true) mi)
 (fun o0 ma=>ma) (fun o0 ml=>callL "range" true ml) (fun o0=>call1 "enumerate")
 (fun o0 o0 o0=>([],true)) (fun o0 o0 mx ml D e k=>((mx D (kid e k)).1::(ml D e (k+1)).1,!isStar (mx D (kid e k)).1&&((mx D (kid e k)).2&&(ml D e (k+1)).2))) x
noncomputable def mki(x:It):Mk:=It.rec (motive_1:=fun o0=>Mk) (motive_2:=fun o0=>Mk) (motive_3:=fun o0=>MkL)
 (fun o0 e=>(.Constant .none (numE e) e.pos,true)) (fun b o0 e=>(.Constant (.bool b) (numE e) e.pos,true)) (fun i o0 e=>(.Constant (.int i) (numE e) e.pos,true)) (fun l o0 e=>(.Constant (.str ⟨l.toArray⟩) (numE e) e.pos,decide ((⟨l.toArray⟩:Str).length≤sizeLine)&&PyData.strOk ⟨l.toArray⟩))
 (fun i D e=>(.Name (D.nm i) e.pos,D.isSlot i)) (fun k D e=>(.Name (TT.gname k) e.pos,D.isGlob (TT.gname k))) (fun o0 ml D e=>(.BoolOp .And (ml D e 0).1 e.pos,(ml D e 0).2)) (fun o0 ml D e=>(.BoolOp .Or (ml D e 0).1 e.pos,(ml D e 0).2))
 (fun o0 ma D e=>(.UnaryOp .Not (ma D (kid e 0)).1 e.pos,(ma D (kid e 0)).2)) (fun o0 o0 o0 mc ma mb D e=>(.IfExp (mc D (kid e 0)).1 (ma D (kid e 1)).1 (mb D (kid e 2)).1 e.pos,(mc D (kid e 0)).2&&((ma D (kid e 1)).2&&(mb D (kid e 2)).2)))
 (fun o o0 o0 ma mb D e=>(.BinOp (ma D (kid e 0)).1 (opB o) (mb D (kid e 1)).1 e.pos,(ma D (kid e 0)).2&&(mb D (kid e 1)).2)) (fun o0 ma D e=>(.UnaryOp .USub (ma D (kid e 0)).1 e.pos,(ma D (kid e 0)).2))
 (fun o o0 o0 ma mb D e=>(.Compare (ma D (kid e 0)).1 [opC o] [(mb D (kid e 1)).1] e.pos,!behindInMarks (opC o) (mb D (kid e 1)).1&&((ma D (kid e 0)).2&&(mb D (kid e 1)).2)))
 (fun o0 o o0 o' o0 ma mb md D e=>(.Compare (ma D (kid e 0)).1 [opC o,opC o'] [(mb D (kid e 1)).1,(md D (kid e 2)).1] e.pos,!behindInMarks (opC o') (md D (kid e 2)).1&&((ma D (kid e 0)).2&&((mb D (kid e 1)).2&&(md D (kid e 2)).2))))
 (fun f o0 ml=>callL (TT.fname f) (!(TT.fname f==("" :Str))&&decide (f < fns.length)) ml) (fun k o0 ml=>callL (TT.cname k) (decide (k < clss.length)) ml)
 (fun o0 o0 ma mb D e=>(callE TT.ename [(ma D (kid e 1)).1,(mb D (kid e 2)).1] e,D.isGlob TT.ename&&(!isStar (ma D (kid e 1)).1&&(!isStar (mb D (kid e 2)).1&&((ma D (kid e 1)).2&&(mb D (kid e 2)).2)))))
 (fun m o0 o0 mo ml=>methL (TT.mth m) mo ml) (fun o0 o0 mo mx=>meth1 "append" mo mx) (fun o0 o0 mo mx=>meth1 "join" mo mx) (fun o0 o0 mo ml=>methL "index" mo ml)
 (fun o0 f mo D e=>(.Attribute (mo D (kid e 0)).1 (TT.fld f) e.pos,noSuper (mo D (kid e 0)).1&&(mo D (kid e 0)).2)) (fun o0 o0 mo mi D e=>(.Subscript (mo D (kid e 0)).1 (mi D (kid e 1)).1 e.pos,(mo D (kid e 0)).2&&(mi D (kid e 1)).2))
 (fun o0 o0 mo my D e=>(.Subscript (mo D (kid e 0)).1 (.Slice none (some (my D (kkid e 1 0)).1) none (kid e 1).pos) e.pos,(mo D (kid e 0)).2&&(my D (kkid e 1 0)).2))
 (fun o0 o0 mo mx D e=>(.Subscript (mo D (kid e 0)).1 (.Slice (some (mx D (kkid e 1 0)).1) none none (kid e 1).pos) e.pos,(mo D (kid e 0)).2&&(mx D (kkid e 1 0)).2))
 (fun o0 o0 o0 mo mx my D e=>(.Subscript (mo D (kid e 0)).1 (.Slice (some (mx D (kkid e 1 0)).1) (some (my D (kkid e 1 1)).1) none (kid e 1).pos) e.pos,(mo D (kid e 0)).2&&((mx D (kkid e 1 0)).2&&(my D (kkid e 1 1)).2)))
 (fun l ml D e=>(.Tuple (ml D e 0).1 (numE e) e.pos,decide (l.length≤1000)&&(ml D e 0).2)) (fun o0 l ml D e=>(.List (ml D e 0).1 e.pos,decide (l.length≤1000)&&(ml D e 0).2))
 (fun o0=>call1 "len") (fun o0=>call1 "int") (fun o0=>call1 "str") (fun o0=>call1 "abs") (fun o0=>call1 "sum") (fun o0=>call1 "tuple")
 (fun o0 ma D e=>(callE "isinstance" [(ma D (kid e 1)).1,.Name "int" (kid e 2).pos] e,D.isGlob "isinstance" &&(!isStar (ma D (kid e 1)).1&&(D.isGlob "int" &&(ma D (kid e 1)).2))))
 (fun slots pat one it cond o0 mi mc me=>mkComp slots pat one (isYes cond) (enB it one) mi mc me) (fun it mi=>mkFlat (enB it true) mi)
 (fun o0 ma=>ma) (fun o0 ml=>callL "range" true ml) (fun o0=>call1 "enumerate")
 (fun o0 o0 o0=>([],true)) (fun o0 o0 mx ml D e k=>((mx D (kid e k)).1::(ml D e (k+1)).1,!isStar (mx D (kid e k)).1&&((mx D (kid e k)).2&&(ml D e (k+1)).2))) x
noncomputable def mkl(x:List X):MkL:=X.rec_1 (motive_1:=fun o0=>Mk) (motive_2:=fun o0=>Mk) (motive_3:=fun o0=>MkL)
 (fun o0 e=>(.Constant .none (numE e) e.pos,true)) (fun b o0 e=>(.Constant (.bool b) (numE e) e.pos,true)) (fun i o0 e=>(.Constant (.int i) (numE e) e.pos,true)) (fun l o0 e=>(.Constant (.str ⟨l.toArray⟩) (numE e) e.pos,decide ((⟨l.toArray⟩:Str).length≤sizeLine)&&PyData.strOk ⟨l.toArray⟩))
 (fun i D e=>(.Name (D.nm i) e.pos,D.isSlot i)) (fun k D e=>(.Name (TT.gname k) e.pos,D.isGlob (TT.gname k))) (fun o0 ml D e=>(.BoolOp .And (ml D e 0).1 e.pos,(ml D e 0).2)) (fun o0 ml D e=>(.BoolOp .Or (ml D e 0).1 e.pos,(ml D e 0).2))
 (fun o0 ma D e=>(.UnaryOp .Not (ma D (kid e 0)).1 e.pos,(ma D (kid e 0)).2)) (fun o0 o0 o0 mc ma mb D e=>(.IfExp (mc D (kid e 0)).1 (ma D (kid e 1)).1 (mb D (kid e 2)).1 e.pos,(mc D (kid e 0)).2&&((ma D (kid e 1)).2&&(mb D (kid e 2)).2)))
 (fun o o0 o0 ma mb D e=>(.BinOp (ma D (kid e 0)).1 (opB o) (mb D (kid e 1)).1 e.pos,(ma D (kid e 0)).2&&(mb D (kid e 1)).2)) (fun o0 ma D e=>(.UnaryOp .USub (ma D (kid e 0)).1 e.pos,(ma D (kid e 0)).2))
 (fun o o0 o0 ma mb D e=>(.Compare (ma D (kid e 0)).1 [opC o] [(mb D (kid e 1)).1] e.pos,!behindInMarks (opC o) (mb D (kid e 1)).1&&((ma D (kid e 0)).2&&(mb D (kid e 1)).2)))
 (fun o0 o o0 o' o0 ma mb md D e=>(.Compare (ma D (kid e 0)).1 [opC o,opC o'] [(mb D (kid e 1)).1,(md D (kid e 2)).1] e.pos,!behindInMarks (opC o') (md D (kid e 2)).1&&((ma D (kid e 0)).2&&((mb D (kid e 1)).2&&(md D (kid e 2)).2))))
 (fun f o0 ml=>callL (TT.fname f) (!(TT.fname f==("" :Str))&&decide (f < fns.length)) ml) (fun k o0 ml=>callL (TT.cname k) (decide (k < clss.length)) ml)
 (fun o0 o0 ma mb D e=>(callE TT.ename [(ma D (kid e 1)).1,(mb D (kid e 2)).1] e,D.isGlob TT.ename&&(!isStar (ma D (kid e 1)).1&&(!isStar (mb D (kid e 2)).1&&((ma D (kid e 1)).2&&(mb D (kid e 2)).2)))))
 (fun m o0 o0 mo ml=>methL (TT.mth m) mo ml) (fun o0 o0 mo mx=>meth1 "append" mo mx) (fun o0 o0 mo mx=>meth1 "join" mo mx) (fun o0 o0 mo ml=>methL "index" mo ml)
 (fun o0 f mo D e=>(.Attribute (mo D (kid e 0)).1 (TT.fld f) e.pos,noSuper (mo D (kid e 0)).1&&(mo D (kid e 0)).2)) (fun o0 o0 mo mi D e=>(.Subscript (mo D (kid e 0)).1 (mi D (kid e 1)).1 e.pos,(mo D (kid e 0)).2&&(mi D (kid e 1)).2))
 (fun o0 o0 mo my D e=>(.Subscript (mo D (kid e 0)).1 (.Slice none (some (my D (kkid e 1 0)).1) none (kid e 1).pos) e.pos,(mo D (kid e 0)).2&&(my D (kkid e 1 0)).2))
 (fun o0 o0 mo mx D e=>(.Subscript (mo D (kid e 0)).1 (.Slice (some (mx D (kkid e 1 0)).1) none none (kid e 1).pos) e.pos,(mo D (kid e 0)).2&&(mx D (kkid e 1 0)).2))
 (fun o0 o0 o0 mo mx my D e=>(.Subscript (mo D (kid e 0)).1 (.Slice (some (mx D (kkid e 1 0)).1) (some (my D (kkid e 1 1)).1) none (kid e 1).pos) e.pos,(mo D (kid e 0)).2&&((mx D (kkid e 1 0)).2&&(my D (kkid e 1 1)).2)))
 (fun l ml D e=>(.Tuple (ml D e 0).1 (numE e) e.pos,decide (l.length≤1000)&&(ml D e 0).2)) (fun o0 l ml D e=>(.List (ml D e 0).1 e.pos,decide (l.length≤1000)&&(ml D e 0).2))
 (fun o0=>call1 "len") (fun o0=>call1 "int") (fun o0=>call1 "str") (fun o0=>call1 "abs") (fun o0=>call1 "sum") (fun o0=>call1 "tuple")
 (fun o0 ma D e=>(callE "isinstance" [(ma D (kid e 1)).1,.Name "int" (kid e 2).pos] e,D.isGlob "isinstance" &&(!isStar (ma D (kid e 1)).1&&(D.isGlob "int" &&(ma D (kid e 1)).2))))
 (fun slots pat one it cond o0 mi mc me=>mkComp slots pat one (isYes cond) (enB it one) mi mc me) (fun it mi=>mkFlat (enB it true) mi)
 (fun o0 ma=>ma) (fun o0 ml=>callL "range" true ml) (fun o0=>call1 "enumerate")
 (fun o0 o0 o0=>([],true)) (fun o0 o0 mx ml D e k=>((mx D (kid e k)).1::(ml D e (k+1)).1,!isStar (mx D (kid e k)).1&&((mx D (kid e k)).2&&(ml D e (k+1)).2))) x
end
end
section
set_option maxRecDepth 100000
variable{c c' cb:Cx}{g g' g₁:Gh}{n:Nat}{D:Nm}{scope:Scope}{e:Expr}
structure TabAll:Prop where
 tk:∀p,TabOk p
 ck:∀p,ClssOk (TT.K p)
 ek:∀p,ExcOk (TT.K p)
 fo:∀p,FaultOk (TT.K p)
 kf:∀p f,f < fns.length→keepIn (TT.K p) (.ref (TT.fn f))=true
structure AtN(n:Nat)(D:Nm)(c:Cx):Prop where
 n:c.n=n
 k:c.k=0
 kind:c.env.scope.kind=.function
 kindOf:∀x,c.env.kindOf x=D.names.lookup x
 slots:c.slots=D.sl
 cells:∀x,c.env.kindOf x=some .cell→∃ce,c.env.cells.lookup x=some ce
 own:D.fn=true→∀x ce,x∈c.slots→c.env.kindOf x=some .cell→c.env.cells.lookup x=some ce→ce∈c.own
theorem ands{a b:Bool}(h:(a&&b)=true):a=true∧b=true:=Bool.and_eq_true_iff.mp h
theorem nots{a:Bool}(h:(!a)=true):a=false:=(Bool.not_eq_true' a).mp h
theorem AtN.withK{K:BH}(a:AtN n D c):AtN n D (c.withK K):=⟨a.n,a.k,a.kind,a.kindOf,a.slots,a.cells,a.own⟩
theorem glob_of{id:Str}(a:AtN n D c)(h:D.isGlob id=true):c.env.kindOf id=some .globalImplicit∧(id==("__debug__" :Str))=false:=⟨(a.kindOf _).trans (beq_iff_eq.mp (ands h).1),nots (ands h).2⟩
theorem nm_at(a:AtN n D c){i:Nat}(h:i < D.sl.length):c.slots[i]?=some (D.nm i):=by
 rw[a.slots,Nm.nm,List.getD_eq_getElem?_getD,gqe h];rfl
theorem slot_of{i:Nat}(a:AtN n D c)(h:D.isSlot i=true):c.slots[i]?=some (D.nm i)∧(D.nm i==("__debug__" :Str))=false:=⟨nm_at a (of_decide_eq_true (ands h).1),nots (ands h).2⟩
theorem binds_of{i:Nat}(a:AtN n D c)(h:D.binds i=true):Bindable c i (D.nm i):=by
 have hs:=nm_at a (of_decide_eq_true (ands h).1)
 refine⟨hs,fun ce hk hl=>(Bool.or_eq_true_iff.mp (ands h).2).elim (fun hf=>a.own hf _ ce (List.mem_of_getElem? hs) hk hl) fun hl'=>nomatch ((a.kindOf _).symm.trans hk).symm.trans (beq_iff_eq.mp hl')⟩
theorem names_of(a:AtN n D c){is:List Nat}:∀{k:Nat},is.all D.binds=true→Names c (tgts D e is k) is:=List.rec (motive:=fun is=>∀{k:Nat},is.all D.binds=true→Names c (tgts D e is k) is) (fun {o0} o0=>.nil) (fun i r ih {k} h=>.cons (.mk _ _ rfl (binds_of a (ands h).1)) (ih (ands h).2)) is
theorem tgt_of(a:AtN n D c){pat:List Nat}{one:Bool}(h:tgtB D pat one=true):TargetOk c (tgt D pat one e) pat one:=by
 have h2:=(ands h).2
 cases one with
 |true=>
  obtain⟨i,rfl⟩:∃i,pat=[i]:=List.length_eq_one_iff.mp (of_decide_eq_true (ands h).1)
  exact .name _ _ i rfl rfl rfl (binds_of a (ands h2).1)
 |false=>exact .tup _ _ _ rfl rfl (names_of a h2)
theorem inner_of(a:AtN n D c)(h:innerB D scope=true):InnerOk c scope:=
 have h0:=ands (ands h).2
 have h1:∀{m k},(m,k)∈scope.names→freeB D (m,k)=true:=fun hm=>List.all_eq_true.mp h0.2 _ hm
 have hf:∀m,(m,NameKind.free)∈scope.names→m∈c.slots∧c.env.kindOf m=some .cell:=fun m hm=>
  have h3:=ands (a:=D.sl.contains m) ((ands (h1 hm)).1:(false || (D.sl.contains m&&D.k m==some .cell))=true)
  ⟨a.slots▸List.contains_iff_mem.mp h3.1,(a.kindOf _).trans (beq_iff_eq.mp h3.2)⟩
 ⟨beq_iff_eq.mp (ands h).1,of_decide_eq_true h0.1,fun m hm=>Bool.noConfusion (ands (h1 hm)).2,hf,fun m o0 hk=>a.cells m hk⟩
theorem relabel_inner(a:AtN n D c)(scope:Scope):(relabel scope c.env).names=(D.inner scope).names:=List.map_congr_left fun p o0=>by
 have h:(p.2==.free&&c.env.scope.kind==.function&&c.env.kindOf p.1==some .cell)=(p.2==.free&&D.k p.1==some .cell):=by rw[a.kind,a.kindOf];cases p.2==NameKind.free<;>rfl
 exact congrArg (fun b:Bool=>if b=true then(p.1,NameKind.cell)else p) h
theorem slots_of(a:AtN n D c){slots:List (Option Nat)}(h:slotsB D scope slots=true):SlotsOk c scope slots:=by
 have e:slotsOf (relabel scope c.env).names=(D.inner scope).sl:=congrArg slotsOf (relabel_inner a scope)
 refine⟨e▸of_decide_eq_true (ands h).1,fun j y o hy ho=>?_⟩
 have h1:=List.all_eq_true.mp (ands h).2 (y,o) (List.mem_of_getElem? (i:=j) (List.getElem?_zip_eq_some.mpr ⟨e▸hy,ho⟩))
 cases o with
 |none=>exact .own rfl (beq_iff_eq.mp h1)
 |some i=>exact .free i rfl (a.slots▸beq_iff_eq.mp (ands h1).1) (beq_iff_eq.mp (ands h1).2)
theorem AtN.inner(a:AtN n D c)(hk:innerB D scope=true){c':Cx}(i:InnerOf c scope c'):AtN n (D.inner scope) c' where
 n:=i.n.trans a.n
 k:=i.k.trans a.k
 kind:=(congrArg Scope.kind i.scp).trans (beq_iff_eq.mp (ands hk).1)
 kindOf x:=congrArg (List.lookup x) ((congrArg Scope.names i.scp).trans (relabel_inner a scope))
 slots:=i.slots.trans (congrArg slotsOf (relabel_inner a scope))
 cells:=i.cell
 own h:=Bool.noConfusion h
abbrev AX(c:Cx)(g:Gh)(e:Expr)(x:X):Prop:=∀{i:Nat} {id:Str} {p q:Pos},Bindable c i id→SE c g (.Assign [.Name id p] e q) (.assign i x)
structure MOk(c:Cx)(g:Gh)(e:Expr)(x:X):Prop where
 sx:SX c g e x
 st:ST c g e x
 ax:AX c g e x
 ns:∀env v,foldedSetIterable e env v=pure v
theorem plm{x:X}(h:SX c g e x)(he:∀env whole,isTrue e env whole=(do let v←whole;standAt e.pos;holding [v] (truthy v)))(hx:∀{γ:Type} (κ:Kt Bool γ),(ck c.C x).2 κ=(ck c.C x).1 fun w=>oK (truthyW w) κ)(hc:isComp e=false)(ns:∀env v,foldedSetIterable e env v=pure v):MOk c g e x:=⟨h,val_st he hx h,fun b=>assign_exec hc b h,ns⟩
noncomputable def MX(n:Nat)(x:X):Prop:=∀{D:Nm} {e:Expr},(mkx x D e).2=true→∀{c:Cx},AtN n D c→∀g,MOk c g (mkx x D e).1 x
structure ML(c:Cx)(g:Gh)(es:List Expr)(xs:List X):Prop where
 sxs:SXs c g es xs
 sx:All2 (SX c g) es xs
 st:All2 (ST c g) es xs
noncomputable def MXs(n:Nat)(xs:List X):Prop:=∀{D:Nm} {e:Expr} {k:Nat},(mkl xs D e k).2=true→∀{c:Cx},AtN n D c→∀g,ML c g (mkl xs D e k).1 xs
structure MIOk(c:Cx)(g:Gh)(e:Expr)(it:It):Prop where
 it:∀{target},(∀e,it=.enum e→∃es k p,target=Expr.Tuple es k p)→IT c g target e it
 ns:∀env v,foldedSetIterable e env v=pure v
noncomputable def MI(n:Nat)(it:It):Prop:=∀{D:Nm} {e:Expr},(mki it D e).2=true→∀{c:Cx},AtN n D c→∀g,MIOk c g (mki it D e).1 it
section
theorem not_sx{pos:Pos}{a:X}(h1:SX c g e a):SX c g (.UnaryOp .Not e pos) (.not a):=by
 show Snd c g (eval (.UnaryOp .Not e pos) c.env) _ _
 rw[arm_eval_UnaryOp]
 refine Snd.bind h1 (n:=fun w o0 κ=>oK (truthyW w) fun b=>κ (.v (.bool !b))) (fun o0=>rfl) fun g1 w v le hv=>Snd.standAt (Snd.holding (Snd.opt (ε:=W) (n:=fun b o0 κ=>κ (W.v (.bool !b))) fun b e=>?_))
 cases truthyW_rep e hv
 exact Snd.val fun {o0} l {o0 o0} X=>wpAny_holding (wpAny_bind (wpAny_truthy_bool (wpAny_pure (Lf.hereV X (y:=.bool !b) rfl))))
variable(G:TabAll)(cs:CallsOk n)
theorem blt_of(a:AtN n D c){id:Str}{f:Value}(h:D.isGlob id=true)(G:TabAll)(hm:id∈(["len", "int", "str", "abs", "sum", "tuple", "isinstance", "range", "enumerate"]:List Str))(nm:id≠ "__name__")(val:bootBuiltins id=some f):BltOk c id f:=⟨(glob_of a h).1,(glob_of a h).2,nm,(G.tk _).blt id hm,val⟩
theorem k_none:MX n .none:=fun o0 o0 a g=>plm none_sx (fun o0 o0=>rfl) (fun o0=>rfl) rfl fun o0 o0=>rfl
theorem k_bool{b}:MX n (.bool b):=fun o0 o0 a g=>plm bool_sx (fun o0 o0=>rfl) (fun o0=>rfl) rfl fun o0 o0=>rfl
theorem k_int{i}:MX n (.int i):=fun o0 o0 a g=>plm int_sx (fun o0 o0=>rfl) (fun o0=>rfl) rfl fun o0 o0=>rfl
theorem k_str{l}:MX n (.str l):=fun h o0 a g=>plm (str_sx (of_decide_eq_true (ands h).1) (ands h).2) (fun o0 o0=>rfl) (fun o0=>rfl) rfl fun o0 o0=>rfl
theorem k_loc{i}:MX n (.loc i):=fun h o0 a g=>plm (loc_sx (slot_of a h).1 (slot_of a h).2) (fun o0 o0=>rfl) (fun o0=>rfl) rfl fun o0 o0=>rfl
include G in
theorem k_glob{k}:MX n (.glob k):=fun h o0 a g=>plm (glob_sx (G.tk _) (glob_of a h).1 (glob_of a h).2) (fun o0 o0=>rfl) (fun o0=>rfl) rfl fun o0 o0=>rfl
theorem k_and{l}(i:MXs n l):MX n (.and l):=fun h o0 a g=>have s:=and_sx (i h a g).sx;⟨s,and_st (i h a g).st,fun b=>assign_exec rfl b s,fun o0 o0=>rfl⟩
theorem k_or{l}(i:MXs n l):MX n (.or l):=fun h o0 a g=>have s:=or_sx (i h a g).sx;⟨s,or_st (i h a g).st,fun b=>assign_exec rfl b s,fun o0 o0=>rfl⟩
theorem k_not{x}(i:MX n x):MX n (.not x):=fun h o0 a g=>have s:=not_sx (i h a g).sx;⟨s,not_st (i h a g).st,fun b=>assign_exec rfl b s,fun o0 o0=>rfl⟩
theorem k_ite{x y z}(i:MX n x)(j:MX n y)(k:MX n z):MX n (.ite x y z):=fun h o0 a g=>have h2:=ands (ands h).2;have s:=ite_sx (i (ands h).1 a g).st (j h2.1 a g).sx (k h2.2 a g).sx;⟨s,ite_st (i (ands h).1 a g).st (j h2.1 a g).st (k h2.2 a g).st,fun b=>assign_exec rfl b s,fun o0 o0=>rfl⟩
theorem k_bin{o x y}(i:MX n x)(j:MX n y):MX n (.bin o x y):=fun h o0 a g=>plm (bin_sx (i (ands h).1 a g).sx (j (ands h).2 a g).sx) (fun o0 o0=>rfl) (fun o0=>rfl) rfl fun o0 o0=>rfl
theorem k_neg{x}(i:MX n x):MX n (.neg x):=fun h o0 a g=>plm (neg_sx (i h a g).sx) (fun o0 o0=>rfl) (fun o0=>rfl) rfl fun o0 o0=>rfl
theorem k_cmp{o x y}(i:MX n x)(j:MX n y):MX n (.cmp o x y):=fun h o0 a g=>have h2:=ands (ands h).2;have s:=cmp_sx (nots (ands h).1) (i h2.1 a g).sx (j h2.2 a g).sx;⟨s,cmp_st (nots (ands h).1) (i h2.1 a g).sx (j h2.2 a g).sx,fun b=>assign_exec rfl b s,fun o0 o0=>rfl⟩
theorem k_chain{o o' x y z}(i:MX n x)(j:MX n y)(k:MX n z):MX n (.chain x o y o' z):=fun h o0 a g=>have h2:=ands (ands h).2;have h3:=ands h2.2;have s:=chain_sx (nots (ands h).1) (i h2.1 a g).sx (j h3.1 a g).sx (k h3.2 a g).sx;⟨s,chain_st (nots (ands h).1) (i h2.1 a g).sx (j h3.1 a g).sx (k h3.2 a g).sx,fun b=>assign_exec rfl b s,fun o0 o0=>rfl⟩
include G cs in
theorem k_call{f xs}(i:MXs n xs):MX n (.call f xs):=fun h o0 a g=>have h1:=ands h;have h2:=ands h1.2;have h3:=ands h2.1;have hlt:=of_decide_eq_true h3.2;plm (func_sx (G.tk _) (a.n.symm▸cs) (glob_of a h1.1).1 (glob_of a h1.1).2 (beq_eq_false_iff_ne.mp (nots h3.1)) ⟨_,gqe hlt⟩ (G.kf _ f hlt) (i h2.2 a g).sxs) (fun o0 o0=>rfl) (fun o0=>rfl) rfl fun o0 o0=>rfl
include G cs in
theorem k_new{k xs}(i:MXs n xs):MX n (.new k xs):=fun h o0 a g=>have h1:=ands h;have h2:=ands h1.2;plm (new_sx a.k (G.tk _) (G.ck _) (a.n.symm▸cs) (glob_of a h1.1).1 (glob_of a h1.1).2 (of_decide_eq_true h2.1) (i h2.2 a g).sxs) (fun o0 o0=>rfl) (fun o0=>rfl) rfl fun o0 o0=>rfl
include G in
theorem k_newExc{x y}(i:MX n x)(j:MX n y):MX n (.newExc x y):=fun h o0 a g=>have h1:=ands h;have h2:=ands h1.2;have h3:=ands h2.2;have h4:=ands h3.2;plm (newExc_sx (G.tk _) (G.fo _) (glob_of a h1.1).1 (glob_of a h1.1).2 (G.ek _).keep (.cons ⟨nots h2.1,(i h4.1 a g).sx⟩ (.cons ⟨nots h3.1,(j h4.2 a g).sx⟩ .nil))) (fun o0 o0=>rfl) (fun o0=>rfl) rfl fun o0 o0=>rfl
include G cs in
theorem k_meth{m o xs}(i:MX n o)(j:MXs n xs):MX n (.meth m o xs):=fun h o0 a g=>have h1:=ands h;have h0:=ands h1.1;have h2:=ands h1.2;have h3:=ands h2.2;plm (meth_sx (G.ck _) (a.n.symm▸cs) h0.1 h0.2 (of_decide_eq_true h2.1) (i h3.1 a g).sx (j h3.2 a g).sxs) (fun o0 o0=>rfl) (fun o0=>rfl) rfl fun o0 o0=>rfl
theorem k_append{o x}(i:MX n o)(j:MX n x):MX n (.append o x):=fun h o0 a g=>have h1:=ands h;have h0:=ands h1.1;have h2:=ands h1.2;have h3:=ands h2.2;plm (append_sx h0.1 h0.2 (nots h2.1) (i h3.1 a g).sx (j h3.2 a g).sx) (fun o0 o0=>rfl) (fun o0=>rfl) rfl fun o0 o0=>rfl
theorem k_join{o x}(i:MX n o)(j:MX n x):MX n (.join o x):=fun h o0 a g=>have h1:=ands h;have h0:=ands h1.1;have h2:=ands h1.2;have h3:=ands h2.2;plm (join_sx h0.1 h0.2 (nots h2.1) (i h3.1 a g).sx (j h3.2 a g).sx) (fun o0 o0=>rfl) (fun o0=>rfl) rfl fun o0 o0=>rfl
theorem k_index{o xs}(i:MX n o)(j:MXs n xs):MX n (.index o xs):=fun h o0 a g=>have h1:=ands h;have h0:=ands h1.1;have h2:=ands h1.2;have h3:=ands h2.2;plm (index_sx h0.1 h0.2 (of_decide_eq_true h2.1) (i h3.1 a g).sx (j h3.2 a g).sxs) (fun o0 o0=>rfl) (fun o0=>rfl) rfl fun o0 o0=>rfl
include G in
theorem k_attr{o f}(i:MX n o):MX n (.attr o f):=fun h o0 a g=>plm (attr_sx (G.ck _) (G.ek _) (ands h).1 (i (ands h).2 a g).sx) (fun o0 o0=>rfl) (fun o0=>rfl) rfl fun o0 o0=>rfl
theorem k_sub{o x}(i:MX n o)(j:MX n x):MX n (.sub o x):=fun h o0 a g=>plm (sub_sx (i (ands h).1 a g).sx (j (ands h).2 a g).sx) (fun o0 o0=>rfl) (fun o0=>rfl) rfl fun o0 o0=>rfl
theorem k_sliceTo{o x}(i:MX n o)(j:MX n x):MX n (.sliceTo o x):=fun h o0 a g=>plm (sliceTo_sx (i (ands h).1 a g).sx (j (ands h).2 a g).sx) (fun o0 o0=>rfl) (fun o0=>rfl) rfl fun o0 o0=>rfl
theorem k_sliceFrom{o x}(i:MX n o)(j:MX n x):MX n (.sliceFrom o x):=fun h o0 a g=>plm (sliceFrom_sx (i (ands h).1 a g).sx (j (ands h).2 a g).sx) (fun o0 o0=>rfl) (fun o0=>rfl) rfl fun o0 o0=>rfl
theorem k_slice{o x y}(i:MX n o)(j:MX n x)(k:MX n y):MX n (.slice o x y):=fun h o0 a g=>have h2:=ands (ands h).2;plm (slice_sx (i (ands h).1 a g).sx (j h2.1 a g).sx (k h2.2 a g).sx) (fun o0 o0=>rfl) (fun o0=>rfl) rfl fun o0 o0=>rfl
theorem k_tup{l}(i:MXs n l):MX n (.tup l):=fun h o0 a g=>plm (tup_sx (i (ands h).2 a g).sxs (of_decide_eq_true (ands h).1)) (fun o0 o0=>rfl) (fun o0=>rfl) rfl fun o0 o0=>rfl
theorem k_list{m l}(i:MXs n l):MX n (.list m l):=fun h o0 a g=>plm (list_sx (i (ands h).2 a g).sxs (of_decide_eq_true (ands h).1)) (fun o0 o0=>rfl) (fun o0=>rfl) rfl fun o0 o0=>rfl
include G in
theorem k_len{x}(i:MX n x):MX n (.len x):=fun h o0 a g=>have h1:=ands h;have h2:=ands h1.2;plm (len_sx (blt_of a h1.1 G (by decide) (by decide) rfl) (nots h2.1) (i h2.2 a g).sx) (fun o0 o0=>rfl) (fun o0=>rfl) rfl fun o0 o0=>rfl
include G in
theorem k_toInt{x}(i:MX n x):MX n (.toInt x):=fun h o0 a g=>have h1:=ands h;have h2:=ands h1.2;plm (toInt_sx (blt_of a h1.1 G (by decide) (by decide) rfl) (nots h2.1) (i h2.2 a g).sx) (fun o0 o0=>rfl) (fun o0=>rfl) rfl fun o0 o0=>rfl
include G in
theorem k_toStr{x}(i:MX n x):MX n (.toStr x):=fun h o0 a g=>have h1:=ands h;have h2:=ands h1.2;plm (toStr_sx (blt_of a h1.1 G (by decide) (by decide) rfl) (nots h2.1) (i h2.2 a g).sx) (fun o0 o0=>rfl) (fun o0=>rfl) rfl fun o0 o0=>rfl
include G in
theorem k_abs{x}(i:MX n x):MX n (.abs x):=fun h o0 a g=>have h1:=ands h;have h2:=ands h1.2;plm (abs_sx (blt_of a h1.1 G (by decide) (by decide) rfl) (nots h2.1) (i h2.2 a g).sx) (fun o0 o0=>rfl) (fun o0=>rfl) rfl fun o0 o0=>rfl
include G in
theorem k_sum{x}(i:MX n x):MX n (.sum x):=fun h o0 a g=>have h1:=ands h;have h2:=ands h1.2;plm (sum_sx (blt_of a h1.1 G (by decide) (by decide) rfl) (nots h2.1) (i h2.2 a g).sx) (fun o0 o0=>rfl) (fun o0=>rfl) rfl fun o0 o0=>rfl
include G in
theorem k_tuple{x}(i:MX n x):MX n (.tuple x):=fun h o0 a g=>have h1:=ands h;have h2:=ands h1.2;plm (tuple_sx (blt_of a h1.1 G (by decide) (by decide) rfl) (nots h2.1) (i h2.2 a g).sx) (fun o0 o0=>rfl) (fun o0=>rfl) rfl fun o0 o0=>rfl
include G in
theorem k_isInt{x}(i:MX n x):MX n (.isInt x):=fun h o0 a g=>have h1:=ands h;have h2:=ands h1.2;have h3:=ands h2.2;plm (isInt_sx (blt_of a h1.1 G (by decide) (by decide) rfl) (blt_of a h3.1 G (by decide) (by decide) rfl) (nots h2.1) (i h3.2 a g).sx) (fun o0 o0=>rfl) (fun o0=>rfl) rfl fun o0 o0=>rfl
theorem yes_of{x:X}:isYes x=true→x=.bool true:=X.rec (motive_1:=fun x=>isYes x=true→x=.bool true) (motive_2:=fun o0=>True) (motive_3:=fun o0=>True) nofun (fun b (h:b=true)=>h▸rfl) (fun o0 h=>Bool.noConfusion h) (fun o0 h=>Bool.noConfusion h) (fun o0 h=>Bool.noConfusion h) (fun o0 h=>Bool.noConfusion h) (fun o0 o0 h=>Bool.noConfusion h) (fun o0 o0 h=>Bool.noConfusion h) (fun o0 o0 h=>Bool.noConfusion h) (fun o0 o0 o0 o0 o0 o0 h=>Bool.noConfusion h) (fun o0 o0 o0 o0 o0 h=>Bool.noConfusion h) (fun o0 o0 h=>Bool.noConfusion h) (fun o0 o0 o0 o0 o0 h=>Bool.noConfusion h) (fun o0 o0 o0 o0 o0 o0 o0 o0 h=>Bool.noConfusion h) (fun o0 o0 o0 h=>Bool.noConfusion h) (fun o0 o0 o0 h=>Bool.noConfusion h) (fun o0 o0 o0 o0 h=>Bool.noConfusion h) (fun o0 o0 o0 o0 o0 h=>Bool.noConfusion h) (fun o0 o0 o0 o0 h=>Bool.noConfusion h) (fun o0 o0 o0 o0 h=>Bool.noConfusion h) (fun o0 o0 o0 o0 h=>Bool.noConfusion h) (fun o0 o0 o0 h=>Bool.noConfusion h) (fun o0 o0 o0 o0 h=>Bool.noConfusion h) (fun o0 o0 o0 o0 h=>Bool.noConfusion h) (fun o0 o0 o0 o0 h=>Bool.noConfusion h) (fun o0 o0 o0 o0 o0 o0 h=>Bool.noConfusion h) (fun o0 o0 h=>Bool.noConfusion h) (fun o0 o0 o0 h=>Bool.noConfusion h) (fun o0 o0 h=>Bool.noConfusion h) (fun o0 o0 h=>Bool.noConfusion h) (fun o0 o0 h=>Bool.noConfusion h) (fun o0 o0 h=>Bool.noConfusion h) (fun o0 o0 h=>Bool.noConfusion h) (fun o0 o0 h=>Bool.noConfusion h) (fun o0 o0 h=>Bool.noConfusion h) (fun o0 o0 o0 o0 o0 o0 o0 o0 o0 h=>Bool.noConfusion h) (fun o0 o0 h=>Bool.noConfusion h) (fun o0 o0=>trivial) (fun o0 o0=>trivial) (fun o0 o0=>trivial) trivial (fun o0 o0 o0 o0=>trivial) x
theorem test_of{D:Nm}{e:Expr}{cond:X}(h:(mkx cond D e).2=true){c:Cx}(a:AtN n D c)(j:MX n cond):TestOk c (bif isYes cond then []else [(mkx cond D e).1]) cond:=by
 cases q:isYes cond with
 |true=>exact .inl ⟨rfl,yes_of q⟩
 |false=>exact .inr ⟨_,rfl,fun g=>(j h a g).st⟩
theorem en_of{D:Nm}{pat:List Nat}{one:Bool}{e:Expr}{it:It}(h:enB it one=true):∀x,it=.enum x→∃es k p,tgt D pat one e=Expr.Tuple es k p:=fun x q=>by
 subst q;cases nots h;exact⟨_,_,_,rfl⟩
theorem comp_ok{x:X}(co:CompOk c g e x)(he:∀env whole,isTrue e env whole=(do let v←whole;standAt e.pos;holding [v] (truthy v)))(hx:∀{γ:Type} (κ:Kt Bool γ),(ck c.C x).2 κ=(ck c.C x).1 fun w=>oK (truthyW w) κ)(ns:∀env v,foldedSetIterable e env v=pure v):MOk c g e x:=
 ⟨comp_sx co,val_st he hx (comp_sx co),fun b=>comp_assign b co,ns⟩
theorem k_comp{sl pat w it cond x}(i:MI n it)(j:MX n cond)(k:MX n x):MX n (.comp sl pat w it cond x):=fun {D e} h {c} a g=>
 have h0:=ands h;have h1:=ands h0.2;have h2:=ands h1.2;have h3:=ands h2.2;have h4:=ands h3.2;have h5:=ands h4.2
 comp_ok (.mk _ _ _ _ [] _ _ it sl (Co c.C pat w cond x) rfl (inner_of a h1.1) (slots_of a h2.1) (fun v=>(i h4.1 a g).ns _ v) ((i h4.1 a g).it (en_of h0.1)) (loop_one (fun c' I=>tgt_of (a.inner h1.1 I) h3.1) (fun c' I=>test_of h5.1 (a.inner h1.1 I) j) fun c' I g=>(k h5.2 (a.inner h1.1 I) g).sx) fun o0=>rfl) (fun o0 o0=>rfl) (fun o0=>rfl) fun o0 o0=>rfl
theorem k_flat{it}(i:MI n it):MX n (.flat it):=fun {D e} h {c} a g=>
 have h0:=ands h;have h1:=ands h0.2;have h2:=ands h1.2;have h3:=ands h2.2;have h4:=ands h3.2;have h5:=ands h4.2;have h6:=ands h5.2
 comp_ok (.mk _ _ _ _ _ _ _ it [none,none,none] _ rfl (inner_of a h1.1) (slots_of a h2.1) (fun v=>(i h6.2 a g).ns _ v) ((i h6.2 a g).it fun x q=>by subst q;cases h0.1)
  (flat_loop (fun c' I=>binds_of (a.inner h1.1 I) h3.1) (fun c' I=>binds_of (a.inner h1.1 I) h4.1) (nots (ands h5.1).2) (nots (ands h6.1).2)) fun k=>congrArg (cit c.C it) (funext fun w=>funext fun xs=>funext fun st=>by cases flatO xs<;>rfl)) (fun o0 o0=>rfl) (fun o0=>rfl) fun o0 o0=>rfl
theorem k_x{x}(i:MX n x):MI n (.x x):=fun h o0 a g=>⟨fun o0=>x_it (i h a g).sx,(i h a g).ns⟩
section
include G
theorem k_rng{l}(i:MXs n l):MI n (.rng l):=fun h o0 a g=>⟨fun o0=>rng_it (blt_of a (ands h).1 G (by decide) (by decide) rfl) (i (ands h).2 a g).sxs,fun o0 o0=>rfl⟩
theorem k_enum{x}(i:MX n x):MI n (.enum x):=fun h o0 a g=>have h2:=ands (ands h).2;⟨fun q=>let ⟨_,_,_,q⟩:=q _ rfl;q▸enum_it (blt_of a (ands h).1 G (by decide) (by decide) rfl) (nots h2.1) (i h2.2 a g).sx,fun o0 o0=>rfl⟩
end
theorem k_nil:MXs n []:=fun h o0 a g=>⟨.nil,.nil,.nil⟩
theorem k_cons{x xs}(i:MX n x)(j:MXs n xs):MXs n (x::xs):=fun h o0 a g=>
 have h2:=ands (ands h).2;have m:=i h2.1 a g;have l:=j h2.2 a g
 ⟨.cons ⟨nots (ands h).1,m.sx⟩ l.sxs,.cons m.sx l.sx,.cons m.st l.st⟩
include G cs
theorem mk_x(x:X):MX n x:=X.rec (motive_1:=MX n) (motive_2:=MI n) (motive_3:=MXs n)
 k_none (fun o0=>k_bool) (fun o0=>k_int) (fun o0=>k_str) (fun o0=>k_loc) (fun o0=>k_glob G) (fun o0=>k_and) (fun o0=>k_or) (fun o0=>k_not) (fun o0 o0 o0=>k_ite) (fun o0 o0 o0=>k_bin) (fun o0=>k_neg) (fun o0 o0 o0=>k_cmp)
 (fun o0 o0 o0 o0 o0=>k_chain) (fun o0 o0=>k_call G cs) (fun o0 o0=>k_new G cs) (fun o0 o0=>k_newExc G) (fun o0 o0 o0=>k_meth G cs) (fun o0 o0=>k_append) (fun o0 o0=>k_join) (fun o0 o0=>k_index) (fun o0 o0=>k_attr G) (fun o0 o0=>k_sub)
 (fun o0 o0=>k_sliceTo) (fun o0 o0=>k_sliceFrom) (fun o0 o0 o0=>k_slice) (fun o0=>k_tup) (fun o0 o0=>k_list) (fun o0=>k_len G) (fun o0=>k_toInt G) (fun o0=>k_toStr G) (fun o0=>k_abs G) (fun o0=>k_sum G) (fun o0=>k_tuple G) (fun o0=>k_isInt G)
 (fun o0 o0 o0 o0 o0 o0=>k_comp) (fun o0=>k_flat) (fun o0=>k_x) (fun o0=>k_rng G) (fun o0=>k_enum G) k_nil (fun o0 o0=>k_cons) x
theorem mk_xs:∀l:List X,MXs n l:=List.rec k_nil fun x o0 h=>k_cons (mk_x G cs x) h
theorem mk_it(it:It):MI n it:=match it with
 |.x a=>k_x (mk_x G cs a)
 |.rng l=>k_rng G (mk_xs G cs l)
 |.enum a=>k_enum G (mk_x G cs a)
end
end
section
set_option maxRecDepth 100000
variable{c c' cb:Cx}{g g' g₁:Gh}{n:Nat}{D:Nm}{scope:Scope}{e:Stmt}
noncomputable section
noncomputable def noP:Pos:=⟨0,0,0,0⟩
noncomputable def noE:Expr:=.Constant .none 0 noP
structure SV where
 ks:List Expr
 body:List Stmt
 els:List Stmt
 hs:List ExceptHandler
noncomputable def sv0:SV:=⟨[],[],[],[]⟩
noncomputable def svE(l:List Expr):SV:=⟨l,[],[],[]⟩
noncomputable def viewS(e:Stmt):SV:=Stmt.casesOn (motive_2:=fun o0=>SV) e (fun o0 o0 o0 o0 o0 o0 o0 o0 o0 o0=>sv0) (fun o0 o0 o0 o0 o0 o0 o0 o0 o0 o0=>sv0) (fun o0 o0 o0 o0 o0 o0 o0 o0 o0 o0 o0=>sv0) (fun v o0=>svE v.toList) (fun o0 o0=>sv0) (fun ts v o0=>svE (v::ts)) (fun o0 o0 o0 o0 o0 o0 o0=>sv0) (fun o0 o0 o0 o0=>sv0) (fun o0 o0 o0 o0 o0=>sv0)
 (fun t i b o0 o0=>⟨[i,t],b,[],[]⟩) (fun o0 o0 o0 o0 o0=>sv0) (fun t b o0 o0=>⟨[t],b,[],[]⟩) (fun t b el o0=>⟨[t],b,el,[]⟩) (fun o0 o0 o0=>sv0) (fun o0 o0 o0=>sv0) (fun o0 o0 o0=>sv0) (fun v o0 o0=>svE v.toList) (fun b hs o0 o0 o0=>⟨[],b,[],hs⟩) (fun o0 o0 o0 o0 o0=>sv0) (fun o0 o0 o0=>sv0)
 (fun o0 o0=>sv0) (fun o0 o0 o0 o0=>sv0) (fun o0 o0=>sv0) (fun o0 o0=>sv0) (fun v o0=>svE [v]) (fun o0=>sv0) (fun o0=>sv0) (fun o0=>sv0)
@[reducible] noncomputable def kS(e:Stmt)(i:Nat):Expr:=(viewS e).ks.getD i noE
noncomputable def hView(e:Stmt):Expr×Pos×Stmt:=List.casesOn (viewS e).hs (noE,noP,.Pass noP) fun h o0=>ExceptHandler.casesOn (motive_4:=fun o0=>Expr×Pos×Stmt) h fun t o0 b p=>(t.getD noE,p,b.headD (.Pass noP))
noncomputable def isTuple(e:Expr):Bool:=e.ctorIdx==25
abbrev SB:=Stmt×Bool
abbrev MkS:=Nm→Stmt→SB
abbrev MkSs:=Nm→List Stmt→List Stmt×Bool
noncomputable def mks(x:S):MkS:=S.rec (motive_1:=fun o0=>MkS) (motive_2:=fun o0=>MkSs)
 (fun x D e=>(.Expr (mkx x D (kS e 0)).1 e.pos,!isComp (mkx x D (kS e 0)).1&&(mkx x D (kS e 0)).2))
 (fun i x D e=>(.Assign [.Name (D.nm i) (kS e 1).pos] (mkx x D (kS e 0)).1 e.pos,D.binds i&&(mkx x D (kS e 0)).2))
 (fun is x D e=>(.Assign [.Tuple (tgts D (kS e 1) is 0) (numE (kS e 1)) (kS e 1).pos] (mkx x D (kS e 0)).1 e.pos,!isComp (mkx x D (kS e 0)).1&&(!isTuple (mkx x D (kS e 0)).1&&(is.all D.binds&&(mkx x D (kS e 0)).2))))
 (fun i j a b D e=>(.Assign [.Tuple [.Name (D.nm i) (kid (kS e 1) 0).pos,.Name (D.nm j) (kid (kS e 1) 1).pos] (numE (kS e 1)) (kS e 1).pos] (.Tuple [(mkx a D (kid (kS e 0) 0)).1,(mkx b D (kid (kS e 0) 1)).1] (numE (kS e 0)) (kS e 0).pos) e.pos,
  D.binds i&&(D.binds j&&(!decide (i=j)&&(!isStar (mkx a D (kid (kS e 0) 0)).1&&(!isStar (mkx b D (kid (kS e 0) 1)).1&&(!(constantsAlone 8 (mkx a D (kid (kS e 0) 0)).1&&constantsAlone 8 (mkx b D (kid (kS e 0) 1)).1)&&((mkx a D (kid (kS e 0) 0)).2&&(mkx b D (kid (kS e 0) 1)).2))))))))
 (fun o f x D e=>(.Assign [.Attribute (mkx o D (kid (kS e 1) 0)).1 (TT.fld f) (kS e 1).pos] (mkx x D (kS e 0)).1 e.pos,!isComp (mkx x D (kS e 0)).1&&((mkx x D (kS e 0)).2&&(mkx o D (kid (kS e 1) 0)).2)))
 (fun o i x D e=>(.Assign [.Subscript (mkx o D (kid (kS e 1) 0)).1 (mkx i D (kid (kS e 1) 1)).1 (kS e 1).pos] (mkx x D (kS e 0)).1 e.pos,!isComp (mkx x D (kS e 0)).1&&((mkx x D (kS e 0)).2&&((mkx o D (kid (kS e 1) 0)).2&&(mkx i D (kid (kS e 1) 1)).2))))
 (fun t o0 o0 ma mb D e=>(.If (mkx t D (kS e 0)).1 (ma D (viewS e).body).1 (mb D (viewS e).els).1 e.pos,(mkx t D (kS e 0)).2&&((ma D (viewS e).body).2&&(mb D (viewS e).els).2)))
 (fun t o0 mb D e=>(.While (mkx t D (kS e 0)).1 (mb D (viewS e).body).1 [] e.pos,(mkx t D (kS e 0)).2&&(mb D (viewS e).body).2))
 (fun pat one it o0 mb D e=>(.For (tgt D pat one (kS e 1)) (mki it D (kS e 0)).1 (mb D (viewS e).body).1 [] e.pos,enB it one&&((mki it D (kS e 0)).2&&(tgtB D pat one&&(mb D (viewS e).body).2))))
 (fun x D e=>(.Return (some (mkx x D (kS e 0)).1) e.pos,(mkx x D (kS e 0)).2)) (fun x D e=>(.Raise (some (mkx x D (kS e 0)).1) none e.pos,(mkx x D (kS e 0)).2))
 (fun o0 fs sl mb D e=>(.Try (mb D (viewS e).body).1 [.ExceptHandler (some (.Name TT.ename (hView e).1.pos)) (some (D.nm fs)) [.Assign [.Name (D.nm sl) (kS (hView e).2.2 1).pos] (.Attribute (.Name (D.nm fs) (kid (kS (hView e).2.2 0) 0).pos) (TT.fld 0) (kS (hView e).2.2 0).pos) (hView e).2.2.pos] (hView e).2.1] [] [] e.pos,
  D.isGlob TT.ename&&(D.isSlot fs&&(D.k (D.nm fs)==some .local&&(decide (sl < D.sl.length)&&(D.k (D.nm sl)==some .local&&(!(D.nm sl==D.nm fs)&&(mb D (viewS e).body).2)))))))
 (fun o0 o0=>([],true)) (fun o0 o0 mx ml D es=>((mx D (es.headD (.Pass noP))).1::(ml D es.tail).1,(mx D (es.headD (.Pass noP))).2&&(ml D es.tail).2)) x
noncomputable def mkss(x:List S):MkSs:=S.rec_1 (motive_1:=fun o0=>MkS) (motive_2:=fun o0=>MkSs)
 (fun x D e=>(.Expr (mkx x D (kS e 0)).1 e.pos,!isComp (mkx x D (kS e 0)).1&&(mkx x D (kS e 0)).2))
 (fun i x D e=>(.Assign [.Name (D.nm i) (kS e 1).pos] (mkx x D (kS e 0)).1 e.pos,D.binds i&&(mkx x D (kS e 0)).2))
 (fun is x D e=>(.Assign [.Tuple (tgts D (kS e 1) is 0) (numE (kS e 1)) (kS e 1).pos] (mkx x D (kS e 0)).1 e.pos,!isComp (mkx x D (kS e 0)).1&&(!isTuple (mkx x D (kS e 0)).1&&(is.all D.binds&&(mkx x D (kS e 0)).2))))
 (fun i j a b D e=>(.Assign [.Tuple [.Name (D.nm i) (kid (kS e 1) 0).pos,.Name (D.nm j) (kid (kS e 1) 1).pos] (numE (kS e 1)) (kS e 1).pos] (.Tuple [(mkx a D (kid (kS e 0) 0)).1,(mkx b D (kid (kS e 0) 1)).1] (numE (kS e 0)) (kS e 0).pos) e.pos,
  D.binds i&&(D.binds j&&(!decide (i=j)&&(!isStar (mkx a D (kid (kS e 0) 0)).1&&(!isStar (mkx b D (kid (kS e 0) 1)).1&&(!(constantsAlone 8 (mkx a D (kid (kS e 0) 0)).1&&constantsAlone 8 (mkx b D (kid (kS e 0) 1)).1)&&((mkx a D (kid (kS e 0) 0)).2&&(mkx b D (kid (kS e 0) 1)).2))))))))
 (fun o f x D e=>(.Assign [.Attribute (mkx o D (kid (kS e 1) 0)).1 (TT.fld f) (kS e 1).pos] (mkx x D (kS e 0)).1 e.pos,!isComp (mkx x D (kS e 0)).1&&((mkx x D (kS e 0)).2&&(mkx o D (kid (kS e 1) 0)).2)))
 (fun o i x D e=>(.Assign [.Subscript (mkx o D (kid (kS e 1) 0)).1 (mkx i D (kid (kS e 1) 1)).1 (kS e 1).pos] (mkx x D (kS e 0)).1 e.pos,!isComp (mkx x D (kS e 0)).1&&((mkx x D (kS e 0)).2&&((mkx o D (kid (kS e 1) 0)).2&&(mkx i D (kid (kS e 1) 1)).2))))
 (fun t o0 o0 ma mb D e=>(.If (mkx t D (kS e 0)).1 (ma D (viewS e).body).1 (mb D (viewS e).els).1 e.pos,(mkx t D (kS e 0)).2&&((ma D (viewS e).body).2&&(mb D (viewS e).els).2)))
 (fun t o0 mb D e=>(.While (mkx t D (kS e 0)).1 (mb D (viewS e).body).1 [] e.pos,(mkx t D (kS e 0)).2&&(mb D (viewS e).body).2))
 (fun pat one it o0 mb D e=>(.For (tgt D pat one (kS e 1)) (mki it D (kS e 0)).1 (mb D (viewS e).body).1 [] e.pos,enB it one&&((mki it D (kS e 0)).2&&(tgtB D pat one&&(mb D (viewS e).body).2))))
 (fun x D e=>(.Return (some (mkx x D (kS e 0)).1) e.pos,(mkx x D (kS e 0)).2)) (fun x D e=>(.Raise (some (mkx x D (kS e 0)).1) none e.pos,(mkx x D (kS e 0)).2))
 (fun o0 fs sl mb D e=>(.Try (mb D (viewS e).body).1 [.ExceptHandler (some (.Name TT.ename (hView e).1.pos)) (some (D.nm fs)) [.Assign [.Name (D.nm sl) (kS (hView e).2.2 1).pos] (.Attribute (.Name (D.nm fs) (kid (kS (hView e).2.2 0) 0).pos) (TT.fld 0) (kS (hView e).2.2 0).pos) (hView e).2.2.pos] (hView e).2.1] [] [] e.pos,
  D.isGlob TT.ename&&(D.isSlot fs&&(D.k (D.nm fs)==some .local&&(decide (sl < D.sl.length)&&(D.k (D.nm sl)==some .local&&(!(D.nm sl==D.nm fs)&&(mb D (viewS e).body).2)))))))
 (fun o0 o0=>([],true)) (fun o0 o0 mx ml D es=>((mx D (es.headD (.Pass noP))).1::(ml D es.tail).1,(mx D (es.headD (.Pass noP))).2&&(ml D es.tail).2)) x
end
noncomputable def MS(n:Nat)(x:S):Prop:=∀{D:Nm} {e:Stmt},(mks x D e).2=true→∀{c:Cx},AtN n D c→∀g,SE c g (mks x D e).1 x
noncomputable def MSs(n:Nat)(xs:List S):Prop:=∀{D:Nm} {es:List Stmt},(mkss xs D es).2=true→∀{c:Cx},AtN n D c→∀g,SEs c g (mkss xs D es).1 xs
section
variable(G:TabAll)(cs:CallsOk n)
include G cs
theorem s_expr{x}:MS n (.expr x):=fun h o0 a g=>expr_exec a.kind (nots (ands h).1) (mk_x G cs x (ands h).2 a g).sx
theorem s_assign{i x}:MS n (.assign i x):=fun h o0 a g=>(mk_x G cs x (ands h).2 a g).ax (binds_of a (ands h).1)
theorem s_unpack{is x}:MS n (.unpack is x):=fun h o0 a g=>have h2:=ands (ands h).2;have h3:=ands h2.2
 unpack_exec (nots (ands h).1) (fun vs k p q=>by rw[q]at h2;exact Bool.noConfusion h2.1) (names_of a h3.1) (mk_x G cs x h3.2 a g).sx
theorem s_assign2{i j x y}:MS n (.assign2 i j x y):=fun h o0 a g=>
 have h1:=ands h;have h2:=ands h1.2;have h3:=ands h2.2;have h4:=ands h3.2;have h5:=ands h4.2;have h6:=ands h5.2;have h7:=ands h6.2
 assign2_exec (binds_of a h1.1) (binds_of a h2.1) (of_decide_eq_false (nots h3.1)) (nots h4.1) (nots h5.1) (nots h6.1) (mk_x G cs x h7.1 a g).sx (mk_x G cs y h7.2 a g).sx
theorem s_setattr{o f x}:MS n (.setattr o f x):=fun h o0 a g=>have h2:=ands (ands h).2;setattr_exec (G.ck _) (nots (ands h).1) (mk_x G cs x h2.1 a g).sx (mk_x G cs o h2.2 a g).sx
theorem s_setitem{o i x}:MS n (.setitem o i x):=fun h o0 a g=>have h2:=ands (ands h).2;have h3:=ands h2.2;setitem_exec (nots (ands h).1) (mk_x G cs x h2.1 a g).sx (mk_x G cs o h3.1 a g).sx (mk_x G cs i h3.2 a g).sx
theorem s_ite{t x y}(i:MSs n x)(j:MSs n y):MS n (.ite t x y):=fun h o0 a g=>have h2:=ands (ands h).2;ite_exec (mk_x G cs t (ands h).1 a g).st (i h2.1 a g) (j h2.2 a g)
theorem s_while{t b}(i:MSs n b):MS n (.while_ t b):=fun h o0 a g=>while_exec (mk_x G cs t (ands h).1 a g).st (i (ands h).2 a g)
theorem s_for{pat w it b}(i:MSs n b):MS n (.for_ pat w it b):=fun h c a g=>have h2:=ands (ands h).2;have h3:=ands h2.2;have m:=mk_it G cs it h2.1 a g
 for_exec (fun v=>m.ns _ v) (m.it (en_of (ands h).1)) (tgt_of a h3.1) fun K o0=>i h3.2 a.withK g
theorem s_ret{x}:MS n (.ret x):=fun h o0 a g=>ret_exec (mk_x G cs x h a g).sx
theorem s_raise{x}:MS n (.raise x):=fun h o0 a g=>raise_exec (G.ek _) (mk_x G cs x h a g).sx
theorem s_try{b fs sl}(i:MSs n b):MS n (.tryAt b fs sl):=fun h o0 a g=>
 have h1:=ands h;have h2:=ands h1.2;have h3:=ands h2.2;have h4:=ands h3.2;have h5:=ands h4.2;have h6:=ands h5.2
 try_exec (G.tk _) (G.ek _) (G.fo _) (glob_of a h1.1).1 (glob_of a h1.1).2 (slot_of a h2.1).1 ((a.kindOf _).trans (beq_iff_eq.mp h3.1)) (slot_of a h2.1).2 (nm_at a (of_decide_eq_true h4.1)) ((a.kindOf _).trans (beq_iff_eq.mp h5.1)) (beq_eq_false_iff_ne.mp (nots h6.1)) (i h6.2 a g)
omit G cs in
theorem s_nil:MSs n []:=fun h o0 a g=>execs_nil
omit G cs in
theorem s_cons{x xs}(i:MS n x)(j:MSs n xs):MSs n (x::xs):=fun h o0 a g=>execs_cons (i (ands h).1 a g) (j (ands h).2 a g)
theorem mk_ss(xs:List S):MSs n xs:=S.rec_1 (motive_1:=MS n) (motive_2:=MSs n) (fun o0=>s_expr G cs) (fun o0 o0=>s_assign G cs) (fun o0 o0=>s_unpack G cs) (fun o0 o0 o0 o0=>s_assign2 G cs) (fun o0 o0 o0=>s_setattr G cs) (fun o0 o0 o0=>s_setitem G cs)
  (fun o0 o0 o0=>s_ite G cs) (fun o0 o0=>s_while G cs) (fun o0 o0 o0 o0=>s_for G cs) (fun o0=>s_ret G cs) (fun o0=>s_raise G cs) (fun o0 o0 o0=>s_try G cs) s_nil (fun o0 o0=>s_cons) xs
end
noncomputable def FnsOk:Prop:=∀p f d,fns[f]?=some d→∃fd body,FnOk (TT.K p) f d fd body∧mkss d.body ⟨fd.scope.names,true⟩ body=(body,true)
theorem calls_ok(G:TabAll)(F:FnsOk)(n:Nat):CallsOk n:=by
 induction n with
 |zero=>exact fun c hn g f args vals o0 o0=>fun {g₁} l {st s} X {γ k r} e=>nomatch e
 |succ n ih=>
  intro c hn g f args vals ⟨d,hd⟩ hr
  obtain⟨fd,body,hF,he⟩:=F c.w.params f d hd
  refine call_sound hF hd (fun c' h1 h2 h3 h4 h5 h6 g=>?_) hn hr
  have key:=mk_ss G ih d.body (congrArg Prod.snd he) (c:=c') ⟨h1,h2,(congrArg Scope.kind h4).trans hF.kind,fun x=>congrArg (fun s:Scope=>s.names.lookup x) h4,h3,h5,fun o0=>h6⟩ g
  rw[he]at key
  exact key
end
section
noncomputable def topCx(w:World)(s₁:Shared)(fd:FuncData)(a:Addr)(n:Nat):Cx:=
 {w:=w,s₁:=s₁,A:=callerA.deeper (callEnvC fd s₁.heap.objs.size a),env:=callEnvC fd s₁.heap.objs.size a,slots:=slotsOf fd.scope.names,own:=calleeOwn fd s₁.heap.objs.size a,K:=fun o0=>none,fr:=[callEnvC fd s₁.heap.objs.size a],n:=n,k:=0}
section
variable{n f:Nat}{K:Frag}{d:FnDef}{fd:FuncData}{body:List Stmt}{w:World}{s₁ s:Shared}{a:Addr}(F:FnOk K f d fd body)(bas:BaseOk w s₁)
include F bas
theorem topOk{binds:List (Str×Value)}(hn:n≤100)(I:InCallC s₁ (callEnvC fd s₁.heap.objs.size a).locals (bindL (callEnvC fd s₁.heap.objs.size a).kindOf binds fun o0=>none) (callEnvC fd s₁.heap.objs.size a).cells
    (bindC (callEnvC fd s₁.heap.objs.size a).kindOf binds fun o0=>none) s):CxOk (topCx w s₁ fd a n) where
 kind:=F.kind
 nod:=slotsOf_nodup F.nod
 ownL:=.head _
 cells y ce hy hk hl:=⟨Nat.ne_of_gt (I.above y ce (mem_of_lookup hl)),.inl (.tail _ (List.mem_filterMap.mpr ⟨y,hy,hl⟩))⟩
 apart y z ce hy hz hk hk' hl hl':=name_of_addr I.apart (mem_of_lookup hl) (mem_of_lookup hl')
 handled:=rfl
 frames:=Around.frames_deeper (show callerA.frames=some []from rfl)
 globals:=match F.plain with | .mk _ _ _ _ _ _ _ _ _ _ _ _ e=>e▸rfl
 builtins:=match F.plain with | .mk _ _ _ _ _ _ _ _ _ _ _ _ e=>e▸rfl
 stand e he:=List.mem_singleton.mp he▸.mk (fun z=>nomatch F.kind.symm.trans z) s₁.heap.objs.size rfl (Heap.get?_none_of_le (Nat.le_refl _)) (.inl rfl)
 frame:=⟨_,_,rfl,rfl⟩
 bas:=bas
 slack:=Nat.zero_le _
 depth:=by
  show callerA.depth+1+5*n≤900
  have:callerA.depth≤301:=by decide
  lia
 units:=by
  show callerA.units+3+40*n≤9000
  have:callerA.units≤10:=by decide
  lia
theorem topSim(hg:s₁.gens=#[])(hn:n≤100){args:List W}{vals:List Value}(hr:RepsW ⟨s₁.heap.get?,[]⟩ args vals)(hl:args.length=d.np)
  (I:InCallC s₁ (callEnvC fd s₁.heap.objs.size a).locals (bindL (callEnvC fd s₁.heap.objs.size a).kindOf ((fd.params.args.map (·.arg)).zip vals) fun o0=>none) (callEnvC fd s₁.heap.objs.size a).cells
    (bindC (callEnvC fd s₁.heap.objs.size a).kindOf ((fd.params.args.map (·.arg)).zip vals) fun o0=>none) s):
  Sim (topCx w s₁ fd a n) ⟨s₁.heap.get?,[]⟩ ⟨args.map some++List.replicate (d.nl - d.np) none,[]⟩ s:=by
 have ok:=topOk F bas hn I
 have k:=I.toInCall.keep
 have hO:=callee_new F I
 have env:=enterEnv (c':=topCx w s₁ fd a n) F hr hl rfl rfl I
 obtain⟨h',tk,rfl⟩:=I.toInCall.same
 exact {
  ok:=ok
  at_:=fun b=>⟨fun o e=>⟨e,k b o e⟩,fun o e=>⟨(Kp.of (k b o e)).weak,fun vs o0 o0 q=>aBn ((bas.old b).mp q) e⟩,fun o e=>(nomatch e),fun e=>⟨Heap.get?_none_of_le (hO b e).1,(hO b e).2⟩,fun i o e=>(nomatch e)⟩
  len:=rfl
  env:=env
  gens:=hg
  os:=rfl}
end
theorem ints_rep{g:Gh}{vs:List Value}{l:List Int}(h:IntsAre vs l):Reps g.B (l.map V.int) vs:=by
 induction h with
 |nil=>exact .nil
 |cons i t _ ih=>exact .cons ⟨t,rfl⟩ ih
theorem call_top{n:Nat}(G:TabAll)(Fs:FnsOk){w:World}{s₁:Shared}(bas:BaseOk w s₁)(hg:s₁.gens=#[])(hn:n≤100){f:Nat}{d:FnDef}(hd:fns[f]?=some d){args:List W}{vals:List Value}
  (hr:RepsW ⟨s₁.heap.get?,[]⟩ args vals) {x:V} {mem:List AO} (e:cN prog (n+1) f args []=some (.ok (.v x),mem)) {R:Result→Shared→Prop}
  (hR:∀v s' B,s₁.heap.StaysIn s'.heap→s'.os=s₁.os→s'.gens=#[]→Rep B x v→R (.ok (.ret v)) s'):
  codeAny (model TT.prog w) callerA (.call (.ref (TT.fn f)) ⟨vals,[]⟩) R s₁:=by
 obtain⟨fd,body,F,hc⟩:=Fs w.params f d hd
 by_cases hl:args.length=d.np
 ·obtain⟨oc,dd,sl,hat⟩:=F.at_
  obtain⟨hal,hnd⟩:=fn_lens F hr hl
  have hbd:fd.body=.stmts body∧fd.closure=[]∧bindArgs fd ⟨vals,[]⟩=pure ((fd.params.args.map (·.arg)).zip vals):=by
   obtain⟨nm,q,ar,kd,ds,sc,kw,doc,pm,an,cd,ct,rfl⟩:=F.plain
   exact⟨rfl,rfl,bindArgs_plain hnd hal⟩
  refine codeAny_call_cells (by decide) (bas.K _ _ hat) rfl bas.nolimit (codeRec_of bas.K F.code) hbd.1 hbd.2.2 hbd.2.1
   (fun y hy=>(slotsOf_kind F.nod (List.mem_of_mem_take (F.args▸(List.of_mem_zip (show(y.1,y.2)∈_ from hy)).1))).elim .inl fun q=>.inr ⟨q,cells_some (.inl (mem_of_lookup q))⟩) (fun s I=>?_) F.cor F.gen F.kind
  have x':=topSim F bas hg hn hr hl I
  have key:=mk_ss G (calls_ok G Fs n) d.body (congrArg Prod.snd hc) (c:=topCx w s₁ fd (TT.fn f) n) ⟨rfl,rfl,F.kind,fun o0=>rfl,rfl,fun y q=>Option.isSome_iff_exists.mp (cells_some (.inl (mem_of_lookup q))),fun o0 y ce hy hk hc=>.tail _ (List.mem_filterMap.mpr ⟨y,hy,hc⟩)⟩ ⟨s₁.heap.get?,[]⟩
  rw[hc]at key
  rw[call_body n f args [] d hd hl]at e
  cases e0:B (cN prog n) d.body kEnd ⟨args.map some++List.replicate (d.nl - d.np) none,[]⟩with
  |none=>rw[e0]at e;cases e
  |some r0=>
   have e:callK (endR (some r0) 0) [] (fun(w:W) st=>some (.ok w,st))=some (.ok (.v x),⟨[],mem⟩):=congrArg (fun r=>callK r [] fun(w:W) st=>some (.ok w,st)) ((congrArg (endR · 0) e0).symm.trans e)
   refine wpAny_mono (key.h (.refl _) x' e0) (fun fl s' z=>?_) fun ev s' z=>?_
   ·obtain⟨w,g',st',le,sim,q,e1⟩:=z
    cases e1
    obtain⟨w',hw,e⟩:=endR_get e
    cases e
    exact hR _ s' _ (fun a o e=>((sim.at_ a).base o e).2) sim.os sim.gens (handBack_rep (φ:=[]) sim hw (flow_rep q))
   ·obtain⟨y,hr,_⟩:=z
    obtain⟨_,st'⟩:=r0
    cases hr
    cases e
 ·exact aBn (call_none hd hl) e
end
section
theorem zip_fact{α β:Type}{l:List α}{f g:Nat→α→β}(h:l.zipIdx.map (fun x=>f x.2 x.1)=l.zipIdx.map fun x=>g x.2 x.1){k:Nat}{a:α}(e:l[k]?=some a):f k a=g k a:=
 List.map_inj_left.mp h (a,k) (List.mem_zipIdx_iff_getElem?.mpr e)
noncomputable def nodS(l:List Str):Bool:=List.rec true (fun a l ih=>!(l.any (Fast.sEq a))&&ih) l
theorem nodS_of{l:List Str}:nodS l=true→l.Nodup:=
 List.rec (motive:=fun l=>nodS l=true→l.Nodup) (fun o0=>.nil) (fun a l ih h=>List.nodup_cons.mpr ⟨fun m=>absurd (List.any_eq_true.mpr ⟨a,m,Fast.sEq_iff.mpr rfl⟩) (Bool.not_eq_true _▸nots (ands h).1),ih (ands h).2⟩) l
noncomputable def fdD(d:Data):FuncData:=match d with | .func fd=>fd | _=>plainFd "" "" [] [] [] [] ⟨.function,[],false,false,[]⟩ .none .none .none none .none .none
noncomputable def bodyD(fd:FuncData):List Stmt:=match fd.body with | .stmts b=>b | _=>[]
noncomputable def clsD(d:Data):ClassData:=match d with | .cls cd=>cd | _=>{name:= "",bases:=[],mro:=[],ns:=0}
noncomputable def seqD(d:Data):Array Value×Nat:=match d with | .seq vs n=>(vs,n) | .fields vs=>(vs,0) | _=>(#[],0)
noncomputable def tokD(v:Value):Tok:=match v with | .str _ t=>t | .int _ t=>t | _=>default
noncomputable def adrD(v:Value):Addr:=match v with | .ref a=>a | _=>0
noncomputable section
variable(K:Frag)
noncomputable def objK(a:Addr):Obj:=(K.lookup a).getD default
noncomputable def asK(a:Addr)(d:Data):Option Obj:=some ⟨(objK K a).cls,(objK K a).dict,d,(objK K a).slots⟩
noncomputable def fdK(a:Addr):FuncData:=fdD (objK K a).data
abbrev FnT:=Option Obj×FuncData×ScopeKind×Bool×Bool×List Str×Nat×Bool×Bool×Bool×Bool×(List Stmt×Bool)
noncomputable def fnL(f:Nat)(d:FnDef):FnT:=(K.lookup (TT.fn f),fdK K (TT.fn f),(fdK K (TT.fn f)).scope.kind,(fdK K (TT.fn f)).scope.isGenerator,(fdK K (TT.fn f)).scope.isCoroutine,(fdK K (TT.fn f)).params.args.map (·.arg),(slotsOf (fdK K (TT.fn f)).scope.names).length,
 Nat.ble d.np d.nl,nodS ((fdK K (TT.fn f)).scope.names.map (·.1)),codeIn K (fdK K (TT.fn f)).code (fdK K (TT.fn f)).qualname,keepIn K (.ref (TT.fn f)),mkss d.body ⟨(fdK K (TT.fn f)).scope.names,true⟩ (bodyD (fdK K (TT.fn f))))
noncomputable def plainD(fd:FuncData):FuncData:=plainFd fd.name fd.qualname fd.params.args fd.params.kw_defaults fd.params.defaults (bodyD fd) fd.scope fd.kwdefaults fd.doc fd.pyModule fd.annotations fd.code fd.closureTuple
noncomputable def fnR(f:Nat)(d:FnDef):FnT:=(asK K (TT.fn f) (.func (fdK K (TT.fn f))),plainD (fdK K (TT.fn f)),.function,false,false,(slotsOf (fdK K (TT.fn f)).scope.names).take d.np,d.nl,true,true,true,true,(bodyD (fdK K (TT.fn f)),true))
noncomputable def clL(k:Nat)(d:ClsDef):=(nsIn K mainGlobals (TT.cname k),[hasDictIn K (TT.cls k),plainGet K (TT.cls k) "",plainOver K (TT.cls k),makesIn K (TT.cls k),keepIn K (.ref (TT.cls k)),nodS (d.fields.map TT.fld),Nat.ble d.fields.length 100,Nat.blt d.init fns.length],
 [findIn K (.ref (TT.cls k)) "__setattr__",findIn K (.ref (TT.cls k)) "__init__"],typeIn K (.ref (TT.fn d.init)),d.fields.map (fun f=>((findIn K (.ref (TT.cls k)) (TT.fld f)).map (noGet K),takerIn K (TT.cls k) (TT.fld f))),
 d.meths.map fun x=>(findIn K (.ref (TT.cls k)) (TT.mth x.1),[isFn K (.ref (TT.fn x.2)),keepIn K (.ref (TT.fn x.2)),!(d.fields.map TT.fld).any (Fast.sEq (TT.mth x.1)),Nat.blt x.2 fns.length]))
noncomputable def clR(k:Nat)(d:ClsDef):Option (Option Value)×List Bool×List (Option (Option Value))×Option Value×List (Option Bool×Option (Option Value))×List (Option (Option Value)×List Bool):=(some (some (.ref (TT.cls k))),[true,true,true,true,true,true,true,true],
 [some (some (.builtin "object.__setattr__")),some (some (.ref (TT.fn d.init)))],some (.type "function"),d.fields.map (fun f=>(some true,some none)),d.meths.map fun x=>(some (some (.ref (TT.fn x.2))),[true,true,true,true]))
noncomputable def strK(l:List Nat)(v:Value):Value:=.str ⟨l.toArray⟩ (tokD v)
noncomputable def strB(l:List Nat):Bool:=Nat.ble l.length sizeLine&&PyData.strOk ⟨l.toArray⟩
noncomputable def lstB(l:List V)(n:Nat):Bool:=Nat.beq l.length n&&(Nat.ble l.length sizeLine&&l.all fun x=>V.casesOn x false (fun o0=>false) (fun o0=>false) strB (fun o0=>false) (fun o0=>false) (fun o0 o0=>false) fun o0=>false)
noncomputable def strsK(l:List V)(vs:List Value):List Value:=List.zipWith (fun x v=>strK ((vS x).getD []) v) l vs
noncomputable def gvK(k:Nat):Value:=((nsIn K mainGlobals (TT.gname k)).join).getD .none
noncomputable def seqK(k:Nat):Array Value×Nat:=seqD (objK K (adrD (gvK K k))).data
noncomputable def glL(k:Nat)(x:V):Option (Option Value)×Option Obj×List Value×Bool:=(nsIn K mainGlobals (TT.gname k),K.lookup (adrD (gvK K k)),(seqK K k).1.toList,V.casesOn x false (fun o0=>false) (fun o0=>true) strB (fun l=>lstB l (seqK K k).1.toList.length) (fun l=>lstB l (seqK K k).1.toList.length) (fun o0 o0=>false) fun o0=>false)
noncomputable def seK(k:Nat)(l:List V)(t:String)(d:Option Addr):Option (Option Value)×Option Obj×List Value×Bool:=(some (some (.ref (adrD (gvK K k)))),some ⟨.type t,d,.seq (seqK K k).1 (seqK K k).2,(objK K (adrD (gvK K k))).slots⟩,strsK l (seqK K k).1.toList,true)
noncomputable def glR(k:Nat)(x:V):Option (Option Value)×Option Obj×List Value×Bool:=
 V.casesOn x (none,none,[],true) (fun o0=>(none,none,[],true)) (fun i=>(some (some (.int i (tokD (gvK K k)))),K.lookup (adrD (gvK K k)),(seqK K k).1.toList,true)) (fun l=>(some (some (strK l (gvK K k))),K.lookup (adrD (gvK K k)),(seqK K k).1.toList,true))
  (fun l=>seK K k l "tuple" (objK K (adrD (gvK K k))).dict) (fun l=>seK K k l "list" none) (fun o0 o0=>(none,none,[],true)) fun o0=>(none,none,[],true)
end
theorem fn_of{K:Frag}{f:Nat}{d:FnDef}(h:fnL K f d=fnR K f d):(∃fd body,FnOk K f d fd body∧mkss d.body ⟨fd.scope.names,true⟩ body=(body,true))∧keepIn K (.ref (TT.fn f))=true:=by
 have h1:=Prod.mk.inj h;have h2:=Prod.mk.inj h1.2;have h3:=Prod.mk.inj h2.2;have h4:=Prod.mk.inj h3.2;have h5:=Prod.mk.inj h4.2;have h6:=Prod.mk.inj h5.2;have h7:=Prod.mk.inj h6.2;have h8:=Prod.mk.inj h7.2;have h9:=Prod.mk.inj h8.2;have h10:=Prod.mk.inj h9.2;have h11:=Prod.mk.inj h10.2
 exact⟨⟨fdK K (TT.fn f),bodyD (fdK K (TT.fn f)),⟨⟨_,_,_,h1.1⟩,.mk _ _ _ _ _ _ _ _ _ _ _ _ h2.1,h3.1,h4.1,h5.1,h6.1,h7.1,bTl h8.1,nodS_of h9.1,h10.1⟩,h11.2⟩,h11.1⟩
theorem get_of{α:Type}{l:List α}{f:Nat}(h:Nat.blt f l.length=true):∃d,l[f]?=some d:=⟨_,gqe (bTl h)⟩
theorem lk_pair{m f:Nat}{l:List (Nat×Nat)}:l.lookup m=some f→(m,f)∈l:=
 List.rec (motive:=fun l=>l.lookup m=some f→(m,f)∈l) (fun e=>nomatch e) (fun p r ih e=>by
  by_cases q:m=p.1
  ·subst q
   have e:(bif p.1==p.1 then some p.2 else r.lookup p.1)=some f:=e
   rw[beq_self_eq_true]at e
   cases e;exact .head _
  ·have e:(bif m==p.1 then some p.2 else r.lookup m)=some f:=e
   rw[beq_false_of_ne q]at e
   exact .tail _ (ih e)) l
theorem cls_of{K:Frag}{k:Nat}{d:ClsDef}(e:clss[k]?=some d)(h:clL K k d=clR k d):nsIn K mainGlobals (TT.cname k)=some (some (.ref (TT.cls k)))∧ClsOk K k d:=by
 have h1:=Prod.mk.inj h;have h2:=Prod.mk.inj h1.2;have h3:=Prod.mk.inj h2.2;have h4:=Prod.mk.inj h3.2;have h5:=Prod.mk.inj h4.2
 have b1:=List.cons.inj h2.1;have b2:=List.cons.inj b1.2;have b3:=List.cons.inj b2.2;have b4:=List.cons.inj b3.2;have b5:=List.cons.inj b4.2;have b6:=List.cons.inj b5.2;have b7:=List.cons.inj b6.2;have b8:=List.cons.inj b7.2
 have c1:=List.cons.inj h3.1;have c2:=List.cons.inj c1.2
 have hn:=names_eq e
 have fa:=fun f hf=>Prod.mk.inj (List.map_inj_left.mp h5.1 f hf)
 refine⟨h1.1,⟨b1.1,b2.1,fun f hf=>let ⟨a,q,q'⟩:=map_get (fa f hf).1;⟨a,q,q'⟩,fun m f hm=>?_,hn▸nodS_of b6.1,?_,c1.1,b3.1,fun f hf=>(fa f hf).2,b4.1,⟨c2.1,h4.1,get_of b8.1⟩,b5.1⟩⟩
 ·have z:=Prod.mk.inj (List.map_inj_left.mp h5.2 (m,f) (lk_pair hm))
  have z1:=List.cons.inj z.2;have z2:=List.cons.inj z1.2;have z3:=List.cons.inj z2.2;have z4:=List.cons.inj z3.2
  exact⟨z.1,z1.1,z2.1,hn▸fun q=>absurd (List.any_eq_true.mpr ⟨_,q,Fast.sEq_iff.mpr rfl⟩) (Bool.not_eq_true _▸nots z3.1),get_of z4.1⟩
 ·rw[hn,lmp];exact bTl b7.1
theorem str_of{l:List Nat}{v:Value}(h:strB l=true):StrP l (strK l v):=.mk _ _ rfl rfl (bTl (ands h).1) (ands h).2
theorem strs_k{B:BH}{l:List V}:∀{vs:List Value},Nat.beq l.length vs.length=true→(l.all fun x=>V.casesOn x false (fun o0=>false) (fun o0=>false) strB (fun o0=>false) (fun o0=>false) (fun o0 o0=>false) fun o0=>false)=true→Reps B l (strsK l vs):=by
 induction l with
 |nil=>exact fun o0 o0=>.nil
 |cons x l ih=>
  intro vs e h
  cases vs with
  |nil=>exact Bool.noConfusion e
  |cons v vs=>
   have h:=ands h
   refine .cons ?_ (ih e h.2)
   cases x with
   |str s=>exact str_of h.1
   |_=>exact Bool.noConfusion h.1
theorem glob_k{K:Frag}{k:Nat}{x:V}(h:glL K k x=glR K k x):∃v,nsIn K mainGlobals (TT.gname k)=some (some v)∧Rep (fun a=>K.lookup a) x v:=by
 have seq:∀{l t d},(nsIn K mainGlobals (TT.gname k),K.lookup (adrD (gvK K k)),(seqK K k).1.toList,lstB l (seqK K k).1.toList.length)=seK K k l t d→nsIn K mainGlobals (TT.gname k)=some (some (.ref (adrD (gvK K k))))∧K.lookup (adrD (gvK K k))=some ⟨.type t,d,.seq (seqK K k).1 (seqK K k).2,(objK K (adrD (gvK K k))).slots⟩∧
   Reps (fun a=>K.lookup a) l (seqK K k).1.toList∧l.length≤sizeLine:=fun h=>by
  have h1:=Prod.mk.inj h;have h2:=Prod.mk.inj h1.2;have h3:=Prod.mk.inj h2.2
  have b:=ands h3.2;have b':=ands b.2
  exact⟨h1.1,h2.1,h3.1▸strs_k b.1 b'.2,bTl b'.1⟩
 cases x with
 |int i=>exact⟨_,(Prod.mk.inj h).1,.mk _ rfl⟩
 |str l=>exact⟨_,(Prod.mk.inj h).1,str_of (Prod.mk.inj (Prod.mk.inj (Prod.mk.inj h).2).2).2⟩
 |tup l=>have⟨a,b,r,n⟩:=seq h;exact⟨_,a,.mk _ _ _ _ rfl b rfl rfl r n⟩
 |list l=>have⟨a,b,r,n⟩:=seq h;exact⟨_,a,.mk _ _ _ _ rfl b rfl rfl r n rfl⟩
 |_=>exact nomatch (Prod.mk.inj (Prod.mk.inj (Prod.mk.inj h).2).2).2
end
section
noncomputable section
noncomputable def faultFd(d:FuncData):FuncData:={d with
 params:=⟨[],[⟨"self",none,⟨7,17,7,21⟩⟩,⟨"what",none,⟨7,23,7,27⟩⟩,⟨"at",none,⟨7,29,7,31⟩⟩],none,[],d.params.kw_defaults,none,d.params.defaults⟩
 body:=.stmts (initBody ⟨8,8,8,13⟩ ⟨8,8,8,15⟩ ⟨8,25,8,29⟩ ⟨8,8,8,30⟩ ⟨9,8,9,12⟩ ⟨9,8,9,17⟩ ⟨9,20,9,24⟩ ⟨9,8,9,24⟩ ⟨10,8,10,12⟩ ⟨10,8,10,15⟩ ⟨10,18,10,20⟩ ⟨10,8,10,20⟩)
 scope:=⟨.function,[("self",.local),("what",.local),("at",.local),("__class__",.free),("super",.globalImplicit)],false,false,d.scope.more⟩
 globals:=mainGlobals
 builtins:=builtinsNs
 closure:=[("__class__",25)]
 defaults:=.ref 30
 code:=.ref 37}
variable(K:Frag)
noncomputable def cdK:ClassData:=clsD (objK K 61).data
noncomputable def slK(i:Nat):Option Value:=((objK K 61).slots[i]?).join
noncomputable def faL:List (Option Obj)×Option Value×List (Option (Option Value))×List (Option Value)×List Bool×List (Option Bool):=
 ([K.lookup 61,K.lookup 38,K.lookup 25,K.lookup 37,K.lookup 30],(seqD (objK K 37).data).1[2]?,
  [findIn K (.ref 61) "__init__",findIn K (.ref 61) "__setattr__",takerIn K 61 "what",takerIn K 61 "at",nsIn K cStatics "thirdparty.any",nsIn K mainGlobals "super",findIn K (.ref 61) "__getattribute__",findIn K (.ref 61) "__getattr__",nsIn K mainGlobals TT.ename],
  [typeIn K (.ref 38),typeIn K (.ref 61)],[codeIn K (.ref 37) (fdK K 38).qualname,(clsIn K 48).isSome,keepIn K (.ref 61),hasDictIn K 61],[mroIn K 61 (.type "type"),mroIn K 61 (.type "BaseException"),(findIn K (.ref 61) (TT.fld 0)).map (noGet K)])
noncomputable def faR:List (Option Obj)×Option Value×List (Option (Option Value))×List (Option Value)×List Bool×List (Option Bool):=
 ([some (excClassObj (cdK K).name (cdK K).qualname 61 (cdK K).ns (cdK K).bases [.ref 48,.type "Exception",.type "BaseException",.type "object"] true (cdK K).slotNames (cdK K).subclasses (cdK K).abstract (cdK K).collection (objK K 61).dict (slK K 0) (slK K 1) (slK K 2) (slK K 3) (slK K 5) "Exception.__new__"),asK K 38 (.func (faultFd (fdK K 38))),asK K 25 (.cell (some (.ref 48))),asK K 37 (.fields (seqD (objK K 37).data).1),asK K 30 (.seq #[.int (-1) (tokD (((seqD (objK K 30).data).1[0]?).getD .none))] (seqD (objK K 30).data).2)],
  some (.str prog0.main.file (tokD (((seqD (objK K 37).data).1[2]?).getD .none))),
  [some (some (.ref 38)),some (some (.builtin "object.__setattr__")),some none,some none,some none,some none,some (some (.builtin "BaseException.__getattribute__")),some none,some (some (.ref 61))],
  [some (.type "function"),some (.type "type")],[true,true,true,true],[some false,some true,some true])
end
theorem fault_of{K:Frag}(h:faL K=faR K):FaultOk K∧ExcOk K∧nsIn K mainGlobals TT.ename=some (some (.ref TT.exc)):=by
 have h1:=Prod.mk.inj h;have h2:=Prod.mk.inj h1.2;have h3:=Prod.mk.inj h2.2;have h4:=Prod.mk.inj h3.2;have h5:=Prod.mk.inj h4.2
 have a1:=List.cons.inj h1.1;have a2:=List.cons.inj a1.2;have a3:=List.cons.inj a2.2;have a4:=List.cons.inj a3.2;have a5:=List.cons.inj a4.2
 have b1:=List.cons.inj h3.1;have b2:=List.cons.inj b1.2;have b3:=List.cons.inj b2.2;have b4:=List.cons.inj b3.2;have b5:=List.cons.inj b4.2;have b6:=List.cons.inj b5.2;have b7:=List.cons.inj b6.2;have b8:=List.cons.inj b7.2;have b9:=List.cons.inj b8.2
 have c1:=List.cons.inj h4.1;have c2:=List.cons.inj c1.2
 have d1:=List.cons.inj h5.1;have d2:=List.cons.inj d1.2;have d3:=List.cons.inj d2.2;have d4:=List.cons.inj d3.2
 have e1:=List.cons.inj h5.2;have e2:=List.cons.inj e1.2;have e3:=List.cons.inj e2.2
 have hc:clsIn K 61=some _:=(by unfold clsIn;rw[a1.1])
 refine⟨⟨48,38,37,faultFd (fdK K 38),_,{
  objC:=⟨_,_,_,_,_,_,_,_,_,_,_,_,_,_,a1.1⟩
  init:=b1.1
  ty:=c1.1
  fn:=⟨_,_,_,a2.1⟩
  head:=⟨_,rfl,rfl⟩
  body:=⟨_,_,_,_,_,_,_,_,_,_,_,_,rfl⟩
  bind:=fun s e v v2 X=>binds_K X (T:=30) rfl a5.1 rfl rfl rfl
  names:=rfl
  kind:=rfl
  cor:=rfl
  gen:=rfl
  clo:=⟨25,_,_,_,rfl,a3.1⟩
  glob:=rfl
  blt:=rfl
  code:=rfl
  codeIn:=d1.1
  codeo:=⟨_,_,_,_,_,_,a4.1,h2.1,beq_self_eq_true _⟩
  top:=by kernel_rfl
  ne:=show(61:Nat)≠48 by decide
  clsC:=hc
  mro:=rfl
  dict:=rfl
  clsD:=Option.isSome_iff_exists.mp d2.1
  setat:=b2.1
  takeWhat:=b3.1
  takeAt:=b4.1
  opq:=b5.1
  super_:=b6.1},rfl⟩,⟨e1.1,e2.1,c2.1,d3.1,d4.1,b7.1,b8.1,map_get e3.1⟩,b9.1⟩
end
section
set_option maxRecDepth 100000
set_option maxHeartbeats 0
noncomputable def bltNames:List Str:=["len", "int", "str", "abs", "sum", "tuple", "isinstance", "range", "enumerate"]
noncomputable def fnmR(f:Nat)(n:Str):Option (Option Value):=Bool.rec (some (some (.ref (TT.fn f)))) (some none) (Fast.sEq n "")
theorem tab_fact(p:Params):(fns.zipIdx.map (fun x=>fnL (TT.K p) x.2 x.1),clss.zipIdx.map (fun x=>clL (TT.K p) x.2 x.1),globs.zipIdx.map (fun x=>glL (TT.K p) x.2 x.1),fnNames.zipIdx.map (fun x=>nsIn (TT.K p) mainGlobals x.1),bltNames.map (nsIn (TT.K p) mainGlobals),faL (TT.K p))=
  (fns.zipIdx.map (fun x=>fnR (TT.K p) x.2 x.1),clss.zipIdx.map (fun x=>clR x.2 x.1),globs.zipIdx.map (fun x=>glR (TT.K p) x.2 x.1),fnNames.zipIdx.map (fun x=>fnmR x.2 x.1),bltNames.map (fun o0=>some none),faR (TT.K p)):=by kernel_rfl
theorem fns_ok:FnsOk:=fun p o0 o0 e=>(fn_of (zip_fact (Prod.mk.inj (tab_fact p)).1 e)).1
theorem tab_all:TabAll:=by
 have h:=fun p=>Prod.mk.inj (tab_fact p)
 have h2:=fun p=>Prod.mk.inj (h p).2
 have h3:=fun p=>Prod.mk.inj (h2 p).2
 have h4:=fun p=>Prod.mk.inj (h3 p).2
 have h5:=fun p=>Prod.mk.inj (h4 p).2
 have fa:=fun p=>fault_of (h5 p).2
 refine⟨fun p=>⟨fun k x e=>glob_k (zip_fact (h3 p).1 e),fun f hf=>?_,fun k hk=>(cls_of (gqe hk) (zip_fact (h2 p).1 (gqe hk))).1,(fa p).2.2,fun n hn=>List.map_inj_left.mp (h5 p).1 n hn⟩,
  fun p k d e=>(cls_of e (zip_fact (h2 p).1 e)).2,fun p=>(fa p).2.1,fun p=>(fa p).1,fun p f hf=>(fn_of (zip_fact (h p).1 (gqe hf))).2⟩
 have e:fnNames[f]?=some (TT.fname f):=by
  have q:TT.fname f=fnNames.getD f "" :=rfl
  rw[q,List.getD_eq_getElem?_getD]at hf ⊢
  cases z:fnNames[f]? with
  |none=>rw[z]at hf;exact absurd rfl hf
  |some n=>rfl
 have z:=zip_fact (f:=fun o0 n=>nsIn (TT.K p) mainGlobals n) (g:=fnmR) (h4 p).1 e
 have q:Fast.sEq (TT.fname f) "" =false:=Bool.eq_false_iff.mpr fun q=>hf (Fast.sEq_iff.mp q)
 exact z.trans (by unfold fnmR;rw[q])
end
section
set_option tactic.hygienic true
set_option maxRecDepth 100000
set_option maxHeartbeats 4000000
theorem fst_map{α β:Type}{l:List α}{f:α→β}:(l.map fun a=>(a,f a)).map (·.1)=l:=(List.map_map ..).trans (List.map_id l)
theorem Y_facts{w:World}{s:Shared}(Y:Yf0 s=Ya0 w):(TT.K w.params).In s.heap∧s.heap.objs.size=483∧∀a,a < 483→(s.heap.get? a).isSome=true:=by
 have h1:=Prod.mk.inj Y;have h2:=Prod.mk.inj h1.2
 exact⟨Frag.in_of (as:=as0) fst_map.symm h1.1,h2.1,fun a h=>List.all_eq_true.mp h2.2 a (List.mem_range.mpr h)⟩
theorem old_iff{h:Heap}(n:h.objs.size=484)(al:∀a,a < 484→(h.get? a).isSome=true)(a:Addr):TT.old a=false↔h.get? a=none:=by
 rcases Nat.lt_or_ge a 484 with q | q
 ·exact⟨fun e=>absurd (Nat.ble_eq.mpr q:TT.old a=true) (Bool.not_eq_true _▸e),fun e=>aBn e (Option.eq_some_of_isSome (al a q))⟩
 ·exact⟨fun o0=>Heap.get?_none_of_le (n▸q),fun o0=>Bool.eq_false_iff.mpr fun e=>absurd (Nat.ble_eq.mp e) (Nat.not_le.mpr (Nat.lt_succ_of_le q))⟩
theorem walk(hp:∀l:List Int,l.length≤63→∃mem,cN prog 20 51 [.v (.list (l.map .int))] []=some (.ok (.v (.bool true)),mem)){d:DefRec}{kwd:List (Str×Expr)}(hn:d.name= "law"):WalkX q0 loose0 (fun o0 o0=>True) Yf0 Ya0 law0.row.toRowW d kwd fun f vs=>PySem.call f vs:=by
 intro w s₀ s₁ mg mb G Y fa o pm cd doc dV kV ho hd' hcd hD hmg hg args vals as L hpre hlay hrd hwl hlo
 refine Ground.open G ?_
 intro T B D TE TW
 clear hd' hcd hD B D TE TW G ho
 obtain⟨KX,h1,h2⟩:=Y_facts Y
 clear Y
 wrow_args hpre hlay hrd hwl hlo
 rename_i l _ _ _ _ _ _ _ a vs _ hL _ _ _ hI _ hlen _
 obtain⟨rfl,h3⟩:=X.script_at L
 have ha:=X.script_obj L hL
 have hlen':l.length≤63:=by lia
 have KX:=KX.keeps L.keeps
 have al:∀a,a < 484→(s₁.heap.get? a).isSome=true:=fun a h=>by
  rcases Nat.lt_succ_iff_lt_or_eq.mp h with q | q
  ·obtain⟨o,e⟩:=Option.isSome_iff_exists.mp (h2 a q)
   rw[L.keeps a o e];rfl
  ·rw[h1]at ha;rw[q,ha];rfl
 have bas:BaseOk w s₁:=⟨KX,⟨mg,T.g⟩,⟨mb,T.b,T.builtins⟩,T.nolimit,old_iff (h3.trans (congrArg Nat.succ h1)) al⟩
 have hfa:fa=TT.fn 51:=by
  have z:=mg_of KX T.g ((tab_all.tk w.params).fn 51 (by decide+kernel))
  have q:d.name=TT.fname 51:=hn
  rw[q,z]at hmg
  cases hmg;rfl
 rw[hfa]
 obtain⟨mem,hcall⟩:=hp l hlen'
 refine enter_call ?_
 refine codeAny_mono ?_ (fun o0 o0 g=>GoodW.toG g)
 have hn:(l.map V.int).length≤sizeLine:=by rw[lmp];exact ltr hlen' (by decide+kernel)
 have hrep:RepsW ⟨s₁.heap.get?,[]⟩ [W.v (V.list (l.map V.int))] [Value.ref s₀.heap.objs.size]:=.cons (.mk _ _ _ _ rfl ha rfl rfl (ints_rep hI) hn rfl) .nil
 refine call_top (n:=19) tab_all fns_ok bas hg (by decide) (f:=51) rfl hrep hcall fun v s' B hst hos hgs hv=>?_
 cases (hv:v=.bool true)
 refine⟨.inl ⟨.bool true,.bool true,[],rfl,fun o0=>rfl,.bool true,?_,fun o0=>⟨List.nodup_nil,fun o0 h=>nomatch h⟩⟩,hst,hos,hgs⟩
 wrow_post
theorem fin(hp:∀l:List Int,l.length≤63→∃mem,cN prog 20 51 [.v (.list (l.map .int))] []=some (.ok (.v (.bool true)),mem)):PySem.Challenge.rw_pf0147_01.Holds:=by
 obtain⟨⟨d,kwd⟩,hdef⟩:=Option.isSome_iff_exists.mp (show(defOf q0 law0.row.name).isSome=true by kernel_rfl)
 have e1:(defOf q0 law0.row.name).map (fun x=>some (x.1.params,x.1.body,x.1.scope))=some (law0.row.prog.theDef law0.row.name):=by kernel_rfl
 have e2:(defOf q0 law0.row.name).map (fun x=>kwWritten? x.1.params.kwonlyargs x.1.params.kw_defaults)=(defOf q0 law0.row.name).map (fun x=>some x.2):=by kernel_rfl
 rw[hdef]at e1 e2
 exact⟨said,holds_openX left0 (fun o0 o0=>trivial) (fun o0 o0 o0 o0 o0=>trivial) hdef (Option.some.inj e1).symm (Option.some.inj e2) (fun s o0=>recFacts_nil rfl) rfl (row_said said) (by kernel_rfl) ⟨rfl,rfl,rfl,rfl,rfl,by kernel_rfl⟩ ⟨[.list []],by kernel_rfl,by kernel_rfl⟩ (walk hp (defOf_name hdef))⟩
end
end Mine
theorem PySem.Challenge.cw_pf0147_01_holds : PySem.Challenge.rw_pf0147_01.Holds :=
 Mine.fin Mine.law_all
